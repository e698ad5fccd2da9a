import PyProof.Rows.All
import Wide.All
import OpenK.AllK
import Wide.FinOn
import HandS.ForMost
import HandS.Star
import HandS.Zip
import HandS.TupAny
import HandS.Deep
import HandS.Flow
import KE.DataMinMax
import KE.SortData
import KE.KDictKeyed
import KE.KeyNested
import PyProof.ReprRoads
import HandS.Style
import HandS.Lambda
import HandS.TupMul
import KE.KTupSum
import KE.DataAny
import HandS.ForExc
import KE.GoesEnum
import KE.GoesEnumKw
import HandS.SortKw
import HandS.Words
import HandS.Dict
import HandS.Ends
import HandS.Iter
import HandS.IsInst
import HandS.WideBits
import HandS.Conv
import HandS.TryOnly
import KE.KDictWalk
import KE.KDictPairs
import HandS.TupLen
import KE.KDictCopyH
import HandS.DictComp
import KE.SortKeyHeap
import HandS.EndTab
import PySem.Challenge.RW_bitsasked_k54_whole_balanced_functions
set_option Elab.async false
set_option linter.all false
set_option maxRecDepth 1000000
/-! BA0: plain data, the monad of runs, combinators -/
namespace BA
open PySem

abbrev D := PyData
abbrev Rho := List (Option D)

/-- the law's source of picks: its cells (the next one last), what is left, the mixed number, the turn -/
structure Src where
  cells : List Int
  left : Int
  mixed : Int
  turn : Int

inductive Out (α : Type) where
  | ok (a : α) (s : Src)
  | bad
def M (α : Type) := Src → Out α
def pur {α : Type} (a : α) : M α := fun s => .ok a s
def bad {α : Type} : M α := fun _ => .bad
def bnd {α β : Type} (x : M α) (f : α → M β) : M β := fun s => match x s with
  | .ok a s' => f a s'
  | .bad => .bad
def opt {α : Type} : Option α → M α
  | some a => pur a
  | none => bad
@[simp] theorem bnd_pur {α β : Type} (a : α) (f : α → M β) : bnd (pur a) f = f a := rfl
@[simp] theorem bnd_bad {α β : Type} (f : α → M β) : bnd bad f = bad := rfl
@[simp] theorem opt_some {α : Type} (a : α) : opt (some a) = pur a := rfl
@[simp] theorem opt_none {α : Type} : opt (none : Option α) = bad := rfl
theorem bnd_assoc {α β γ : Type} (x : M α) (f : α → M β) (g : β → M γ) : bnd (bnd x f) g = bnd x fun a => bnd (f a) g := by
  funext s
  unfold bnd
  cases x s <;> rfl
theorem bnd_pur_right {α : Type} (x : M α) : bnd x pur = x := by
  funext s
  unfold bnd
  cases x s <;> rfl
/-- what a run's end is wanted to be -/
def post {α : Type} (x : M α) (P : α → Src → Prop) (s : Src) : Prop := match x s with
  | .ok a s' => P a s'
  | .bad => False
theorem post_pur {α : Type} {a : α} {P : α → Src → Prop} {s : Src} : post (pur a) P s = P a s := rfl
theorem post_bad {α : Type} {P : α → Src → Prop} {s : Src} : post bad P s = False := rfl
theorem post_bnd {α β : Type} {x : M α} {f : α → M β} {P : β → Src → Prop} {s : Src} : post (bnd x f) P s = post x (fun a s' => post (f a) P s') s := by
  unfold post bnd
  cases x s <;> rfl
theorem post_opt {α : Type} {o : Option α} {P : α → Src → Prop} {s : Src} : post (opt o) P s ↔ ∃ a, o = some a ∧ P a s := by
  cases o with
  | none => exact ⟨fun h => h.elim, fun ⟨_, h, _⟩ => nomatch h⟩
  | some a => exact ⟨fun h => ⟨a, rfl, h⟩, fun ⟨b, h, p⟩ => by cases h; exact p⟩
theorem post_mono {α : Type} {x : M α} {P Q : α → Src → Prop} {s : Src} (h : post x P s) (k : ∀ a s', P a s' → Q a s') : post x Q s := by
  unfold post at *
  cases e : x s with
  | ok a s' => rw [e] at h; exact k _ _ h
  | bad => rw [e] at h; exact h

/-! ### slots -/
def getV : Rho → Nat → Option D
  | [], _ => none
  | o :: _, 0 => o
  | _ :: r, i + 1 => getV r i
def setV : Rho → Nat → D → Rho
  | [], _, _ => []
  | _ :: r, 0, d => some d :: r
  | o :: r, i + 1, d => o :: setV r i d
def wipeV : Rho → Nat → Rho
  | [], _ => []
  | _ :: r, 0 => none :: r
  | o :: r, i + 1 => o :: wipeV r i
@[simp] theorem getV_zero (o : Option D) (r : Rho) : getV (o :: r) 0 = o := rfl
@[simp] theorem getV_succ (o : Option D) (r : Rho) (i : Nat) : getV (o :: r) (i + 1) = getV r i := rfl
@[simp] theorem setV_zero (o : Option D) (r : Rho) (d : D) : setV (o :: r) 0 d = some d :: r := rfl
@[simp] theorem setV_succ (o : Option D) (r : Rho) (i : Nat) (d : D) : setV (o :: r) (i + 1) d = o :: setV r i d := rfl
@[simp] theorem wipeV_zero (o : Option D) (r : Rho) : wipeV (o :: r) 0 = none :: r := rfl
@[simp] theorem wipeV_succ (o : Option D) (r : Rho) (i : Nat) : wipeV (o :: r) (i + 1) = o :: wipeV r i := rfl
def blank (ρ : Rho) : List Nat → Rho
  | [] => ρ
  | i :: is => wipeV (blank ρ is) i

/-! ### operations on data -/
def szOk (n : Nat) : Bool := Nat.ble n 16777216
def small64 (i : Int) : Bool := match i with
  | .ofNat n => Nat.ble n 18446744073709551615
  | .negSucc n => Nat.ble n 18446744073709551614
theorem small64_iff {i : Int} : small64 i = true ↔ -(2 ^ 64) < i ∧ i < 2 ^ 64 := by
  cases i with
  | ofNat n =>
    show Nat.ble n _ = true ↔ _
    rw [Nat.ble_eq]
    show n ≤ _ ↔ -(2 ^ 64) < (n : Int) ∧ (n : Int) < 2 ^ 64
    omega
  | negSucc n =>
    show Nat.ble n _ = true ↔ _
    rw [Nat.ble_eq, Int.negSucc_eq]
    omega
theorem small64_of {i : Int} (h1 : -(2 ^ 64) < i) (h2 : i < 2 ^ 64) : small64 i = true := small64_iff.mpr ⟨h1, h2⟩
def intOp (o : Operator) (a b : Int) : Option D := match o with
  | .Add => some (.int (a + b))
  | .Sub => some (.int (a - b))
  | .Mult => if small64 a || small64 b then some (.int (a * b)) else none
  | .FloorDiv => if decide (0 < b) && decide (b < 1073741824) then some (.int (a / b)) else none
  | .Mod => if decide (0 < b) then some (.int (a % b)) else none
  | .LShift => if decide (0 ≤ b) && decide (b ≤ 1000000) && small64 a then some (.int (a * 2 ^ b.toNat)) else none
  | .Pow => if decide (0 ≤ b) && decide (b ≤ 1000000) && small64 a then some (.int (a ^ b.toNat)) else none
  | _ => none
def repK (k : Int) (n : Nat) : Bool := decide (-(2 ^ 63) ≤ k) && decide (k < 2 ^ 63) && szOk (n * k.toNat)
def repT (k : Int) (n : Nat) : Bool := decide (-(2 ^ 63) ≤ k) && decide (k ≤ 1000) && Nat.ble n 1000
def op2 (o : Operator) (x y : D) : Option D := match x, y with
  | .int a, .int b => intOp o a b
  | .tuple xs, .tuple ys => match o with
    | .Add => if szOk (xs.length + ys.length) then some (.tuple (xs ++ ys)) else none
    | _ => none
  | .list xs, .list ys => match o with
    | .Add => if szOk (xs.length + ys.length) then some (.list (xs ++ ys)) else none
    | _ => none
  | .list xs, .int k => match o with
    | .Mult => if repK k xs.length then some (.list (List.replicate k.toNat xs).flatten) else none
    | _ => none
  | .tuple xs, .int k => match o with
    | .Mult => if repT k xs.length then some (.tuple (List.replicate k.toNat xs).flatten) else none
    | _ => none
  | _, _ => none

def eqD (x y : D) : Option Bool := match x, y with
  | .int a, .int b => some (decide (a = b))
  | .str a, .str b => some (decide (a = b))
  | _, _ => if SeqAt.shaped x && SeqAt.shaped y then some (PyData.eqv x y) else none
def isNoneD : D → Bool
  | .none => true
  | _ => false
def ltD (x y : D) : Option Bool := match x, y with
  | .int a, .int b => some (decide (a < b))
  | _, _ => if PySem.W.alike x y && !isNoneD x && decide (x.depth ≤ 64) && decide (y.depth ≤ 64) && (!x.hasDict && !y.hasDict) then some (PySem.W.dataLt x y) else none
def inD (x y : D) : Option Bool := match y with
  | .list ys => if SeqAt.shaped x && SeqAt.shaped y then some (ys.any fun z => PyData.eqv z x) else none
  | .tuple ys => if SeqAt.shaped x && SeqAt.shaped y then some (ys.any fun z => PyData.eqv z x) else none
  | _ => none
def isBoolD (b : Bool) : D → Bool
  | .bool k => k == b
  | _ => false
/-- x is None, x is True, x is False -/
def isD (x y : D) : Option Bool := match y with
  | .none => some (isNoneD x)
  | .bool b => some (isBoolD b x)
  | _ => none
def cmpD (o : CmpOp) (x y : D) : Option Bool := match o with
  | .Eq => eqD x y
  | .NotEq => (eqD x y).map (! ·)
  | .Lt => ltD x y
  | .Gt => match x, y with
    | .int a, .int b => some (decide (b < a))
    | _, _ => none
  | .LtE => match x, y with
    | .int a, .int b => some (decide (a ≤ b))
    | _, _ => none
  | .GtE => match x, y with
    | .int a, .int b => some (decide (b ≤ a))
    | _, _ => none
  | .In => inD x y
  | .NotIn => (inD x y).map (! ·)
  | .Is => isD x y
  | .IsNot => (isD x y).map (! ·)

def allInt : List D → Bool
  | [] => true
  | .int _ :: r => allInt r
  | _ :: _ => false
def hasInt (a : Int) : List D → Bool
  | .int b :: r => if decide (b = a) then true else hasInt a r
  | _ => false
/-- 'in' of a whole number among whole numbers in short -/
def inF (x y : D) : Option Bool := match x, y with
  | .int a, .list ys => if allInt ys then some (hasInt a ys) else inD x y
  | .int a, .tuple ys => if allInt ys then some (hasInt a ys) else inD x y
  | _, _ => inD x y
def cmpF (o : CmpOp) (x y : D) : Option Bool := match o with
  | .In => inF x y
  | .NotIn => (inF x y).map (! ·)
  | _ => cmpD o x y
def ixD (x i : D) : Option D := match x, i with
  | .list xs, .int k => L2.atI xs k
  | .tuple xs, .int k => L2.atI xs k
  | _, _ => none
def cutD (xs : List D) (lo hi : Option Int) : List D := (xs.drop (HT.sIx xs.length 0 lo)).take (HT.sIx xs.length xs.length hi - HT.sIx xs.length 0 lo)
def sliceD (x : D) (lo hi : Option Int) : Option D := match x with
  | .list xs => some (.list (cutD xs lo hi))
  | .tuple xs => some (.tuple (cutD xs lo hi))
  | _ => none
def seqD (x : D) : Option (List D) := match x with
  | .list xs => some xs
  | .tuple xs => some xs
  | _ => none
def asB (d : D) : Option Bool := match d with
  | .bool b => some b
  | _ => none
def asI (d : D) : Option Int := match d with
  | .int b => some b
  | _ => none
def intsD : List D → Option (List Int)
  | [] => some []
  | d :: r => match asI d with
    | some i => (intsD r).map (i :: ·)
    | none => none
def asT (d : D) : Option Bool := match d with
  | .bool b => some b
  | .int i => some (i != 0)
  | _ => none
def boolsD : List D → Option (List Bool)
  | [] => some []
  | d :: r => match asT d with
    | some i => (boolsD r).map (i :: ·)
    | none => none
def maxI (m : Int) (ns : List Int) : Int := ns.foldl max m
def minI (m : Int) (ns : List Int) : Int := ns.foldl min m
/-- every two of them can be compared -/
def alikeB (ds : List D) : Bool := (ds.all fun x => ds.all fun y => PySem.W.alike x y) && (ds.all fun x => !isNoneD x) && Nat.ble (PyData.depthAll ds) 60 && PyData.canLayAll0 ds
def bestOf (f : Int → List Int → Int) (g : D → List D → D) (x : D) : Option D := match seqD x with
  | some (y :: ys) => match intsD (y :: ys) with
    | some (n :: ns) => some (.int (f n ns))
    | _ => if alikeB (y :: ys) then some (g y ys) else none
  | _ => none

/-- the built-in functions that are known -/
inductive Pm where
  | len | sum | max | min | any | all | tuple | list | int | abs | repr | isInt | isBool | isTuple | isStr | isList
  deriving DecidableEq, Repr
def ofInts (x : D) (f : List Int → Option D) : Option D := match seqD x with
  | some ys => match intsD ys with
    | some ns => f ns
    | none => none
  | none => none
def ofBools (x : D) (f : List Bool → D) : Option D := match seqD x with
  | some ys => match boolsD ys with
    | some ns => some (f ns)
    | none => none
  | none => none
def prim (f : Pm) (xs : List D) : Option D := match f with
  | .len => match xs with
    | [x] => match seqD x with
      | some ys => some (.int ys.length)
      | none => none
    | _ => none
  | .sum => match xs with
    | [x] => ofInts x fun ns => some (.int ns.sum)
    | _ => none
  | .max => match xs with
    | [x] => bestOf maxI PySem.W.maxD x
    | [x, y] => match asI x, asI y with
      | some a, some b => some (.int (if b > a then b else a))
      | _, _ => none
    | _ => none
  | .min => match xs with
    | [x] => bestOf minI PySem.W.minD x
    | [x, y] => match asI x, asI y with
      | some a, some b => some (.int (if b < a then b else a))
      | _, _ => none
    | _ => none
  | .any => match xs with
    | [x] => ofBools x fun bs => .bool (bs.any id)
    | _ => none
  | .all => match xs with
    | [x] => ofBools x fun bs => .bool (bs.all id)
    | _ => none
  | .tuple => match xs with
    | [x] => (seqD x).map .tuple
    | _ => none
  | .list => match xs with
    | [x] => (seqD x).map .list
    | _ => none
  | .int => match xs with
    | [.int i] => some (.int i)
    | [.bool b] => some (.int (if b then 1 else 0))
    | _ => none
  | .abs => match xs with
    | [.int i] => some (.int (if i < 0 then -i else i))
    | _ => none
  | .repr => match xs with
    | [x] => if x.showable && szOk x.shown.length then some (.str x.shown) else none
    | _ => none
  | .isInt => match xs with
    | [x] => some (.bool (match x with | .int _ => true | .bool _ => true | _ => false))
    | _ => none
  | .isBool => match xs with
    | [x] => some (.bool (match x with | .bool _ => true | _ => false))
    | _ => none
  | .isTuple => match xs with
    | [x] => some (.bool (match x with | .tuple _ => true | _ => false))
    | _ => none
  | .isStr => match xs with
    | [x] => some (.bool (match x with | .str _ => true | _ => false))
    | _ => none
  | .isList => match xs with
    | [x] => some (.bool (match x with | .list _ => true | _ => false))
    | _ => none

/-! ### targets -/
abbrev G := D → Rho → Option Rho
abbrev Gs := List D → Rho → Option Rho
def gVar (i : Nat) : G := fun d ρ => some (setV ρ i d)
def gNil : Gs := fun xs ρ => match xs with
  | [] => some ρ
  | _ :: _ => none
def gCons (g : G) (gs : Gs) : Gs := fun xs ρ => match xs with
  | [] => none
  | x :: r => match g x ρ with
    | some ρ' => gs r ρ'
    | none => none
def gTup (gs : Gs) : G := fun d ρ => match d with
  | .tuple xs => gs xs ρ
  | _ => none

/-! ### expressions -/
abbrev Calls := Nat → List D → M D
abbrev E := Calls → Rho → M D
abbrev Es := Calls → Rho → M (List D)
abbrev Eo := Calls → Rho → M (Option Int)
abbrev Et := Calls → Rho → M Bool
abbrev S (φ : Type) := Calls → Rho → M φ

def xCon (d : D) : E := fun _ _ => pur d
def xVar (i : Nat) : E := fun _ ρ => opt (getV ρ i)
def xOp (o : Operator) (a b : E) : E := fun C ρ => bnd (a C ρ) fun x => bnd (b C ρ) fun y => opt (op2 o x y)
def xNeg (a : E) : E := fun C ρ => bnd (a C ρ) fun x => bnd (opt (asI x)) fun i => pur (.int (-i))
def xNot (a : E) : E := fun C ρ => bnd (a C ρ) fun x => bnd (opt (asB x)) fun b => pur (.bool (!b))
def xCmp (o : CmpOp) (a b : E) : E := fun C ρ => bnd (a C ρ) fun x => bnd (b C ρ) fun y => bnd (opt (cmpF o x y)) fun k => pur (.bool k)
def xCmp2 (o1 o2 : CmpOp) (a b c : E) : E := fun C ρ => bnd (a C ρ) fun x => bnd (b C ρ) fun y => bnd (opt (cmpF o1 x y)) fun k =>
  if k then bnd (c C ρ) fun z => bnd (opt (cmpF o2 y z)) fun k => pur (.bool k) else pur (.bool false)
def xAnd (a b : E) : E := fun C ρ => bnd (a C ρ) fun x => bnd (opt (asB x)) fun k => if k then b C ρ else pur (.bool false)
def xOr (a b : E) : E := fun C ρ => bnd (a C ρ) fun x => bnd (opt (asB x)) fun k => if k then pur (.bool true) else b C ρ
def xIf (c a b : E) : E := fun C ρ => bnd (c C ρ) fun x => bnd (opt (asB x)) fun k => if k then a C ρ else b C ρ
def xNil : Es := fun _ _ => pur []
def xCons (a : E) (r : Es) : Es := fun C ρ => bnd (a C ρ) fun d => bnd (r C ρ) fun ds => pur (d :: ds)
def xStar (a : E) (r : Es) : Es := fun C ρ => bnd (a C ρ) fun d => bnd (opt (seqD d)) fun xs => bnd (r C ρ) fun ds => pur (xs ++ ds)
def xTup (r : Es) : E := fun C ρ => bnd (r C ρ) fun ds => if szOk ds.length then pur (.tuple ds) else bad
def xLst (r : Es) : E := fun C ρ => bnd (r C ρ) fun ds => if szOk ds.length then pur (.list ds) else bad
def xSub (a i : E) : E := fun C ρ => bnd (a C ρ) fun x => bnd (i C ρ) fun y => opt (ixD x y)
def xNo : Eo := fun _ _ => pur none
def xPart (a : E) : Eo := fun C ρ => bnd (a C ρ) fun x => bnd (opt (asI x)) fun i => pur (some i)
def xSlice (a : E) (lo hi : Eo) : E := fun C ρ => bnd (a C ρ) fun x => bnd (lo C ρ) fun l => bnd (hi C ρ) fun h => opt (sliceD x l h)
def revD (x : D) : Option D := match x with
  | .list xs => some (.list xs.reverse)
  | _ => none
def xRev (a : E) : E := fun C ρ => bnd (a C ρ) fun x => opt (revD x)
def xCall (f : Nat) (r : Es) : E := fun C ρ => bnd (r C ρ) fun ds => C f ds
mutual
def imm : D → Bool
  | .list _ => false
  | .dict _ => false
  | .tuple xs => immAll xs
  | _ => true
def immAll : List D → Bool
  | [] => true
  | x :: xs => imm x && immAll xs
end
def xCallB (f : Nat) (r : Es) : E := fun C ρ => bnd (r C ρ) fun ds => bnd (C f ds) fun d => if imm d then pur d else bad
def xCallV (i : Nat) (r : Es) : E := fun C ρ => bnd (opt (getV ρ i)) fun f => bnd (opt (asI f)) fun k => bnd (r C ρ) fun ds => C k.toNat ds
def xPrim (f : Pm) (r : Es) : E := fun C ρ => bnd (r C ρ) fun ds => opt (prim f ds)

def rangeL (a b : Int) : List D := (List.range (b - a).toNat).map fun (i : Nat) => PyData.int (a + i)
def iVal (a : E) : Es := fun C ρ => bnd (a C ρ) fun x => opt (seqD x)
/-- tests of size that stop at once on an open number -/
def leN (i : Int) (k : Nat) : Bool := match i with
  | .ofNat n => Nat.ble n k
  | .negSucc _ => true
def geN (i : Int) (k : Nat) : Bool := match i with
  | .ofNat _ => true
  | .negSucc n => Nat.ble (n + 1) k
theorem leN_iff {i : Int} {k : Nat} : leN i k = true ↔ i ≤ (k : Int) := by
  cases i with
  | ofNat n =>
    show Nat.ble n k = true ↔ (n : Int) ≤ k
    rw [Nat.ble_eq]
    omega
  | negSucc n =>
    rw [Int.negSucc_eq]
    exact ⟨fun _ => by omega, fun _ => rfl⟩
theorem geN_iff {i : Int} {k : Nat} : geN i k = true ↔ -(k : Int) ≤ i := by
  cases i with
  | ofNat n =>
    show true = true ↔ -(k : Int) ≤ (n : Int)
    exact ⟨fun _ => by omega, fun _ => rfl⟩
  | negSucc n =>
    show Nat.ble (n + 1) k = true ↔ _
    rw [Nat.ble_eq, Int.negSucc_eq]
    omega
def rg1 (n : Int) : Bool := geN n 4611686018427387904 && leN n 16777216
theorem rg1_iff {n : Int} : rg1 n = true ↔ -(2 ^ 62) ≤ n ∧ n ≤ 16777216 := by
  unfold rg1
  rw [Bool.and_eq_true, geN_iff, leN_iff]
  omega
def iRange (a : E) : Es := fun C ρ => bnd (a C ρ) fun x => bnd (opt (asI x)) fun n => if rg1 n then pur (rangeL 0 n) else bad
def rgOk (i j : Int) : Bool := geN i 4611686018427387904 && leN i 4611686018427387903 && geN j 4611686018427387904 && leN j 4611686018427387903 && leN (j - i) 16777216
theorem rgOk_iff {i j : Int} : rgOk i j = true ↔ -(2 ^ 62) ≤ i ∧ i < 2 ^ 62 ∧ -(2 ^ 62) ≤ j ∧ j < 2 ^ 62 ∧ j - i ≤ 16777216 := by
  unfold rgOk
  rw [Bool.and_eq_true, Bool.and_eq_true, Bool.and_eq_true, Bool.and_eq_true, geN_iff, leN_iff, geN_iff, leN_iff, leN_iff]
  omega
def iRange2 (a b : E) : Es := fun C ρ => bnd (a C ρ) fun x => bnd (b C ρ) fun y => bnd (opt (asI x)) fun i => bnd (opt (asI y)) fun j =>
  if rgOk i j then pur (rangeL i j) else bad
def numbered : Int → List D → List D
  | _, [] => []
  | i, x :: r => .tuple [.int i, x] :: numbered (i + 1) r
def paired : List D → List D → List D
  | x :: xs, y :: ys => .tuple [x, y] :: paired xs ys
  | _, _ => []
def iEnum (a : E) : Es := fun C ρ => bnd (a C ρ) fun x => bnd (opt (seqD x)) fun xs => pur (numbered 0 xs)
def zipD (x y : D) : Option (List D) := match x, y with
  | .list xs, .list ys => some (paired xs ys)
  | .tuple xs, .tuple ys => some (paired xs ys)
  | .tuple xs, .list ys => some (paired xs ys)
  | .list xs, .tuple ys => some (paired xs ys)
  | _, _ => none
/-- strict: of one length -/
def zipSD (x y : D) : Option (List D) := match seqD x, seqD y with
  | some xs, some ys => if xs.length = ys.length then some (paired xs ys) else none
  | _, _ => none
def iZipS (a b : E) : Es := fun C ρ => bnd (a C ρ) fun x => bnd (b C ρ) fun y => opt (zipSD x y)
def iZip (a b : E) : Es := fun C ρ => bnd (a C ρ) fun x => bnd (b C ρ) fun y => opt (zipD x y)

def tYes : Et := fun _ _ => pur true
def tIf (a : E) : Et := fun C ρ => bnd (a C ρ) fun d => opt (asB d)
def compM (g : G) (c : Rho → M Bool) (el : Rho → M D) (ρ : Rho) : List D → M (List D)
  | [] => pur []
  | x :: xs => bnd (opt (g x ρ)) fun ρ1 => bnd (c ρ1) fun b =>
    if b then bnd (el ρ1) fun d => bnd (compM g c el ρ xs) fun r => pur (d :: r) else compM g c el ρ xs
def xComp (own : List Nat) (it : Es) (g : G) (c : Et) (el : E) : E := fun C ρ => bnd (it C ρ) fun xs => bnd (compM g (c C) (el C) (blank ρ own) xs) fun ds => pur (.list ds)

/-! ### statements -/
inductive Fl where
  | next (ρ : Rho)
  | ret (d : D)
  | brk (ρ : Rho)
  | cont (ρ : Rho)
abbrev St := Calls → Rho → M Fl
def sSet (i : Nat) (e : E) : St := fun C ρ => bnd (e C ρ) fun d => pur (.next (setV ρ i d))
def sAsg (g : G) (e : E) : St := fun C ρ => bnd (e C ρ) fun d => bnd (opt (g d ρ)) fun ρ' => pur (.next ρ')
def sPar (gs : Gs) (r : Es) : St := fun C ρ => bnd (r C ρ) fun ds => bnd (opt (gs ds ρ)) fun ρ' => pur (.next ρ')
def storeD (x k v : D) : Option D := match x, k with
  | .list xs, .int i => match L2.ixN xs.length i with
    | some j => some (.list (xs.set j v))
    | none => none
  | _, _ => none
def sStore (i : Nat) (k e : E) : St := fun C ρ => bnd (e C ρ) fun d => bnd (opt (getV ρ i)) fun x => bnd (k C ρ) fun j => bnd (opt (storeD x j d)) fun x' => pur (.next (setV ρ i x'))
def augI (o : Operator) (a b : Int) : Option D := match o with
  | .Add => some (.int (a + b))
  | .Sub => some (.int (a - b))
  | _ => none
def sAug (i : Nat) (o : Operator) (e : E) : St := fun C ρ => bnd (opt (getV ρ i)) fun x => bnd (e C ρ) fun d => bnd (opt (asI x)) fun a => bnd (opt (asI d)) fun b => bnd (opt (augI o a b)) fun z =>
  pur (.next (setV ρ i z))
def appendD (x v : D) : Option D := match x with
  | .list xs => if Nat.blt xs.length 16777216 then some (.list (xs ++ [v])) else none
  | _ => none
def sAppend (i : Nat) (e : E) : St := fun C ρ => bnd (opt (getV ρ i)) fun x => bnd (e C ρ) fun d => bnd (opt (appendD x d)) fun x' => pur (.next (setV ρ i x'))
def extendD (x v : D) : Option D := match x with
  | .list xs => match v with
    | .list ys => if szOk (xs.length + ys.length) then some (.list (xs ++ ys)) else none
    | _ => none
  | _ => none
def sExtend (i : Nat) (e : E) : St := fun C ρ => bnd (opt (getV ρ i)) fun x => bnd (e C ρ) fun d => bnd (opt (extendD x d)) fun x' => pur (.next (setV ρ i x'))
def popD (x : D) : Option (D × D) := match x with
  | .list xs => match xs[xs.length - 1]? with
    | some y => some (y, .list xs.dropLast)
    | none => none
  | _ => none
def sPop (g : G) (i : Nat) : St := fun _ ρ => bnd (opt (getV ρ i)) fun x => bnd (opt (popD x)) fun p => bnd (opt (g p.1 (setV ρ i p.2))) fun ρ' => pur (.next ρ')
def sIf (c : E) (a b : St) : St := fun C ρ => bnd (c C ρ) fun x => bnd (opt (asB x)) fun k => if k then a C ρ else b C ρ
def forM (g : G) (bd : Rho → M Fl) : List D → Rho → M Fl
  | [], ρ => pur (.next ρ)
  | x :: xs, ρ => bnd (opt (g x ρ)) fun ρ1 => bnd (bd ρ1) fun f => match f with
    | .next ρ2 => forM g bd xs ρ2
    | .cont ρ2 => forM g bd xs ρ2
    | .brk ρ2 => pur (.next ρ2)
    | .ret d => pur (.ret d)
def sFor (g : G) (it : Es) (bd : St) : St := fun C ρ => bnd (it C ρ) fun xs => forM g (bd C) xs ρ
def whileM (c : Rho → M D) (bd : Rho → M Fl) : Nat → Rho → M Fl
  | 0, _ => bad
  | n + 1, ρ => bnd (c ρ) fun x => bnd (opt (asB x)) fun b =>
    if b then bnd (bd ρ) fun f => match f with
      | .next ρ2 => whileM c bd n ρ2
      | .cont ρ2 => whileM c bd n ρ2
      | .brk ρ2 => pur (.next ρ2)
      | .ret d => pur (.ret d)
    else pur (.next ρ)
def fuelW : Nat := 100000000
def sWhile (c : E) (bd : St) : St := fun C ρ => whileM (c C) (bd C) fuelW ρ
def sRet (e : E) : St := fun C ρ => bnd (e C ρ) fun d => pur (.ret d)
def sBrk : St := fun _ ρ => pur (.brk ρ)
def sCont : St := fun _ ρ => pur (.cont ρ)
def sNil : St := fun _ ρ => pur (.next ρ)
def sSeq (a b : St) : St := fun C ρ => bnd (a C ρ) fun f => match f with
  | .next ρ' => b C ρ'
  | .ret d => pur (.ret d)
  | .brk ρ' => pur (.brk ρ')
  | .cont ρ' => pur (.cont ρ')

/-- a def: how many parameters, how many slots, its body -/
structure Def where
  arity : Nat
  slots : Nat
  body : St
def startD (n : Nat) (ds : List D) : Rho := ds.map some ++ List.replicate (n - ds.length) none
def retD : Fl → M D
  | .ret v => pur v
  | .next _ => pur .none
  | .brk _ => bad
  | .cont _ => bad
def runDef (d : Def) (C : Calls) (ds : List D) : M D := if ds.length = d.arity then bnd (d.body C (startD d.slots ds)) retD else bad
/-- the answers of defs, by a depth of calls -/
def callD (T : Nat → Option Def) (sp : Nat → Option (List D → M D)) : Nat → Calls
  | 0 => fun _ _ => bad
  | n + 1 => fun f ds => match sp f with
    | some g => g ds
    | none => match T f with
      | none => bad
      | some d => runDef d (callD T sp n) ds
end BA

/-! BA1: what stands in the heap for data -/
namespace BA
open PySem PySem.Spec
open L2 hiding St

/-! ### dictionaries: their keys are whole numbers, or tuples (to depth 8) without texts -/
mutual
def keyN : D → NestedKey
  | .none => .none
  | .bool b => .num (if b then 1 else 0)
  | .int i => .num i
  | .str x => .text x
  | .tuple xs => .tup (keyNs xs)
  | .list _ => .none
  | .dict _ => .none
def keyNs : List D → List NestedKey
  | [] => []
  | d :: ds => keyN d :: keyNs ds
end
mutual
def kOk : D → Bool
  | .none => true
  | .bool _ => true
  | .int _ => true
  | .tuple xs => kOks xs
  | .str _ => false
  | .list _ => false
  | .dict _ => false
def kOks : List D → Bool
  | [] => true
  | d :: ds => kOk d && kOks ds
end
def tupKey : D → Bool
  | .tuple xs => kOks xs && Nat.ble (PyData.depthAll xs) 7
  | _ => false
def intKey : D → Bool
  | .int _ => true
  | _ => false
/-- the keys are all of one sort, and each stands once -/
def keysOk (ds : List D) : Bool := (ds.all intKey || ds.all tupKey) && decide (ds.map keyN).Nodup
inductive Ent : List D → List V → List V → List DictEntry → Prop
  | nil : Ent [] [] [] []
  | cons {d : D} {k v : V} {e : DictEntry} {ds : List D} {ks vs : List V} {es : List DictEntry} : (∀ w, e.hash = (keyN d).hash w) → RelV k e.key → RelV v e.val → Ent ds ks vs es → Ent (d :: ds) (k :: ks) (v :: vs) (e :: es)
/-- the dict at a: its keys as data, its keys, what they lead to -/
def DRaw (a : Addr) (ds : List D) (ks vs : List V) : Heap → Prop := fun h => (a == sysModules) = false ∧ ∃ o es ep, h.get? a = some o ∧ o.ExactDict ∧ o.data = .dict es ep ∧ Ent ds ks vs es.toList
theorem DRaw.stay {a : Addr} {ds : List D} {ks vs : List V} (h1 h2 : Heap) (x : DRaw a ds ks vs h1) (g : ∀ o, h1.get? a = some o → h2.get? a = some o) : DRaw a ds ks vs h2 := by
  obtain ⟨n, o, es, ep, h, c⟩ := x
  exact ⟨n, o, es, ep, g o h, c⟩
abbrev DO (a : Addr) (ds : List D) (ks vs : List V) : HO := .ext (DRaw a ds ks vs)

mutual
/-- the value v stands for the data d, and nothing of it lies in F -/
inductive Rp (F : Addr → Prop) (H : Hp) : V → D → Prop
  | non : Rp F H .non .none
  | bl (b : Bool) : Rp F H (.bl b) (.bool b)
  | int (i : Int) : Rp F H (.int i) (.int i)
  | str (x : Str) : Rp F H (.str x) (.str x)
  | lst {a : Addr} {xs : List V} {ds : List D} : ¬ F a → H a = some (.lst xs) → xs.length ≤ sizeLine → Rps F H xs ds → Rp F H (.ref a) (.list ds)
  | tup {a : Addr} {xs : List V} {ds : List D} : ¬ F a → H a = some (.tup xs) → xs.length ≤ sizeLine → Rps F H xs ds → Rp F H (.ref a) (.tuple ds)
  | dct {a : Addr} {ks vs : List V} {ds es : List D} {kvs : List (D × D)} : ¬ F a → H a = some (DO a ds ks vs) → ks.length ≤ sizeLine → Rps F H ks ds → Rps F H vs es → keysOk ds = true → kvs = ds.zip es → ds.length = es.length → Rp F H (.ref a) (.dict kvs)
inductive Rps (F : Addr → Prop) (H : Hp) : List V → List D → Prop
  | nil : Rps F H [] []
  | cons {v : V} {vs : List V} {d : D} {ds : List D} : Rp F H v d → Rps F H vs ds → Rps F H (v :: vs) (d :: ds)
end

theorem Rps.len {F : Addr → Prop} {H : Hp} : ∀ {vs : List V} {ds : List D}, Rps F H vs ds → vs.length = ds.length
  | _, _, .nil => rfl
  | _, _, .cons _ t => congrArg (· + 1) (Rps.len t)
theorem Rps.app {F : Addr → Prop} {H : Hp} : ∀ {vs ws : List V} {ds es : List D}, Rps F H vs ds → Rps F H ws es → Rps F H (vs ++ ws) (ds ++ es)
  | _, _, _, _, .nil, s => s
  | _, _, _, _, .cons r t, s => .cons r (Rps.app t s)
theorem Rps.get {F : Addr → Prop} {H : Hp} : ∀ {vs : List V} {ds : List D} {i : Nat} {d : D}, Rps F H vs ds → ds[i]? = some d → ∃ v, vs[i]? = some v ∧ Rp F H v d
  | _, _, _, _, .nil, e => by simp at e
  | _, _, 0, _, .cons r _, e => by
    simp at e
    subst e
    exact ⟨_, rfl, r⟩
  | _, _, i + 1, d, .cons _ t, e => by
    obtain ⟨v, h1, h2⟩ := Rps.get (i := i) (d := d) t (by simpa using e)
    exact ⟨v, by simpa using h1, h2⟩
theorem Rps.getV {F : Addr → Prop} {H : Hp} : ∀ {vs : List V} {ds : List D} {i : Nat} {v : V}, Rps F H vs ds → vs[i]? = some v → ∃ d, ds[i]? = some d ∧ Rp F H v d
  | _, _, _, _, .nil, e => by simp at e
  | _, _, 0, _, .cons r _, e => by
    simp at e
    subst e
    exact ⟨_, rfl, r⟩
  | _, _, i + 1, d, .cons _ t, e => by
    obtain ⟨v, h1, h2⟩ := Rps.getV (i := i) (v := d) t (by simpa using e)
    exact ⟨v, by simpa using h1, h2⟩
theorem Rps.take {F : Addr → Prop} {H : Hp} : ∀ {vs : List V} {ds : List D} (n : Nat), Rps F H vs ds → Rps F H (vs.take n) (ds.take n)
  | _, _, 0, _ => .nil
  | _, _, _ + 1, .nil => .nil
  | _, _, n + 1, .cons r t => .cons r (Rps.take n t)
theorem Rps.drop {F : Addr → Prop} {H : Hp} : ∀ {vs : List V} {ds : List D} (n : Nat), Rps F H vs ds → Rps F H (vs.drop n) (ds.drop n)
  | _, _, 0, r => r
  | _, _, _ + 1, .nil => .nil
  | _, _, n + 1, .cons _ t => Rps.drop n t
theorem Rps.set {F : Addr → Prop} {H : Hp} {v : V} {d : D} (r : Rp F H v d) : ∀ {vs : List V} {ds : List D} (i : Nat), Rps F H vs ds → Rps F H (vs.set i v) (ds.set i d)
  | _, _, _, .nil => .nil
  | _, _, 0, .cons _ t => .cons r t
  | _, _, i + 1, .cons q t => .cons q (Rps.set r i t)
theorem Rps.rev {F : Addr → Prop} {H : Hp} : ∀ {vs : List V} {ds : List D}, Rps F H vs ds → Rps F H vs.reverse ds.reverse
  | _, _, .nil => .nil
  | _, _, .cons r t => by
    rw [List.reverse_cons, List.reverse_cons]
    exact (Rps.rev t).app (.cons r .nil)
theorem Rps.rep {F : Addr → Prop} {H : Hp} {vs : List V} {ds : List D} (r : Rps F H vs ds) : ∀ n : Nat, Rps F H (List.replicate n vs).flatten (List.replicate n ds).flatten
  | 0 => .nil
  | n + 1 => by
    rw [List.replicate_succ, List.replicate_succ, List.flatten_cons, List.flatten_cons]
    exact r.app (Rps.rep r n)
theorem Rps.dropLast {F : Addr → Prop} {H : Hp} {vs : List V} {ds : List D} (r : Rps F H vs ds) : Rps F H vs.dropLast ds.dropLast := by
  rw [List.dropLast_eq_take, List.dropLast_eq_take, r.len]
  exact r.take _
theorem Rps.ints {F : Addr → Prop} {H : Hp} : ∀ {vs : List V} {ds : List D} {ns : List Int}, Rps F H vs ds → intsD ds = some ns → vs = ns.map V.int
  | _, _, _, .nil, e => by
    cases e
    rfl
  | _, _, ns, .cons r t, e => by
    unfold intsD at e
    cases r with
    | int i =>
      simp only [asI] at e
      cases k : intsD _ with
      | none => rw [k] at e; simp at e
      | some ms =>
        rw [k] at e
        simp at e
        subst e
        rw [Rps.ints t k]
        rfl
    | _ => simp [asI] at e
/-- all that is tracked stays -/
def Grow (H H' : Hp) : Prop := ∀ b o, H b = some o → H' b = some o
theorem Grow.refl (H : Hp) : Grow H H := fun _ _ h => h
theorem Grow.trans {H H1 H2 : Hp} (a : Grow H H1) (b : Grow H1 H2) : Grow H H2 := fun c o h => b c o (a c o h)
theorem Grow.new {H : Hp} {p : Addr} {o : HO} (h : H p = none) : Grow H (upd H p o) := fun b u e => by
  rw [upd_ne (ne_of_none e h)]
  exact e
/-- all that is tracked stays but for what lies in S -/
def Pres (S : Addr → Prop) (H H' : Hp) : Prop := ∀ b o, ¬ S b → H b = some o → H' b = some o
theorem Pres.refl {S : Addr → Prop} (H : Hp) : Pres S H H := fun _ _ _ h => h
theorem Pres.trans {S : Addr → Prop} {H H1 H2 : Hp} (a : Pres S H H1) (b : Pres S H1 H2) : Pres S H H2 := fun c o n h => b c o n (a c o n h)
theorem Grow.pres {S : Addr → Prop} {H H' : Hp} (g : Grow H H') : Pres S H H' := fun b o _ h => g b o h
theorem Pres.mono {S T : Addr → Prop} {H H' : Hp} (g : Pres S H H') (h : ∀ a, S a → T a) : Pres T H H' := fun b o n e => g b o (fun z => n (h b z)) e

mutual
theorem Rp.pres {F : Addr → Prop} {H H' : Hp} (g : Pres F H H') : ∀ {v : V} {d : D}, Rp F H v d → Rp F H' v d
  | _, _, .non => .non
  | _, _, .bl b => .bl b
  | _, _, .int i => .int i
  | _, _, .str x => .str x
  | _, _, .lst n h z r => .lst n (g _ _ n h) z (Rps.pres g r)
  | _, _, .tup n h z r => .tup n (g _ _ n h) z (Rps.pres g r)
  | _, _, .dct n h z r r' k e l => .dct n (g _ _ n h) z (Rps.pres g r) (Rps.pres g r') k e l
theorem Rps.pres {F : Addr → Prop} {H H' : Hp} (g : Pres F H H') : ∀ {vs : List V} {ds : List D}, Rps F H vs ds → Rps F H' vs ds
  | _, _, .nil => .nil
  | _, _, .cons r t => .cons (Rp.pres g r) (Rps.pres g t)
end
mutual
/-- another F: what is tracked and lies in the new one lay in the old one -/
theorem Rp.move {F F' : Addr → Prop} {H : Hp} (g : ∀ a, H a ≠ none → F' a → F a) : ∀ {v : V} {d : D}, Rp F H v d → Rp F' H v d
  | _, _, .non => .non
  | _, _, .bl b => .bl b
  | _, _, .int i => .int i
  | _, _, .str x => .str x
  | _, _, .lst n h z r => .lst (fun q => n (g _ (by rw [h]; simp) q)) h z (Rps.move g r)
  | _, _, .tup n h z r => .tup (fun q => n (g _ (by rw [h]; simp) q)) h z (Rps.move g r)
  | _, _, .dct n h z r r' k e l => .dct (fun q => n (g _ (by rw [h]; simp) q)) h z (Rps.move g r) (Rps.move g r') k e l
theorem Rps.move {F F' : Addr → Prop} {H : Hp} (g : ∀ a, H a ≠ none → F' a → F a) : ∀ {vs : List V} {ds : List D}, Rps F H vs ds → Rps F' H vs ds
  | _, _, .nil => .nil
  | _, _, .cons r t => .cons (Rp.move g r) (Rps.move g t)
end

/-! ### the source, the tables of code objects -/
structure SA where
  src : Option (Addr × Addr)
  tab : List (Addr × Str)
/-- no source, no table -/
abbrev SA.nil : SA := ⟨none, []⟩
def inP (S : Option (Addr × Addr)) (a : Addr) : Prop := match S with
  | some (p, q) => a = p ∨ a = q
  | none => False
def inS (S : SA) (a : Addr) : Prop := inP S.src a ∨ ∃ q, (a, q) ∈ S.tab
def skey (x : String) : Key := Sum.inr (Str.ofString x)
def srcD (q : Addr) (s : Src) : List (Key × V) := [(skey "cells", .ref q), (skey "left", .int s.left), (skey "mixed", .int s.mixed), (skey "turn", .int s.turn)]
def SrcP (S : Option (Addr × Addr)) (H : Hp) (s : Src) : Prop := match S with
  | some (p, q) => p ≠ q ∧ H p = some (.dK (srcD q s)) ∧ H q = some (.lst (s.cells.map V.int))
  | none => True
structure SrcOk (S : SA) (H : Hp) (s : Src) : Prop where
  p : SrcP S.src H s
  t : LamX.Tabs S.tab H
  u : ∀ x y, x ∈ S.tab → y ∈ S.tab → x.1 = y.1 → x = y
theorem SrcOk.nil {H : Hp} {s : Src} : SrcOk .nil H s := ⟨trivial, (fun _ h => by cases h), fun _ _ h => by cases h⟩
theorem SrcP.grow {S : Option (Addr × Addr)} {H H' : Hp} {s : Src} (h : SrcP S H s) (g : Grow H H') : SrcP S H' s := by
  cases S with
  | none => trivial
  | some pq =>
    obtain ⟨p, q⟩ := pq
    exact ⟨h.1, g _ _ h.2.1, g _ _ h.2.2⟩
theorem SrcOk.grow {S : SA} {H H' : Hp} {s : Src} (h : SrcOk S H s) (g : Grow H H') : SrcOk S H' s := ⟨h.p.grow g, h.t.ext g, h.u⟩
/-- a tracked object that is no code object -/
def plainO : HO → Prop
  | .lst _ => True
  | .dK _ => True
  | .ext P => ∃ a ds ks vs, P = DRaw a ds ks vs
  | _ => False
def oneHeap (c : Addr) (o : Obj) : Heap := { objs := Array.replicate (c + 1) o }
theorem oneHeap_get {c : Addr} {o : Obj} (h : ∀ vs, o.data = .fields vs → True) (hf : ∃ vs, o.data = .fields vs) : (oneHeap c o).get? c = some o := by
  obtain ⟨vs, e⟩ := hf
  obtain ⟨cls, dct, data, sl⟩ := o
  cases e
  unfold oneHeap Heap.get?
  simp
theorem plainO_code {o : HO} (p : plainO o) (c : Addr) (q : Str) : o ≠ LamX.CodeO c q := by
  intro e
  unfold LamX.CodeO at e
  subst e
  obtain ⟨a, ds, ks, vs, e⟩ := p
  let oc : Obj := { cls := .none, data := .fields #[.none, .str q 0] }
  have hg : (oneHeap c oc).get? c = some oc := oneHeap_get (fun _ _ => trivial) ⟨_, rfl⟩
  have h1 : (fun h : Heap => ∃ (oc : Obj) (vs : Array Value) (t : Tok), h.get? c = some oc ∧ oc.data = .fields vs ∧ vs[1]? = some (.str q t)) (oneHeap c oc) := ⟨oc, _, 0, hg, rfl, rfl⟩
  rw [e] at h1
  obtain ⟨_, o2, es, ep, h2, _, h3, _⟩ := h1
  have h4 : o2 = oc := by
    unfold oneHeap Heap.get? at h2
    simp only [Array.getElem?_replicate] at h2
    split at h2
    · cases h2
    · rename_i x
      split at h2
      · cases h2; rfl
      · cases h2
  rw [h4] at h3
  cases h3
theorem tabs_upd {T : List (Addr × Str)} {H : Hp} {a : Addr} {o u : HO} (t : LamX.Tabs T H) (n : ∀ q, (a, q) ∉ T) (h : H a = some o) (p : plainO o) : LamX.Tabs T (upd H a u) := by
  intro x hx
  obtain ⟨ps, h1, h2, h3⟩ := t x hx
  have na : x.1 ≠ a := fun z => n x.2 (by rw [← z]; exact hx)
  refine ⟨ps, by rw [upd_ne na]; exact h1, h2, fun pos cv hc => ?_⟩
  obtain ⟨c, e1, e2⟩ := h3 pos cv hc
  refine ⟨c, e1, ?_⟩
  rw [upd_ne fun z => ?_]
  · exact e2
  · rw [z, h] at e2
    exact plainO_code p _ _ (Option.some.inj e2)
theorem srcP_upd {S : Option (Addr × Addr)} {H : Hp} {a : Addr} {u : HO} {s : Src} (t : SrcP S H s) (n : ¬ inP S a) : SrcP S (upd H a u) s := by
  cases S with
  | none => trivial
  | some pq =>
    obtain ⟨p, q⟩ := pq
    exact ⟨t.1, by rw [upd_ne fun z => n (.inl z.symm)]; exact t.2.1, by rw [upd_ne fun z => n (.inr z.symm)]; exact t.2.2⟩
/-- an object beside is written -/
theorem SrcOk.upd {S : SA} {H : Hp} {a : Addr} {o u : HO} {s : Src} (k : SrcOk S H s) (n : ¬ inS S a) (h : H a = some o) (p : plainO o) : SrcOk S (L2.upd H a u) s :=
  ⟨srcP_upd k.p fun z => n (.inl z), tabs_upd k.t (fun q z => n (.inr ⟨q, z⟩)) h p, k.u⟩

/-! ### owned containers, borrowed values -/
def OwnL (F : Addr → Prop) (H : Hp) (a : Addr) (d : D) : Prop := ∃ xs ds, d = .list ds ∧ H a = some (.lst xs) ∧ xs.length ≤ sizeLine ∧ Rps F H xs ds
def OwnD (F : Addr → Prop) (H : Hp) (a : Addr) (d : D) : Prop := ∃ ks vs ds es, d = .dict (ds.zip es) ∧ H a = some (DO a ds ks vs) ∧ ks.length ≤ sizeLine ∧ Rps F H ks ds ∧ Rps F H vs es ∧ keysOk ds = true ∧ ds.length = es.length
def Own (F : Addr → Prop) (H : Hp) (a : Addr) (d : D) : Prop := OwnL F H a d ∨ OwnD F H a d
theorem Own.pres {F : Addr → Prop} {H H' : Hp} {a : Addr} {d : D} (h : Own F H a d) (g : Pres F H H') (e : H' a = H a) : Own F H' a d := by
  rcases h with ⟨xs, ds, rfl, h1, z, r⟩ | ⟨ks, vs, ds, es, rfl, h1, z, r, r', k, l⟩
  · exact .inl ⟨xs, ds, rfl, by rw [e]; exact h1, z, r.pres g⟩
  · exact .inr ⟨ks, vs, ds, es, rfl, by rw [e]; exact h1, z, r.pres g, r'.pres g, k, l⟩
theorem Own.list {F : Addr → Prop} {H : Hp} {a : Addr} {ds : List D} (h : Own F H a (.list ds)) : ∃ xs, H a = some (.lst xs) ∧ xs.length ≤ sizeLine ∧ Rps F H xs ds := by
  rcases h with ⟨xs, ds, e, h1, z, r⟩ | ⟨ks, vs, ds, es, e, _⟩
  · cases e; exact ⟨xs, h1, z, r⟩
  · cases e
theorem Own.dict {F : Addr → Prop} {H : Hp} {a : Addr} {kvs : List (D × D)} (h : Own F H a (.dict kvs)) : ∃ ks vs ds es, kvs = ds.zip es ∧ H a = some (DO a ds ks vs) ∧ ks.length ≤ sizeLine ∧ Rps F H ks ds ∧ Rps F H vs es ∧ keysOk ds = true ∧ ds.length = es.length := by
  rcases h with ⟨xs, ds, e, _⟩ | ⟨ks, vs, ds, es, e, r⟩
  · cases e
  · cases e; exact ⟨ks, vs, ds, es, rfl, r⟩
theorem Own.is {F : Addr → Prop} {H : Hp} {a : Addr} {d : D} (h : Own F H a d) : (∃ ds, d = .list ds) ∨ ∃ kvs, d = .dict kvs := by
  rcases h with ⟨xs, ds, e, _⟩ | ⟨ks, vs, ds, es, e, r⟩
  · exact .inl ⟨_, e⟩
  · exact .inr ⟨_, e⟩
theorem Own.live {F : Addr → Prop} {H : Hp} {a : Addr} {d : D} (h : Own F H a d) : H a ≠ none := by
  rcases h with ⟨xs, ds, rfl, h1, _⟩ | ⟨ks, vs, ds, es, rfl, h1, _⟩ <;> rw [h1] <;> simp
theorem Own.grow {F : Addr → Prop} {H H' : Hp} {a : Addr} {d : D} (h : Own F H a d) (g : Grow H H') : Own F H' a d := by
  rcases h with ⟨xs, ds, rfl, h1, z, r⟩ | ⟨ks, vs, ds, es, rfl, h1, z, r, r', k, l⟩
  · exact .inl ⟨xs, ds, rfl, g _ _ h1, z, r.pres g.pres⟩
  · exact .inr ⟨ks, vs, ds, es, rfl, g _ _ h1, z, r.pres g.pres, r'.pres g.pres, k, l⟩
theorem Own.move {F F' : Addr → Prop} {H : Hp} {a : Addr} {d : D} (h : Own F H a d) (g : ∀ a, H a ≠ none → F' a → F a) : Own F' H a d := by
  rcases h with ⟨xs, ds, rfl, h1, z, r⟩ | ⟨ks, vs, ds, es, rfl, h1, z, r, r', k, l⟩
  · exact .inl ⟨xs, ds, rfl, h1, z, r.move g⟩
  · exact .inr ⟨ks, vs, ds, es, rfl, h1, z, r.move g, r'.move g, k, l⟩
theorem Own.some {F : Addr → Prop} {H : Hp} {a : Addr} {d : D} (h : Own F H a d) : ∃ o, H a = Option.some o := by
  rcases h with ⟨xs, ds, rfl, h1, _⟩ | ⟨ks, vs, ds, es, rfl, h1, _⟩ <;> exact ⟨_, h1⟩
theorem Own.plain {F : Addr → Prop} {H : Hp} {a : Addr} {d : D} (h : Own F H a d) : ∃ o, H a = Option.some o ∧ plainO o := by
  rcases h with ⟨xs, ds, rfl, h1, _⟩ | ⟨ks, vs, ds, es, rfl, h1, _⟩
  · exact ⟨_, h1, trivial⟩
  · exact ⟨_, h1, _, _, _, _, rfl⟩
/-- a value that may be an owned container itself -/
def RpB (F : Addr → Prop) (H : Hp) (v : V) (d : D) : Prop := Rp F H v d ∨ ∃ a, v = .ref a ∧ Own F H a d
theorem RpB.seq {F : Addr → Prop} {H : Hp} {v : V} {d : D} {ds : List D} (h : RpB F H v d) (e : seqD d = some ds) :
    ∃ a xs, v = .ref a ∧ (H a = some (.lst xs) ∧ d = .list ds ∨ H a = some (.tup xs) ∧ d = .tuple ds) ∧ xs.length ≤ sizeLine ∧ Rps F H xs ds := by
  rcases h with h | ⟨a, rfl, ⟨xs, es, rfl, h1, z, r⟩ | ⟨ks, vs, ds, es, rfl, _⟩⟩
  · cases h with
    | lst n h z r => cases e; exact ⟨_, _, rfl, .inl ⟨h, rfl⟩, z, r⟩
    | tup n h z r => cases e; exact ⟨_, _, rfl, .inr ⟨h, rfl⟩, z, r⟩
    | _ => cases e
  · cases e
    exact ⟨a, xs, rfl, .inl ⟨h1, rfl⟩, z, r⟩
  · cases e
theorem RpB.int {F : Addr → Prop} {H : Hp} {v : V} {i : Int} (h : RpB F H v (.int i)) : v = .int i := by
  rcases h with h | ⟨a, rfl, o⟩
  · cases h; rfl
  · rcases o.is with ⟨_, e⟩ | ⟨_, e⟩ <;> cases e
theorem RpB.bool {F : Addr → Prop} {H : Hp} {v : V} {i : Bool} (h : RpB F H v (.bool i)) : v = .bl i := by
  rcases h with h | ⟨a, rfl, o⟩
  · cases h; rfl
  · rcases o.is with ⟨_, e⟩ | ⟨_, e⟩ <;> cases e
theorem RpB.none {F : Addr → Prop} {H : Hp} {v : V} (h : RpB F H v .none) : v = .non := by
  rcases h with h | ⟨a, rfl, o⟩
  · cases h; rfl
  · rcases o.is with ⟨_, e⟩ | ⟨_, e⟩ <;> cases e
theorem RpB.list {F : Addr → Prop} {H : Hp} {v : V} {ds : List D} (h : RpB F H v (.list ds)) : ∃ a xs, v = .ref a ∧ H a = some (.lst xs) ∧ xs.length ≤ sizeLine ∧ Rps F H xs ds := by
  rcases h with h | ⟨a, rfl, o⟩
  · cases h with
    | lst n h z r => exact ⟨_, _, rfl, h, z, r⟩
  · obtain ⟨xs, h1, z, r⟩ := o.list
    exact ⟨a, xs, rfl, h1, z, r⟩
theorem RpB.tup {F : Addr → Prop} {H : Hp} {v : V} {ds : List D} (h : RpB F H v (.tuple ds)) : ∃ a xs, v = .ref a ∧ ¬ F a ∧ H a = some (.tup xs) ∧ xs.length ≤ sizeLine ∧ Rps F H xs ds := by
  rcases h with h | ⟨a, rfl, o⟩
  · cases h with
    | tup n h z r => exact ⟨_, _, rfl, n, h, z, r⟩
  · rcases o.is with ⟨_, e⟩ | ⟨_, e⟩ <;> cases e
theorem RpB.dict {F : Addr → Prop} {H : Hp} {v : V} {kvs : List (D × D)} (h : RpB F H v (.dict kvs)) : ∃ a ks vs ds es, v = .ref a ∧ kvs = ds.zip es ∧ H a = some (DO a ds ks vs) ∧ ks.length ≤ sizeLine ∧ Rps F H ks ds ∧ Rps F H vs es ∧ keysOk ds = true ∧ ds.length = es.length := by
  rcases h with h | ⟨a, rfl, o⟩
  · cases h with
    | dct n h z r r' k e l => exact ⟨_, _, _, _, _, rfl, e, h, z, r, r', k, l⟩
  · obtain ⟨ks, vs, ds, es, e, r⟩ := o.dict
    exact ⟨a, ks, vs, ds, es, rfl, e, r⟩
theorem asI_some {d : D} {i : Int} (h : asI d = some i) : d = .int i := by
  cases d <;> simp [asI] at h
  rw [h]
theorem asB_some {d : D} {i : Bool} (h : asB d = some i) : d = .bool i := by
  cases d <;> simp [asB] at h
  rw [h]

mutual
theorem Rp.dp {F : Addr → Prop} {K : PySem.W.Frag} {H : Hp} : ∀ {v : V} {d : D}, Rp F H v d → d.hasDict = false → Dp K H v d
  | _, _, .non, _ => .non
  | _, _, .bl b, _ => .bl b
  | _, _, .int i, _ => .int i
  | _, _, .str x, _ => .str x
  | _, _, .lst _ h _ r, n => .lst (SqL.of h) (Rps.dp r (by simp only [PyData.hasDict] at n; exact n))
  | _, _, .tup _ h _ r, n => .tup (SqT.of h) (Rps.dp r (by simp only [PyData.hasDict] at n; exact n))
  | _, _, .dct .., n => by simp only [PyData.hasDict] at n; cases n
theorem Rps.dp {F : Addr → Prop} {K : PySem.W.Frag} {H : Hp} : ∀ {vs : List V} {ds : List D}, Rps F H vs ds → PyData.hasDictAll ds = false → DpAll K H vs ds
  | _, _, .nil, _ => .nil
  | _, _, .cons r t, n => by
    simp only [PyData.hasDictAll, Bool.or_eq_false_iff] at n
    exact .cons (Rp.dp r n.1) (Rps.dp t n.2)
end
theorem RpB.dp {F : Addr → Prop} {K : PySem.W.Frag} {H : Hp} {v : V} {d : D} (h : RpB F H v d) (n : d.hasDict = false) : Dp K H v d := by
  rcases h with h | ⟨a, rfl, o⟩
  · exact h.dp n
  · rcases o.is with ⟨ds, rfl⟩ | ⟨kvs, rfl⟩
    · obtain ⟨xs, h1, z, r⟩ := o.list
      simp only [PyData.hasDict] at n
      exact .lst (SqL.of h1) (r.dp n)
    · simp only [PyData.hasDict] at n
      cases n
theorem shaped_noD {d : D} (h : SeqAt.shaped d = true) : d.hasDict = false := by
  unfold SeqAt.shaped at h
  rw [Bool.and_eq_true] at h
  exact PyData.hasDict_of_canLay d h.1
theorem RpB.grow {F : Addr → Prop} {H H' : Hp} {v : V} {d : D} (h : RpB F H v d) (g : Grow H H') : RpB F H' v d := by
  rcases h with h | ⟨a, rfl, o⟩
  · exact .inl (h.pres g.pres)
  · refine .inr ⟨a, rfl, ?_⟩
    rcases o with ⟨xs, ds, rfl, h1, z, r⟩ | ⟨ks, vs, ds, es, rfl, h1, z, r, r', k, l⟩
    · exact .inl ⟨xs, ds, rfl, g _ _ h1, z, r.pres g.pres⟩
    · exact .inr ⟨ks, vs, ds, es, rfl, g _ _ h1, z, r.pres g.pres, r'.pres g.pres, k, l⟩

/-- all of F is tracked -/
def mutO : Option HO → Prop
  | none => False
  | some (.tup _) => False
  | some (.frz _ _) => False
  | _ => True
def Live (F : Addr → Prop) (H : Hp) : Prop := ∀ a, F a → mutO (H a)
theorem mutO.ne {o : Option HO} (h : mutO o) : o ≠ none := fun e => by
  subst e
  exact h
theorem Live.ne {F : Addr → Prop} {H : Hp} (h : Live F H) {a : Addr} (f : F a) : H a ≠ none := (h a f).ne
theorem Live.grow {F : Addr → Prop} {H H' : Hp} (h : Live F H) (g : Grow H H') : Live F H' := fun a f => by
  cases q : H a with
  | none => exact (h.ne f q).elim
  | some o =>
    rw [g a o q, ← q]
    exact h a f
theorem Live.new {F : Addr → Prop} {H : Hp} (h : Live F H) {p : Addr} (n : H p = none) : ¬ F p := fun f => h.ne f n
theorem Own.mut {F : Addr → Prop} {H : Hp} {a : Addr} {d : D} (h : Own F H a d) : mutO (H a) := by
  rcases h with ⟨xs, ds, rfl, h1, _⟩ | ⟨ks, vs, ds, es, rfl, h1, _⟩ <;> rw [h1] <;> trivial
/-- a new list, a new tuple -/
theorem Rp.newL {F : Addr → Prop} {H : Hp} {p : Addr} {xs : List V} {ds : List D} (l : Live F H) (n : H p = none) (z : xs.length ≤ sizeLine) (r : Rps F H xs ds) : Rp F (upd H p (.lst xs)) (.ref p) (.list ds) :=
  .lst (l.new n) upd_same z (r.pres (Grow.new n).pres)
theorem Rp.newT {F : Addr → Prop} {H : Hp} {p : Addr} {xs : List V} {ds : List D} (l : Live F H) (n : H p = none) (z : xs.length ≤ sizeLine) (r : Rps F H xs ds) : Rp F (upd H p (.tup xs)) (.ref p) (.tuple ds) :=
  .tup (l.new n) upd_same z (r.pres (Grow.new n).pres)
theorem szOk_le {n : Nat} (h : szOk n = true) : n ≤ sizeLine := by
  rw [sizeLine_eq]
  exact Nat.le_of_ble_eq_true h
end BA

/-! BA2: operators and comparisons over data -/
namespace BA
open PySem PySem.Spec
open L2 hiding St

/-- an operation of two values, told by data -/
def RR (f : D → D → Option D) : R2 := fun x y H Q => ∃ F d1 d2 d, Live F H ∧ RpB F H x d1 ∧ RpB F H y d2 ∧ f d1 d2 = some d ∧ ∀ v H', Grow H H' → Rp F H' v d → Q v H'
section
variable {X : Cx}

theorem small64_ok {i : Int} (h : small64 i = true) : -(2 ^ 64) < i ∧ i < 2 ^ 64 := small64_iff.mp h
theorem natAbs64 {i : Int} (h : small64 i = true) : i.natAbs < 2 ^ 64 := by
  have := small64_ok h
  omega
theorem opr_add : OpR X (binaryOp .Add) (RR (op2 .Add)) := by
  intro pins s σ H x y v u Q I rx ry ⟨F, d1, d2, d, l, r1, r2, e, q⟩
  unfold op2 at e
  split at e
  · cases e
    rw [r1.int] at rx
    rw [r2.int] at ry
    exact op_add pins s σ H _ _ v u Q I rx ry ⟨_, _, rfl, rfl, q _ _ (.refl _) (.int _)⟩
  · simp only at e
    split at e
    · rename_i hz
      cases e
      obtain ⟨a, xs, rfl, nf, ha, hx, ra⟩ := r1.tup
      obtain ⟨b, ys, rfl, nf', hb, hy, rb⟩ := r2.tup
      have z : xs.length + ys.length ≤ sizeLine := by rw [ra.len, rb.len]; exact szOk_le hz
      refine op_catA pins s σ H _ _ v u Q I rx ry ⟨a, b, xs, ys, rfl, rfl, SqT.of ha, SqT.of hb, z, fun e => ?_, fun _ e => ?_, fun _ _ p hp => ?_⟩
      · subst e
        cases ra
        exact q _ _ (.refl _) (.tup nf' hb hy rb)
      · subst e
        cases rb
        refine q _ _ (.refl _) ?_
        rw [List.append_nil]
        exact .tup nf ha hx ra
      · exact q _ _ (.new hp) (.newT l hp (by rw [List.length_append]; exact z) (ra.app rb))
    · cases e
  · simp only at e
    split at e
    · rename_i hz
      cases e
      obtain ⟨a, xs, rfl, ha, hx, ra⟩ := r1.list
      obtain ⟨b, ys, rfl, hb, hy, rb⟩ := r2.list
      have z : xs.length + ys.length ≤ sizeLine := by rw [ra.len, rb.len]; exact szOk_le hz
      exact op_cat pins s σ H _ _ v u Q I rx ry ⟨a, b, xs, ys, rfl, rfl, ha, hb, z, fun p hp => q _ _ (.new hp) (.newL l hp (by rw [List.length_append]; exact z) (ra.app rb))⟩
    · cases e
  · cases e
  · cases e
  · cases e
theorem opr_int {o : Operator} (hl : ∀ xs ys : List D, op2 o (.tuple xs) (.tuple ys) = none) (hl2 : ∀ xs ys : List D, op2 o (.list xs) (.list ys) = none) (hl3 : ∀ (xs : List D) (k : Int), op2 o (.list xs) (.int k) = none)
    (hl4 : ∀ (xs : List D) (k : Int), op2 o (.tuple xs) (.int k) = none)
    (h : ∀ (i j : Int) (d : D) (pins : List (Addr × Obj)) (s : Shared) (σ : L2.St) (H : Hp) (v u : Value) (Q : VK), Inv X pins σ H s → RelV (.int i) v → RelV (.int j) u → intOp o i j = some d → (∀ v, Rp (fun _ => False) H v d → Q v H) →
      wpAny (model X.prog X.w) X.A (binaryOp o v u) (EP X pins σ Q) X.xe s) : OpR X (binaryOp o) (RR (op2 o)) := by
  intro pins s σ H x y v u Q I rx ry ⟨F, d1, d2, d, l, r1, r2, e, q⟩
  cases d1 with
  | int i =>
    cases d2 with
    | int j =>
      rw [r1.int] at rx
      rw [r2.int] at ry
      refine h i j d pins s σ H v u Q I rx ry e fun w r => q _ _ (.refl _) ?_
      have hd : ∃ k, d = .int k := by
        have e : intOp o i j = some d := e
        unfold intOp at e
        split at e <;> first | (split at e <;> cases e <;> exact ⟨_, rfl⟩) | (cases e <;> exact ⟨_, rfl⟩)
      obtain ⟨k, rfl⟩ := hd
      cases r
      exact .int _
    | _ => exact nomatch e
  | tuple xs =>
    cases d2 with
    | tuple ys => rw [hl] at e; cases e
    | int k => rw [hl4] at e; cases e
    | _ => exact nomatch e
  | list xs =>
    cases d2 with
    | list ys => rw [hl2] at e; cases e
    | int k => rw [hl3] at e; cases e
    | _ => exact nomatch e
  | _ => cases d2 <;> exact nomatch e
theorem opr_sub : OpR X (binaryOp .Sub) (RR (op2 .Sub)) := opr_int (fun _ _ => rfl) (fun _ _ => rfl) (fun _ _ => rfl) (fun _ _ => rfl) fun i j d pins s σ H v u Q I rx ry e q => by
  cases e
  exact op_sub pins s σ H _ _ v u Q I rx ry ⟨_, _, rfl, rfl, q _ (.int _)⟩
theorem opr_fdiv : OpR X (binaryOp .FloorDiv) (RR (op2 .FloorDiv)) := opr_int (fun _ _ => rfl) (fun _ _ => rfl) (fun _ _ => rfl) (fun _ _ => rfl) fun i j d pins s σ H v u Q I rx ry e q => by
  simp only [intOp] at e
  split at e
  · rename_i h
    cases e
    rw [Bool.and_eq_true, decide_eq_true_eq, decide_eq_true_eq] at h
    exact op_fdiv pins s σ H _ _ v u Q I rx ry ⟨_, _, rfl, rfl, h, q _ (.int _)⟩
  · cases e
theorem opr_mod : OpR X (binaryOp .Mod) (RR (op2 .Mod)) := opr_int (fun _ _ => rfl) (fun _ _ => rfl) (fun _ _ => rfl) (fun _ _ => rfl) fun i j d pins s σ H v u Q I rx ry e q => by
  simp only [intOp] at e
  split at e
  · rename_i h
    cases e
    exact op_mod pins s σ H _ _ v u Q I rx ry ⟨_, _, rfl, rfl, of_decide_eq_true h, q _ (.int _)⟩
  · cases e
theorem opr_shl : OpR X (binaryOp .LShift) (RR (op2 .LShift)) := opr_int (fun _ _ => rfl) (fun _ _ => rfl) (fun _ _ => rfl) (fun _ _ => rfl) fun i j d pins s σ H v u Q I rx ry e q => by
  simp only [intOp] at e
  split at e
  · rename_i h
    cases e
    rw [Bool.and_eq_true, Bool.and_eq_true, decide_eq_true_eq, decide_eq_true_eq] at h
    exact op_shl pins s σ H _ _ v u Q I rx ry ⟨_, _, rfl, rfl, ⟨h.1.1, h.1.2, natAbs64 h.2⟩, q _ (.int _)⟩
  · cases e
theorem opr_pow : OpR X (binaryOp .Pow) (RR (op2 .Pow)) := opr_int (fun _ _ => rfl) (fun _ _ => rfl) (fun _ _ => rfl) (fun _ _ => rfl) fun i j d pins s σ H v u Q I rx ry e q => by
  simp only [intOp] at e
  split at e
  · rename_i h
    cases e
    rw [Bool.and_eq_true, Bool.and_eq_true, decide_eq_true_eq, decide_eq_true_eq] at h
    exact op_pow pins s σ H _ _ v u Q I rx ry ⟨_, _, rfl, rfl, ⟨h.1.1, h.1.2, natAbs64 h.2⟩, q _ (.int _)⟩
  · cases e
theorem repK_ok {k : Int} {n : Nat} (h : repK k n = true) : -(2 ^ 63) ≤ k ∧ k < 2 ^ 63 ∧ n * k.toNat ≤ sizeLine := by
  unfold repK at h
  rw [Bool.and_eq_true, Bool.and_eq_true, decide_eq_true_eq, decide_eq_true_eq] at h
  exact ⟨h.1.1, h.1.2, szOk_le h.2⟩
theorem rep_len {α : Type} (xs : List α) : ∀ n : Nat, (List.replicate n xs).flatten.length = xs.length * n
  | 0 => rfl
  | n + 1 => by rw [List.replicate_succ, List.flatten_cons, List.length_append, rep_len xs n, Nat.mul_succ, Nat.add_comm]

/-! comparisons -/
def RB (f : D → D → Option Bool) : R2 := fun x y H Q => ∃ F d1 d2 d, RpB F H x d1 ∧ RpB F H y d2 ∧ f d1 d2 = some d ∧ Q (.bl d) H
theorem eqv_int (a b : Int) : PyData.eqv (.int a) (.int b) = decide (a = b) := by
  simp only [PyData.eqv]
  first | rfl | (rw [Bool.beq_eq_decide_eq])
theorem shaped_int (a : Int) : SeqAt.shaped (.int a) = true := by
  unfold SeqAt.shaped
  simp [PyData.canLay0, PyData.depth]
theorem eqD_some {x y : D} {b : Bool} (h : eqD x y = some b) : (∃ a c, x = .str a ∧ y = .str c ∧ b = decide (a = c)) ∨ SeqAt.shaped x = true ∧ SeqAt.shaped y = true ∧ PyData.eqv x y = b := by
  unfold eqD at h
  split at h
  · cases h
    exact .inr ⟨shaped_int _, shaped_int _, eqv_int _ _⟩
  · cases h
    exact .inl ⟨_, _, rfl, rfl, rfl⟩
  · split at h
    · rename_i k
      cases h
      rw [Bool.and_eq_true] at k
      exact .inr ⟨k.1, k.2, rfl⟩
    · cases h
theorem RpB.str {F : Addr → Prop} {H : Hp} {v : V} {a : Str} (h : RpB F H v (.str a)) : v = .str a := by
  rcases h with h | ⟨a, rfl, o⟩
  · cases h; rfl
  · rcases o.is with ⟨_, e⟩ | ⟨_, e⟩ <;> cases e
theorem dec_strV (a c : Str) : decide (V.str a = V.str c) = decide (a = c) := by
  by_cases h : a = c
  · subst h; simp
  · simp [h]
theorem cpr_eq (hu : X.A.units + 65 < cLine) : OpR X (compareOp .Eq) (RB (cmpD .Eq)) := by
  intro pins s σ H x y v u Q I rx ry ⟨F, d1, d2, d, r1, r2, e, q⟩
  rcases eqD_some (show eqD d1 d2 = some d from e) with ⟨a, c, rfl, rfl, rfl⟩ | ⟨s1, s2, rfl⟩
  · rw [r1.str] at rx
    rw [r2.str] at ry
    exact op_eq pins s σ H _ _ v u Q I rx ry ⟨rfl, by rw [dec_strV]; exact q⟩
  · exact op_eqD (by omega) pins s σ H x y v u Q I rx ry ⟨d1, d2, r1.dp (shaped_noD s1), r2.dp (shaped_noD s2), s1, s2, q⟩
theorem cpr_ne (hu : X.A.units + 65 < cLine) : OpR X (compareOp .NotEq) (RB (cmpD .NotEq)) := by
  intro pins s σ H x y v u Q I rx ry ⟨F, d1, d2, d, r1, r2, e, q⟩
  obtain ⟨b, e2, rfl⟩ := Option.map_eq_some_iff.mp (show (eqD d1 d2).map (! ·) = some d from e)
  rcases eqD_some e2 with ⟨a, c, rfl, rfl, rfl⟩ | ⟨s1, s2, rfl⟩
  · rw [r1.str] at rx
    rw [r2.str] at ry
    exact op_ne pins s σ H _ _ v u Q I rx ry ⟨rfl, by rw [dec_strV]; exact q⟩
  · exact op_neD (by omega) pins s σ H x y v u Q I rx ry ⟨d1, d2, r1.dp (shaped_noD s1), r2.dp (shaped_noD s2), s1, s2, q⟩
theorem alike_notNone {x y : D} (h : PySem.W.alike x y = true) (n : x = .none) : y = .none := by
  subst n
  cases y <;> first | rfl | (simp [PySem.W.alike] at h)
theorem cpr_lt (hu : X.A.units + 65 < cLine) : OpR X (compareOp .Lt) (RB (cmpD .Lt)) := by
  intro pins s σ H x y v u Q I rx ry ⟨F, d1, d2, d, r1, r2, e, q⟩
  have e : ltD d1 d2 = some d := e
  unfold ltD at e
  split at e
  · cases e
    rw [r1.int] at rx
    rw [r2.int] at ry
    exact op_lt pins s σ H _ _ v u Q I rx ry ⟨_, _, rfl, rfl, q⟩
  · split at e
    · rename_i k
      cases e
      rw [Bool.and_eq_true, Bool.and_eq_true (!d1.hasDict), Bool.not_eq_true', Bool.not_eq_true'] at k
      obtain ⟨k, n1, n2⟩ := k
      rw [Bool.and_eq_true, Bool.and_eq_true, decide_eq_true_eq, decide_eq_true_eq, Bool.and_eq_true, Bool.not_eq_true'] at k
      obtain ⟨as, q1⟩ := Dp.reads I d1 x v (r1.dp n1) rx
      obtain ⟨bs, q2⟩ := Dp.reads I d2 y u (r2.dp n2) ry
      have hn : d1 ≠ .none := by
        rintro rfl
        cases k.1.1.2
      exact PySem.W.rcLt_alike d1 d2 X.A s v u as bs q1 q2 k.1.1.1 hn (by have := k.1.2; omega) _ _ _ _ ⟨.bl _, H, I, rfl, q⟩
    · cases e
theorem cpr_gt : OpR X (compareOp .Gt) (RB (cmpD .Gt)) := by
  intro pins s σ H x y v u Q I rx ry ⟨F, d1, d2, d, r1, r2, e, q⟩
  unfold cmpD at e
  simp only at e
  split at e
  · cases e
    rw [r1.int] at rx
    rw [r2.int] at ry
    exact op_gt pins s σ H _ _ v u Q I rx ry ⟨_, _, rfl, rfl, q⟩
  · cases e
theorem cpr_le : OpR X (compareOp .LtE) (RB (cmpD .LtE)) := by
  intro pins s σ H x y v u Q I rx ry ⟨F, d1, d2, d, r1, r2, e, q⟩
  unfold cmpD at e
  simp only at e
  split at e
  · cases e
    rw [r1.int] at rx
    rw [r2.int] at ry
    exact op_le pins s σ H _ _ v u Q I rx ry ⟨_, _, rfl, rfl, q⟩
  · cases e
theorem cpr_ge : OpR X (compareOp .GtE) (RB (cmpD .GtE)) := by
  intro pins s σ H x y v u Q I rx ry ⟨F, d1, d2, d, r1, r2, e, q⟩
  unfold cmpD at e
  simp only at e
  split at e
  · cases e
    rw [r1.int] at rx
    rw [r2.int] at ry
    exact op_ge pins s σ H _ _ v u Q I rx ry ⟨_, _, rfl, rfl, q⟩
  · cases e
theorem lay_list {xs : List D} (h : SeqAt.shaped (.list xs) = true) : PyData.canLayAll0 xs = true ∧ PyData.depthAll xs ≤ 63 := by
  unfold SeqAt.shaped at h
  rw [Bool.and_eq_true, decide_eq_true_eq] at h
  simp only [PyData.canLay0, PyData.depth] at h
  exact ⟨h.1, by omega⟩
theorem lay_tup {xs : List D} (h : SeqAt.shaped (.tuple xs) = true) : PyData.canLayAll0 xs = true ∧ PyData.depthAll xs ≤ 63 := by
  unfold SeqAt.shaped at h
  rw [Bool.and_eq_true, decide_eq_true_eq] at h
  simp only [PyData.canLay0, PyData.depth] at h
  exact ⟨h.1, by omega⟩
theorem cpr_in (hu : X.A.units + 65 < cLine) : OpR X (compareOp .In) (RB (cmpD .In)) := by
  intro pins s σ H x y v u Q I rx ry ⟨F, d1, d2, d, r1, r2, e, q⟩
  have e : inD d1 d2 = some d := e
  unfold inD at e
  split at e
  · split at e
    · rename_i ys k
      cases e
      rw [Bool.and_eq_true] at k
      obtain ⟨as, q1⟩ := Dp.reads I d1 x v (r1.dp (shaped_noD k.1)) rx
      obtain ⟨bs, q2⟩ := Dp.reads I _ y u (r2.dp (shaped_noD k.2)) ry
      have h := lay_list k.2
      exact SeqAt.in_list_reads q2 q1 h.1 (SeqAt.canLay_of_shaped k.1) (by have := h.2; omega) ⟨.bl _, H, I, rfl, q⟩
    · cases e
  · split at e
    · rename_i ys k
      cases e
      rw [Bool.and_eq_true] at k
      obtain ⟨as, q1⟩ := Dp.reads I d1 x v (r1.dp (shaped_noD k.1)) rx
      obtain ⟨bs, q2⟩ := Dp.reads I _ y u (r2.dp (shaped_noD k.2)) ry
      have h := lay_tup k.2
      exact SeqAt.in_tuple_reads q2 q1 h.1 (SeqAt.canLay_of_shaped k.1) (by have := h.2; omega) ⟨.bl _, H, I, rfl, q⟩
    · cases e
  · cases e
theorem cpr_notin (hu : X.A.units + 65 < cLine) : OpR X (compareOp .NotIn) (RB (cmpD .NotIn)) := by
  intro pins s σ H x y v u Q I rx ry ⟨F, d1, d2, d, r1, r2, e, q⟩
  obtain ⟨b, e2, rfl⟩ := Option.map_eq_some_iff.mp (show (inD d1 d2).map (! ·) = some d from e)
  clear e
  have e := e2
  unfold inD at e
  split at e
  · split at e
    · rename_i ys k
      cases e
      rw [Bool.and_eq_true] at k
      obtain ⟨as, q1⟩ := Dp.reads I d1 x v (r1.dp (shaped_noD k.1)) rx
      obtain ⟨bs, q2⟩ := Dp.reads I _ y u (r2.dp (shaped_noD k.2)) ry
      have h := lay_list k.2
      exact SeqAt.notIn_list_reads q2 q1 h.1 (SeqAt.canLay_of_shaped k.1) (by have := h.2; omega) ⟨.bl _, H, I, rfl, q⟩
    · cases e
  · split at e
    · rename_i ys k
      cases e
      rw [Bool.and_eq_true] at k
      obtain ⟨as, q1⟩ := Dp.reads I d1 x v (r1.dp (shaped_noD k.1)) rx
      obtain ⟨bs, q2⟩ := Dp.reads I _ y u (r2.dp (shaped_noD k.2)) ry
      have h := lay_tup k.2
      exact SeqAt.notIn_tuple_reads q2 q1 h.1 (SeqAt.canLay_of_shaped k.1) (by have := h.2; omega) ⟨.bl _, H, I, rfl, q⟩
    · cases e
  · cases e
theorem isNone_eq {F : Addr → Prop} {H : Hp} {v : V} {d : D} (r : RpB F H v d) : isNoneD d = decide (v = .non) := by
  rcases r with r | ⟨a, rfl, o⟩
  · cases r <;> rfl
  · rcases o.is with ⟨_, rfl⟩ | ⟨_, rfl⟩ <;> rfl
theorem isB_gen {v : Value} {b : Bool} {M : Model} {A : Around} {E : Value → Shared → Prop} {s : Shared} {Q : Value → Shared → Prop} (n : ∀ x, v ≠ .builtin x) (h : Q (.bool (v == .bool b)) s) : wpAny M A (compareOp .Is v (.bool b)) Q E s := by
  cases v <;> first | exact wpAny_pure h | exact absurd rfl (n _)
theorem isnB_gen {v : Value} {b : Bool} {M : Model} {A : Around} {E : Value → Shared → Prop} {s : Shared} {Q : Value → Shared → Prop} (n : ∀ x, v ≠ .builtin x) (h : Q (.bool (!(v == .bool b))) s) : wpAny M A (compareOp .IsNot v (.bool b)) Q E s := by
  cases v <;> first | exact wpAny_pure h | exact absurd rfl (n _)
theorem relV_nb {x : V} {v : Value} (r : RelV x v) : ∀ z, v ≠ .builtin z := fun z e => by
  subst e
  cases x <;> first
    | (obtain ⟨t, q⟩ := r; cases q; done)
    | (cases r; done)
theorem isB_eq {F : Addr → Prop} {H : Hp} {x : V} {d : D} {v : Value} {b : Bool} (r : RpB F H x d) (rx : RelV x v) : isBoolD b d = (v == .bool b) := by
  have ref : ∀ a : Addr, (Value.ref a == Value.bool b) = false := fun a => rfl
  rcases r with r | ⟨a, rfl, o⟩
  · cases r with
    | bl k => cases rx; cases k <;> cases b <;> rfl
    | non => cases rx; rfl
    | int i => obtain ⟨t, rfl⟩ := rx; rfl
    | str i => obtain ⟨t, rfl⟩ := rx; rfl
    | lst _ _ _ _ => cases rx; rfl
    | tup _ _ _ _ => cases rx; rfl
    | dct _ _ _ _ _ _ _ _ => cases rx; rfl
  · cases rx
    rcases o.is with ⟨_, rfl⟩ | ⟨_, rfl⟩ <;> rfl
theorem cpr_is : OpR X (compareOp .Is) (RB (cmpD .Is)) := by
  intro pins s σ H x y v u Q I rx ry ⟨F, d1, d2, d, r1, r2, e, q⟩
  have e : isD d1 d2 = some d := e
  unfold isD at e
  split at e
  · cases e
    have k := isNone_eq r2
    have k : y = .non := of_decide_eq_true k.symm
    exact op_isN pins s σ H x y v u Q I rx ry ⟨k, by rw [← isNone_eq r1]; exact q⟩
  · cases e
    have k := r2.bool
    subst k
    cases ry
    exact isB_gen (relV_nb rx) (fin_bl I q (isB_eq r1 rx))
  · cases e
theorem cpr_isnot : OpR X (compareOp .IsNot) (RB (cmpD .IsNot)) := by
  intro pins s σ H x y v u Q I rx ry ⟨F, d1, d2, d, r1, r2, e, q⟩
  obtain ⟨d', e2, rfl⟩ := Option.map_eq_some_iff.mp (show (isD d1 d2).map (! ·) = some d from e)
  clear e
  have e := e2
  unfold isD at e
  split at e
  · cases e
    have k := isNone_eq r2
    have k : y = .non := of_decide_eq_true k.symm
    exact op_notN pins s σ H x y v u Q I rx ry ⟨k, by rw [← isNone_eq r1]; exact q⟩
  · cases e
    have k := r2.bool
    subst k
    cases ry
    exact isnB_gen (relV_nb rx) (fin_bl I q (congrArg (! ·) (isB_eq r1 rx)))
  · cases e
theorem cpr_all (hu : X.A.units + 65 < cLine) : ∀ o : CmpOp, OpR X (compareOp o) (RB (cmpD o))
  | .Eq => cpr_eq hu
  | .NotEq => cpr_ne hu
  | .Lt => cpr_lt hu
  | .LtE => cpr_le
  | .Gt => cpr_gt
  | .GtE => cpr_ge
  | .Is => cpr_is
  | .IsNot => cpr_isnot
  | .In => cpr_in hu
  | .NotIn => cpr_notin hu
end
end BA

/-! BA2b: sequences times an int -/
namespace BA
open PySem PySem.Spec
open PyProof.Rows
open L2 hiding St
section
variable {X : Cx}
theorem tmul_self (l : Addr) (items : Array Value) (n : Nat) (dd : Option Addr) (sl : Array (Option Value)) (x : Int) (u : Tok) (c0 : (decide (x < -(2 ^ 63)) || decide (x ≥ 2 ^ 63)) = false) (c1 : (items.isEmpty || x == 1) = true) :
    Meets (Builtin.«tuple.__mul__» ⟨[.ref l, .int x u], []⟩) (fun _ R s => s.heap.get? l = some { cls := .type "tuple", dict := dd, data := .seq items n, slots := sl } ∧ R (.ok (.ret (Value.ref l))) s) :=
  .of_wp fun prog w A R s h => by
    obtain ⟨hp, g, d, tk, os⟩ := s
    obtain ⟨hl, h⟩ := h
    have f1 := AutoSeq1.idx_int
    wp_walk using wpAny_loadPart' hl
    repeat (first
      | (refine wpAny_ite_false (decide_eq_false (by rw [c0]; exact Bool.false_ne_true)) ?_; wp_walk using wpAny_loadPart' hl)
      | (refine wpAny_ite_true (decide_eq_true c1) ?_; wp_walk using wpAny_loadPart' hl))
    exact ⟨_, rfl, h⟩
theorem tmul_nil (l : Addr) (items : Array Value) (n : Nat) (dd : Option Addr) (sl : Array (Option Value)) (x : Int) (u : Tok) (c0 : (decide (x < -(2 ^ 63)) || decide (x ≥ 2 ^ 63)) = false) (c1 : (items.isEmpty || x == 1) = false) (c2 : (decide (x ≤ 0) || items.isEmpty) = true) :
    Meets (Builtin.«tuple.__mul__» ⟨[.ref l, .int x u], []⟩) (fun _ R s => s.heap.get? l = some { cls := .type "tuple", dict := dd, data := .seq items n, slots := sl } ∧
      R (.ok (.ret (Value.ref s.heap.objs.size))) { s with heap := s.heap.push { cls := Value.type "tuple", data := Data.seq #[] }, toks := s.toks }) :=
  .of_wp fun prog w A R s h => by
    obtain ⟨hp, g, d, tk, os⟩ := s
    obtain ⟨hl, h⟩ := h
    have f1 := AutoSeq1.idx_int
    wp_walk using wpAny_loadPart' hl
    repeat (first
      | (refine wpAny_ite_false (decide_eq_false (by rw [c0]; exact Bool.false_ne_true)) ?_; wp_walk using wpAny_loadPart' hl)
      | (refine wpAny_ite_false (decide_eq_false (by rw [c1]; exact Bool.false_ne_true)) ?_; wp_walk using wpAny_loadPart' hl)
      | (refine wpAny_ite_true (decide_eq_true c2) ?_; wp_walk using wpAny_loadPart' hl))
    exact ⟨_, rfl, h⟩
theorem tmul_run {pins : List (Addr × Obj)} {s : Shared} {σ : L2.St} {H : Hp} {l : Addr} {xs : List V} {k : Int} {t : Tok} {Q : VK} (I : Inv X pins σ H s) (hT : H l = some (.tup xs)) (h0 : -(2 ^ 63) ≤ k) (h1 : k < 2 ^ 63)
    (q1 : xs = [] ∨ k = 1 → Q (.ref l) H) (q2 : xs ≠ [] → k ≤ 0 → ∀ p, H p = none → Q (.ref p) (upd H p (.tup []))) (h : (xs = [] ∨ k = 1) ∨ k ≤ 0) : wpAny (model X.prog X.w) X.A (binaryOp .Mult (.ref l) (.int k t)) (EP X pins σ Q) X.xe s := by
  obtain ⟨its, r, ⟨⟨cls, dd, data, sl⟩, ho, hc, n, hd⟩, hs⟩ := I.tuple (SqT.of hT)
  simp only at hc hd
  subst hc hd
  have c0 : (decide (k < -(2 ^ 63)) || decide (k ≥ 2 ^ 63)) = false := by
    rw [decide_eq_false (by omega), decide_eq_false (by omega)] <;> rfl
  have he : its.toArray.isEmpty = decide (xs = []) := by
    cases r with
    | nil => rfl
    | cons a b => exact (decide_eq_false (by simp)).symm
  refine wpAny_binaryOp_repeat_ref (T := "tuple") (U := "int") (by decide) ⟨_, ho, rfl⟩ (fun s' => typeIs_int s' k t) noFill_tuple_mul F.fills_int_mul F.slot_int_rmul repeat_tuple F.slot_int_index.lookup
    (call_meets F.slot_int_rmul (typeIs_int s k t) F.entry_int_rmul (F.args_int_rmul_2 _ _) (int_rmul_tuple k t l its.toArray n dd sl) ⟨ho, rfl, ⟨_, ho, rfl⟩, ?_⟩)
  by_cases c : xs = [] ∨ k = 1
  · refine call_meets F.slot_tuple_mul ⟨_, ho, rfl⟩ F.entry_tuple_mul (F.args_tuple_mul_2 _ _) (tmul_self l its.toArray n dd sl k t c0 ?_) ⟨ho, ?_⟩
    · rw [he]
      rcases c with c | c
      · rw [decide_eq_true c]
        rfl
      · rw [c]
        simp
    · exact ⟨.ref l, H, I, rfl, q1 c⟩
  · have c' : xs ≠ [] ∧ k ≠ 1 := ⟨fun e => c (.inl e), fun e => c (.inr e)⟩
    have hk : k ≤ 0 := by
      rcases h with h | h
      · exact absurd h c
      · exact h
    refine call_meets F.slot_tuple_mul ⟨_, ho, rfl⟩ F.entry_tuple_mul (F.args_tuple_mul_2 _ _) (tmul_nil l its.toArray n dd sl k t c0 ?_ ?_) ⟨ho, ?_⟩
    · rw [he, decide_eq_false c'.1, Bool.false_or]
      exact beq_eq_false_iff_ne.mpr c'.2
    · rw [decide_eq_true hk]
      rfl
    · refine ⟨.ref s.heap.objs.size, _, I.laid (t' := s.toks) (o := .tup []) (fun b ob q => Heap.get?_push_of_some _ q) (Nat.le_refl _) ?_, rfl, q2 c'.1 hk _ (I.hok.fresh (Nat.le_refl _))⟩
      exact ⟨Nat.zero_le _, _, .nil, IsTup.new _ _⟩
theorem opr_mul : OpR X (binaryOp .Mult) (RR (op2 .Mult)) := by
  intro pins s σ H x y v u Q I rx ry ⟨F, d1, d2, d, l, r1, r2, e, q⟩
  unfold op2 at e
  split at e
  · simp only [intOp] at e
    split at e
    · rename_i h
      cases e
      rw [r1.int] at rx
      rw [r2.int] at ry
      refine op_mul pins s σ H _ _ v u Q I rx ry ⟨_, _, rfl, rfl, ?_, q _ _ (.refl _) (.int _)⟩
      rw [Bool.or_eq_true] at h
      rcases h with h | h
      · exact .inl (small64_ok h)
      · exact .inr (small64_ok h)
    · cases e
  · cases e
  · cases e
  · simp only at e
    split at e
    · rename_i hz
      cases e
      obtain ⟨a, xs, rfl, ha, hx, ra⟩ := r1.list
      rw [r2.int] at ry
      obtain ⟨k1, k2, k3⟩ := repK_ok hz
      rw [← ra.len] at k3
      exact op_rep pins s σ H _ _ v u Q I rx ry ⟨a, _, xs, rfl, rfl, ha, k1, k2, k3, fun p hp => q _ _ (.new hp) (.newL l hp (by rw [rep_len]; exact k3) (ra.rep _))⟩
    · cases e
  · simp only at e
    split at e
    · rename_i ds k hz
      cases e
      obtain ⟨a, xs, rfl, nf, ha, hx, ra⟩ := r1.tup
      rw [r2.int] at ry
      unfold repT at hz
      rw [Bool.and_eq_true, Bool.and_eq_true, decide_eq_true_eq, decide_eq_true_eq] at hz
      have hn : xs.length ≤ 1000 := by rw [ra.len]; exact Nat.le_of_ble_eq_true hz.2
      by_cases c : (xs = [] ∨ k = 1) ∨ k ≤ 0
      · cases rx
        obtain ⟨t, rfl⟩ := ry
        refine tmul_run I ha hz.1.1 (by omega) (fun c => ?_) (fun c1 c2 p hp => ?_) c
        · refine q _ _ (.refl _) ?_
          have e : (List.replicate k.toNat ds).flatten = ds := by
            rcases c with c | c
            · subst c
              cases ra
              simp
            · subst c
              simp
          rw [e]
          exact .tup nf ha hx ra
        · have e : (List.replicate k.toNat ds).flatten = [] := by
            rw [show k.toNat = 0 by omega]
            rfl
          rw [e] at q
          exact q _ _ (.new hp) (.newT l hp (Nat.zero_le _) .nil)
      · have c1 : xs ≠ [] := fun e => c (.inl (.inl e))
        have c2 : k ≠ 1 := fun e => c (.inl (.inr e))
        have c3 : ¬ k ≤ 0 := fun e => c (.inr e)
        refine op_repT pins s σ H _ _ v u Q I rx ry ⟨a, _, xs, rfl, rfl, SqT.of ha, c1, by omega, hz.1.2, hn, fun p hp => q _ _ (.new hp) (.newT l hp ?_ (ra.rep _))⟩
        rw [rep_len, sizeLine_eq]
        have : xs.length * k.toNat ≤ 1000 * 1000 := Nat.mul_le_mul hn (by omega)
        omega
    · cases e
  · cases e
def opKnown : Operator → Bool
  | .Add | .Sub | .Mult | .FloorDiv | .Mod | .LShift | .Pow => true
  | .MatMult | .Div | .RShift | .BitOr | .BitXor | .BitAnd => false
theorem opr_all : ∀ o : Operator, opKnown o = true → OpR X (binaryOp o) (RR (op2 o))
  | .Add, _ => opr_add
  | .Sub, _ => opr_sub
  | .Mult, _ => opr_mul
  | .FloorDiv, _ => opr_fdiv
  | .Mod, _ => opr_mod
  | .LShift, _ => opr_shl
  | .Pow, _ => opr_pow
end
end BA

/-! BA3: the built-in functions over data -/
namespace BA
open PySem PySem.Spec
open PyProof.Rows
open L2 hiding St

inductive RpBs (F : Addr → Prop) (H : Hp) : List V → List D → Prop
  | nil : RpBs F H [] []
  | cons {v : V} {vs : List V} {d : D} {ds : List D} : RpB F H v d → RpBs F H vs ds → RpBs F H (v :: vs) (d :: ds)
theorem RpBs.one {F : Addr → Prop} {H : Hp} {vs : List V} {d : D} (h : RpBs F H vs [d]) : ∃ v, vs = [v] ∧ RpB F H v d := by
  cases h with
  | cons r t => cases t; exact ⟨_, rfl, r⟩
theorem RpBs.two {F : Addr → Prop} {H : Hp} {vs : List V} {d e : D} (h : RpBs F H vs [d, e]) : ∃ v w, vs = [v, w] ∧ RpB F H v d ∧ RpB F H w e := by
  cases h with
  | cons r t =>
    cases t with
    | cons r2 t2 => cases t2; exact ⟨_, _, rfl, r, r2⟩
theorem RpBs.of {F : Addr → Prop} {H : Hp} : ∀ {vs : List V} {ds : List D}, Rps F H vs ds → RpBs F H vs ds
  | _, _, .nil => .nil
  | _, _, .cons r t => .cons (.inl r) (RpBs.of t)
/-- a call of a built-in, told by data -/
def RC (f : List D → Option D) : List V → Hp → VK → Prop := fun vs H Q => ∃ F ds d, Live F H ∧ RpBs F H vs ds ∧ f ds = some d ∧ ∀ v H', Grow H H' → Rp F H' v d → Q v H'

theorem one_of {α : Type} {f : D → Option α} {xs : List D} {a : α} (h : (match xs with | [x] => f x | _ => none) = some a) : ∃ x, xs = [x] ∧ f x = some a := by
  match xs, h with
  | [x], h => exact ⟨x, rfl, h⟩
section
variable {X : Cx}
theorem Inv.heldL {pins : List (Addr × Obj)} {σ : L2.St} {H : Hp} {s : Shared} {a : Addr} {xs : List V} (I : Inv X pins σ H s) (h : H a = some (.lst xs)) : ∃ its : List Value, Vals xs its ∧ s.heap.IsList a its.toArray := by
  obtain ⟨its, r, p, _⟩ := I.list (SqL.of h)
  exact ⟨its, r, p.isList⟩
theorem Inv.heldT {pins : List (Addr × Obj)} {σ : L2.St} {H : Hp} {s : Shared} {a : Addr} {xs : List V} (I : Inv X pins σ H s) (h : H a = some (.tup xs)) : ∃ its : List Value, Vals xs its ∧ s.heap.IsTuple a its.toArray := by
  obtain ⟨its, r, p, _⟩ := I.tuple (SqT.of h)
  exact ⟨its, r, p⟩
theorem pr_len : CallR X (.builtin "len") (RC (prim .len)) := by
  intro pins s σ H vs us Q I r ⟨F, ds, d, l, rs, e, q⟩
  simp only [prim] at e
  split at e
  rotate_left
  · cases e
  rename_i x
  obtain ⟨v, rfl, rx⟩ := rs.one
  split at e
  · rename_i ys hy
    cases e
    obtain ⟨a, xs, rfl, h, z, ra⟩ := rx.seq hy
    have q' := q _ _ (.refl _) (.int (ys.length : Nat))
    rw [← ra.len] at q'
    exact call_len_seq pins s σ H _ us Q I r ⟨a, xs, rfl, h.elim (fun h => .inl (SqL.of h.1)) (fun h => .inr (SqT.of h.1)), q'⟩
  · cases e
theorem ofInts_some {x d : D} {f : List Int → Option D} (h : ofInts x f = some d) : ∃ ys ns, seqD x = some ys ∧ intsD ys = some ns ∧ f ns = some d := by
  unfold ofInts at h
  split at h
  · split at h
    · exact ⟨_, _, by assumption, by assumption, h⟩
    · cases h
  · cases h
theorem ofBools_some {x d : D} {f : List Bool → D} (h : ofBools x f = some d) : ∃ ys ns, seqD x = some ys ∧ boolsD ys = some ns ∧ f ns = d := by
  unfold ofBools at h
  split at h
  · split at h
    · cases h
      exact ⟨_, _, by assumption, by assumption, rfl⟩
    · cases h
  · cases h
theorem pr_sum (hc : X.calm = true) : CallR X (.builtin "sum") (RC (prim .sum)) := by
  intro pins s σ H vs us Q I r ⟨F, ds, d, l, rs, e, q⟩
  simp only [prim] at e
  obtain ⟨x, rfl, e⟩ := one_of e
  obtain ⟨v, rfl, rx⟩ := rs.one
  obtain ⟨ys, ns, hy, hn, e⟩ := ofInts_some e
  cases e
  obtain ⟨a, xs, rfl, h, z, ra⟩ := rx.seq hy
  obtain rfl := ra.ints hn
  have q' := q _ _ (.refl _) (.int ns.sum)
  rcases h with ⟨h, _⟩ | ⟨h, _⟩
  · exact cr_sum hc pins s σ H _ us Q I r ⟨a, ns, rfl, SqL.of h, q'⟩
  · obtain ⟨its, rv, ht⟩ := Inv.heldT I h
    rw [Vals.ref1 r]
    have hi := rv.ints
    obtain ⟨zs, e⟩ := hi.allInts.items
    have hn : numsOf (intItems zs).toList = ns := by rw [← e]; exact hi.numsOf
    rw [nums_intItems] at hn
    rw [e] at ht
    refine PySem.W.ktm_sumG (I.ok.hd hc) ht fun h' tk t' hk => ?_
    rw [preSum_eq, List.take_of_length_le (by simp), hn]
    exact ⟨.int _, H, I.kept hk, ⟨_, rfl⟩, q'⟩
theorem alike_some {ds : List D} (h : alikeB ds = true) : PySem.W.AlikeAll ds ∧ PyData.depthAll ds ≤ 60 ∧ PyData.canLayAll0 ds = true := by
  unfold alikeB at h
  rw [Bool.and_eq_true, Bool.and_eq_true, Bool.and_eq_true] at h
  obtain ⟨⟨⟨h1, h2⟩, h3⟩, h4⟩ := h
  refine ⟨⟨fun x hx y hy => ?_, fun x hx e => ?_⟩, Nat.le_of_ble_eq_true h3, h4⟩
  · exact List.all_eq_true.mp (List.all_eq_true.mp h1 x hx) y hy
  · have := List.all_eq_true.mp h2 x hx
    rw [e] at this
    cases this
theorem ints_alike : ∀ ds : List D, ∀ ns, intsD ds = some ns → ds = ns.map .int
  | [], ns, h => by cases h; rfl
  | d :: ds, ns, h => by
    unfold intsD at h
    split at h
    · rename_i i hi
      obtain ⟨ms, h1, rfl⟩ := Option.map_eq_some_iff.mp h
      rw [ints_alike ds ms h1, asI_some hi]
      rfl
    · cases h
theorem alikeInts (ns : List Int) : PySem.W.AlikeAll (ns.map PyData.int) := by
  refine ⟨fun x hx y hy => ?_, fun x hx e => ?_⟩
  · obtain ⟨i, _, rfl⟩ := List.mem_map.mp hx
    obtain ⟨j, _, rfl⟩ := List.mem_map.mp hy
    simp [PySem.W.alike]
  · obtain ⟨i, _, rfl⟩ := List.mem_map.mp hx
    cases e
theorem layInts : ∀ ns : List Int, PyData.canLayAll0 (ns.map PyData.int) = true
  | [] => by simp [PyData.canLayAll0]
  | n :: ns => by
    rw [List.map_cons]
    simp only [PyData.canLayAll0, PyData.canLay0, layInts ns]
    rfl
theorem hasDictAll_lay : ∀ ds : List D, PyData.canLayAll0 ds = true → PyData.hasDictAll ds = false
  | [], _ => by simp only [PyData.hasDictAll]
  | d :: ds, h => by
    simp only [PyData.canLayAll0, Bool.and_eq_true] at h
    simp only [PyData.hasDictAll, PyData.hasDict_of_canLay d h.1, hasDictAll_lay ds h.2, Bool.or_self]
theorem bestOf_some {f : Int → List Int → Int} {g : D → List D → D} {x d : D} (hg : ∀ n ns, g (.int n) (ns.map .int) = .int (f n ns)) (h : bestOf f g x = some d) :
    ∃ y ys, seqD x = some (y :: ys) ∧ PySem.W.AlikeAll (y :: ys) ∧ PyData.depthAll (y :: ys) ≤ 60 ∧ PyData.canLayAll0 (y :: ys) = true ∧ g y ys = d := by
  unfold bestOf at h
  split at h
  · rename_i y ys hy
    refine ⟨y, ys, hy, ?_⟩
    split at h
    · rename_i n ns hn
      cases h
      have e := ints_alike _ _ hn
      rw [e]
      refine ⟨alikeInts _, by rw [PySem.W.depth_ints]; exact Nat.zero_le _, layInts _, ?_⟩
      rw [List.map_cons] at e
      injection e with e1 e2
      rw [e1, e2, hg]
    · split at h
      · rename_i k
        cases h
        exact ⟨(alike_some k).1, (alike_some k).2.1, (alike_some k).2.2, rfl⟩
      · cases h
  · cases h
theorem best_run {f : Int → List Int → Int} {g : D → List D → D} {id : String} (hg : ∀ n ns, g (.int n) (ns.map .int) = .int (f n ns)) (hc : X.calm = true) (hu : X.A.units + 65 < cLine)
    (hL : ∀ {s : Shared} {l : Addr} {vs : Array Value} {x : PyData} {xs : List PyData} {as : List Addr} {Q E : Value → Shared → Prop}, X.A.handled = none → s.heap.IsList l vs → ReadsAll s.heap vs.toList (x :: xs) as → PySem.W.AlikeAll (x :: xs) → X.A.units + 1 + PyData.depthAll (x :: xs) < cLine →
      (∀ (i : Nat) v h' tk bs, vs[i]? = some v → Reads h' v (g x xs) bs → (∀ b o, s.heap.get? b = some o → h'.get? b = some o) → Q v { s with heap := h', toks := tk }) → wpAny (model X.prog X.w) X.A (call (.builtin id) [.ref l]) Q E s)
    (hT : ∀ {s : Shared} {l : Addr} {vs : Array Value} {x : PyData} {xs : List PyData} {as : List Addr} {Q E : Value → Shared → Prop}, X.A.handled = none → s.heap.IsTuple l vs → ReadsAll s.heap vs.toList (x :: xs) as → PySem.W.AlikeAll (x :: xs) → X.A.units + 1 + PyData.depthAll (x :: xs) < cLine →
      (∀ (i : Nat) v h' tk bs, vs[i]? = some v → Reads h' v (g x xs) bs → (∀ b o, s.heap.get? b = some o → h'.get? b = some o) → Q v { s with heap := h', toks := tk }) → wpAny (model X.prog X.w) X.A (call (.builtin id) [.ref l]) Q E s)
    {pins : List (Addr × Obj)} {s : Shared} {σ : L2.St} {H : Hp} {v : V} {us : List Value} {Q : VK} {F : Addr → Prop} {x d : D} (I : Inv X pins σ H s) (r : Vals [v] us) (rx : RpB F H v x) (e : bestOf f g x = some d) (q : ∀ v, Rp F H v d → Q v H) :
    wpAny (model X.prog X.w) X.A (call (.builtin id) us) (EP X pins σ Q) X.xe s := by
  obtain ⟨y, ys, hy, ha, hd, hcl, rfl⟩ := bestOf_some hg e
  obtain ⟨a, xs, rfl, h, z, ra⟩ := rx.seq hy
  rw [Vals.ref1 r]
  have fin : ∀ (its : List Value), Vals xs its → ∀ (i : Nat) (v : Value) (h' : Heap) (tk : Nat) (bs : List Addr), its.toArray[i]? = some v → Reads h' v (g y ys) bs → (∀ b o, s.heap.get? b = some o → h'.get? b = some o) →
      EP X pins σ Q v { s with heap := h', toks := tk } := by
    intro its rv i v h' tk bs hi hr hk
    have hi' : its[i]? = some v := by simpa using hi
    have hix : i < xs.length := by
      rw [rv.length]
      exact (List.getElem?_eq_some_iff.mp hi').1
    obtain ⟨w, hw1, hw2⟩ := Vals.get rv (List.getElem?_eq_getElem hix)
    rw [hi'] at hw1
    cases hw1
    obtain ⟨dd, hd1, hd2⟩ := ra.getV (List.getElem?_eq_getElem hix)
    have hm : dd ∈ y :: ys := List.mem_of_getElem? hd1
    have hlay : dd.canLay0 = true := by
      have : ∀ (l : List D), PyData.canLayAll0 l = true → ∀ d ∈ l, d.canLay0 = true := by
        intro l
        induction l with
        | nil => intro _ d hd; cases hd
        | cons a b ih =>
          intro h d hd
          simp only [PyData.canLayAll0, Bool.and_eq_true] at h
          rcases List.mem_cons.mp hd with rfl | hd
          · exact h.1
          · exact ih h.2 d hd
      exact this _ hcl dd hm
    obtain ⟨as, hrd⟩ := Dp.reads I dd _ v (Rp.dp hd2 (PyData.hasDict_of_canLay _ hlay)) hw2
    have hrd' : Reads h' v dd as := PyProof.Rows.Reads.keeps hk hrd
    have ee : dd = g y ys := (Reads.unique hrd' _ _ hr).1
    rw [← ee] at q
    exact ⟨_, H, I.kept hk, hw2, q _ hd2⟩
  rcases h with ⟨h, _⟩ | ⟨h, _⟩
  · obtain ⟨its, rv, hl⟩ := Inv.heldL I h
    obtain ⟨as, hr⟩ := Dp.readsAll I _ _ its (Rps.dp ra (hasDictAll_lay _ hcl)) rv
    exact hL (I.ok.hd hc) hl (by simpa using hr) ha (by omega) (fun i v h' tk bs => fin its rv i v h' tk bs)
  · obtain ⟨its, rv, hl⟩ := Inv.heldT I h
    obtain ⟨as, hr⟩ := Dp.readsAll I _ _ its (Rps.dp ra (hasDictAll_lay _ hcl)) rv
    exact hT (I.ok.hd hc) hl (by simpa using hr) ha (by omega) (fun i v h' tk bs => fin its rv i v h' tk bs)
theorem asI2_some {x y d : D} {f : Int → Int → D} (h : (match asI x, asI y with | some a, some b => some (f a b) | _, _ => none) = some d) : ∃ a b, x = .int a ∧ y = .int b ∧ d = f a b := by
  split at h
  · rename_i a b ha hb
    cases h
    exact ⟨a, b, asI_some ha, asI_some hb, rfl⟩
  · cases h
theorem pr_max (hc : X.calm = true) (hu : X.A.units + 65 < cLine) : CallR X (.builtin "max") (RC (prim .max)) := by
  intro pins s σ H vs us Q I r ⟨F, ds, d, l, rs, e, q⟩
  simp only [prim] at e
  split at e
  · obtain ⟨v, rfl, rx⟩ := rs.one
    exact best_run PySem.W.maxD_ints hc hu (fun a b c d e f => PySem.W.max_list_data a b c d e f) (fun a b c d e f => PySem.W.max_tuple_data a b c d e f) I r rx e fun v rv => q v H (.refl _) rv
  · obtain ⟨v, w, rfl, rx, ry⟩ := rs.two
    obtain ⟨a, b, rfl, rfl, rfl⟩ := asI2_some e
    rw [rx.int, ry.int] at r
    exact call_max2 hc pins s σ H _ us Q I r ⟨a, b, rfl, q _ _ (.refl _) (.int _)⟩
  · cases e
theorem pr_min (hc : X.calm = true) (hu : X.A.units + 65 < cLine) : CallR X (.builtin "min") (RC (prim .min)) := by
  intro pins s σ H vs us Q I r ⟨F, ds, d, l, rs, e, q⟩
  simp only [prim] at e
  split at e
  · obtain ⟨v, rfl, rx⟩ := rs.one
    exact best_run PySem.W.minD_ints hc hu (fun a b c d e f => PySem.W.min_list_data a b c d e f) (fun a b c d e f => PySem.W.min_tuple_data a b c d e f) I r rx e fun v rv => q v H (.refl _) rv
  · obtain ⟨v, w, rfl, rx, ry⟩ := rs.two
    obtain ⟨a, b, rfl, rfl, rfl⟩ := asI2_some e
    rw [rx.int, ry.int] at r
    exact call_min2 hc pins s σ H _ us Q I r ⟨a, b, rfl, q _ _ (.refl _) (.int _)⟩
  · cases e
theorem asT_some {d : D} {b : Bool} (h : asT d = some b) : PySem.PyData.truthy d = b ∧ PyData.plain d = true ∧ PySem.PyData.fits63 d := by
  cases d <;> simp [asT] at h
  · subst h
    exact ⟨rfl, by simp [PyData.plain], trivial⟩
  · subst h
    exact ⟨rfl, by simp [PyData.plain], trivial⟩
theorem bools_some : ∀ {ds : List D} {bs : List Bool}, boolsD ds = some bs → ds.map PySem.PyData.truthy = bs ∧ PyData.plainAll ds = true ∧ ∀ x ∈ ds, PySem.PyData.fits63 x
  | [], bs, h => by
    cases h
    exact ⟨rfl, by simp [PyData.plainAll], fun x hx => by cases hx⟩
  | d :: ds, bs, h => by
    unfold boolsD at h
    split at h
    · rename_i b hb
      obtain ⟨ms, h1, rfl⟩ := Option.map_eq_some_iff.mp h
      obtain ⟨k1, k2, k3⟩ := bools_some h1
      obtain ⟨l1, l2, l3⟩ := asT_some hb
      refine ⟨by rw [List.map_cons, k1, l1], by simp only [PyData.plainAll, k2, l2, Bool.and_true], fun x hx => ?_⟩
      rcases List.mem_cons.mp hx with rfl | hx
      · exact l3
      · exact k3 x hx
    · cases h
theorem bools_noD : ∀ {ds : List D} {bs : List Bool}, boolsD ds = some bs → PyData.hasDictAll ds = false
  | [], bs, h => by simp only [PyData.hasDictAll]
  | d :: ds, bs, h => by
    unfold boolsD at h
    split at h
    · rename_i b hb
      obtain ⟨ms, h1, rfl⟩ := Option.map_eq_some_iff.mp h
      have h2 := bools_noD h1
      have h3 : d.hasDict = false := by
        cases d <;> simp [asT] at hb <;> simp only [PyData.hasDict]
      simp only [PyData.hasDictAll, h2, h3, Bool.or_self]
    · cases h
theorem pr_any (hc : X.calm = true) : CallR X (.builtin "any") (RC (prim .any)) := by
  intro pins s σ H vs us Q I r ⟨F, ds, d, l, rs, e, q⟩
  simp only [prim] at e
  obtain ⟨x, rfl, e⟩ := one_of e
  obtain ⟨v, rfl, rx⟩ := rs.one
  obtain ⟨ys, ns, hy, hn, rfl⟩ := ofBools_some e
  obtain ⟨a, xs, rfl, h, z, ra⟩ := rx.seq hy
  obtain ⟨k1, k2, k3⟩ := bools_some hn
  have q' := q _ _ (.refl _) (.bl (ns.any id))
  have e2 : ys.any PySem.PyData.truthy = ns.any id := by rw [← k1, List.any_map]; rfl
  rw [Vals.ref1 r]
  rcases h with ⟨h, _⟩ | ⟨h, _⟩
  · obtain ⟨its, rv, hl⟩ := Inv.heldL I h
    obtain ⟨as, hr⟩ := Dp.readsAll I _ _ its (Rps.dp ra (bools_noD hn)) rv
    exact PySem.W.any_list_data (I.ok.hd hc) hl (by simpa using hr) k2 k3 fun h' tk hk => ⟨.bl _, H, I.kept hk, congrArg Value.bool e2, q'⟩
  · obtain ⟨its, rv, hl⟩ := Inv.heldT I h
    obtain ⟨as, hr⟩ := Dp.readsAll I _ _ its (Rps.dp ra (bools_noD hn)) rv
    exact PySem.W.any_tuple_data (I.ok.hd hc) hl (by simpa using hr) k2 k3 fun h' tk hk => ⟨.bl _, H, I.kept hk, congrArg Value.bool e2, q'⟩
theorem pr_allOf (hc : X.calm = true) : CallR X (.builtin "all") (RC (prim .all)) := by
  intro pins s σ H vs us Q I r ⟨F, ds, d, l, rs, e, q⟩
  simp only [prim] at e
  obtain ⟨x, rfl, e⟩ := one_of e
  obtain ⟨v, rfl, rx⟩ := rs.one
  obtain ⟨ys, ns, hy, hn, rfl⟩ := ofBools_some e
  obtain ⟨a, xs, rfl, h, z, ra⟩ := rx.seq hy
  obtain ⟨k1, k2, k3⟩ := bools_some hn
  have q' := q _ _ (.refl _) (.bl (ns.all id))
  have e2 : ys.all PySem.PyData.truthy = ns.all id := by rw [← k1, List.all_map]; rfl
  rw [Vals.ref1 r]
  rcases h with ⟨h, _⟩ | ⟨h, _⟩
  · obtain ⟨its, rv, hl⟩ := Inv.heldL I h
    obtain ⟨as, hr⟩ := Dp.readsAll I _ _ its (Rps.dp ra (bools_noD hn)) rv
    exact PySem.W.all_list_data (I.ok.hd hc) hl (by simpa using hr) k2 k3 fun h' tk hk => ⟨.bl _, H, I.kept hk, congrArg Value.bool e2, q'⟩
  · obtain ⟨its, rv, hl⟩ := Inv.heldT I h
    obtain ⟨as, hr⟩ := Dp.readsAll I _ _ its (Rps.dp ra (bools_noD hn)) rv
    exact PySem.W.all_tuple_data (I.ok.hd hc) hl (by simpa using hr) k2 k3 fun h' tk hk => ⟨.bl _, H, I.kept hk, congrArg Value.bool e2, q'⟩
theorem RpB.strict {F : Addr → Prop} {H : Hp} {v : V} {ds : List D} (h : RpB F H v (.tuple ds)) : Rp F H v (.tuple ds) := by
  obtain ⟨a, xs, rfl, n, h1, z, r⟩ := h.tup
  exact .tup n h1 z r
theorem pr_tuple : CallR X (.type "tuple") (RC (prim .tuple)) := by
  intro pins s σ H vs us Q I r ⟨F, ds, d, l, rs, e, q⟩
  simp only [prim] at e
  obtain ⟨x, rfl, e⟩ := one_of e
  obtain ⟨v, rfl, rx⟩ := rs.one
  obtain ⟨ys, hy, rfl⟩ := Option.map_eq_some_iff.mp e
  obtain ⟨a, xs, rfl, h, z, ra⟩ := rx.seq hy
  rcases h with ⟨h, _⟩ | ⟨h, rfl⟩
  · exact call_tuple_of pins s σ H _ us Q I r ⟨a, xs, rfl, .inl ⟨SqL.of h, fun p hp => q _ _ (.new hp) (.newT l hp z ra)⟩⟩
  · exact call_tuple_of pins s σ H _ us Q I r ⟨a, xs, rfl, .inr ⟨SqT.of h, q _ _ (.refl _) rx.strict⟩⟩
theorem pr_list : CallR X (.type "list") (RC (prim .list)) := by
  intro pins s σ H vs us Q I r ⟨F, ds, d, l, rs, e, q⟩
  simp only [prim] at e
  obtain ⟨x, rfl, e⟩ := one_of e
  obtain ⟨v, rfl, rx⟩ := rs.one
  obtain ⟨ys, hy, rfl⟩ := Option.map_eq_some_iff.mp e
  obtain ⟨a, xs, rfl, h, z, ra⟩ := rx.seq hy
  exact call_list_of pins s σ H _ us Q I r ⟨a, xs, rfl, h.elim (fun h => .inl (SqL.of h.1)) (fun h => .inr (SqT.of h.1)), fun p hp => q _ _ (.new hp) (.newL l hp z ra)⟩
theorem pr_int : CallR X (.type "int") (RC (prim .int)) := by
  intro pins s σ H vs us Q I r ⟨F, ds, d, l, rs, e, q⟩
  simp only [prim] at e
  split at e
  · cases e
    obtain ⟨v, rfl, rx⟩ := rs.one
    rw [rx.int] at r
    exact call_int1 pins s σ H _ us Q I r (.inl ⟨_, rfl, q _ _ (.refl _) (.int _)⟩)
  · cases e
    obtain ⟨v, rfl, rx⟩ := rs.one
    rw [rx.bool] at r
    exact call_int1 pins s σ H _ us Q I r (.inr ⟨_, rfl, q _ _ (.refl _) (.int _)⟩)
  · cases e
theorem pr_abs : CallR X (.builtin "abs") (RC (prim .abs)) := by
  intro pins s σ H vs us Q I r ⟨F, ds, d, l, rs, e, q⟩
  simp only [prim] at e
  split at e
  · cases e
    obtain ⟨v, rfl, rx⟩ := rs.one
    rw [rx.int] at r
    exact call_abs pins s σ H _ us Q I r ⟨_, rfl, q _ _ (.refl _) (.int _)⟩
  · cases e
end
end BA

/-! BA4: defs' promises where no repr runs around -/
namespace BA
open PySem PySem.Spec
open PyProof.Rows
open L2 hiding St

structure GRoom (k : Nat) (A : Around) : Prop where
  room : Room k A
  gs : A.guards = some []
theorem GRoom.mono {j k : Nat} {A : Around} (r : GRoom k A) (h : j ≤ k) : GRoom j A := ⟨r.room.mono h, r.gs⟩
theorem GRoom.deeper {k : Nat} {A : Around} (r : GRoom (k + 1) A) (env : PySem.Env) : GRoom k (A.deeper env) := ⟨r.room.deeper env, r.gs⟩

/-- the def at f keeps the promise sp, called where no repr runs around -/
structure FnG (P : Program) (w : World) (K : PySem.W.Frag) (mg : Str → Option Value) (base : Heap) (CX : CXT) (k : Nat) (f : Addr) (fd : FuncData) (ps : List Str) (sp : Sp) : Prop where
  len : ∀ vs H Q X, sp vs H Q X → vs.length = ps.length
  run : ∀ (A : Around) (out : List PySem.Env) (s : Shared) (H : Hp) (args : Args) (us : List Value) (vs : List V) (Q : VK) (X : XK), GRoom k A → Env0 P w K mg base A out s H → BindsTo s fd args (ps.zip us) → Vals vs us → sp vs H Q X →
    codeAny (model P w) A (.call (.ref f) args) (CR CX out P w H s Q X) s
theorem FnG.mono {P : Program} {w : World} {K : PySem.W.Frag} {mg : Str → Option Value} {base : Heap} {CX : CXT} {j k : Nat} {f : Addr} {fd : FuncData} {ps : List Str} {sp : Sp} (F : FnG P w K mg base CX j f fd ps sp) (h : j ≤ k) : FnG P w K mg base CX k f fd ps sp :=
  ⟨F.len, fun A out s H args us vs Q X hr => F.run A out s H args us vs Q X (hr.mono h)⟩

section
variable {X : Cx} {CX : CXT} {k : Nat} {f : Addr} {fd : FuncData} {ps : List Str} {sp : Sp} {E : XK} {x : Str} {p pos : Pos} {e : Expr} {es : List Expr} {t : TA}
theorem run_fnG {pins : List (Addr × Obj)} {σ : L2.St} {H : Hp} {s : Shared} {Q : VK} {us : List Value} {vs : List V} (F : FnG X.prog X.w X.K X.mg X.base CX k f fd ps sp) (hr : GRoom k X.A) (hb : Binds X.K fd ps []) (hx : Passes CX X E)
    (I : Inv X pins σ H s) (r : Vals vs us) (h : sp vs H Q E) : wpAny (model X.prog X.w) X.A (call (.ref f) us) (EP X pins σ Q) X.xe s := by
  have hl : (us ++ []).length = ps.length := by
    rw [List.append_nil, ← r.length]
    exact F.len _ _ _ _ h
  have hb' := hb s us I.kIn hl
  rw [List.append_nil] at hb'
  refine wpAny_call (codeAny_mono (F.run X.A X.stack s H ⟨us, []⟩ us vs Q E hr I.env0 hb' r h) fun r s' hq => ?_)
  cases r with
  | error e => exact hx pins σ H s e s' I hq
  | ok fl =>
    cases fl with
    | ret u => exact I.after hq
    | next => exact False.elim hq
    | brk => exact False.elim hq
    | cont => exact False.elim hq
theorem pe_callG (F : FnG X.prog X.w X.K X.mg X.base CX k f fd ps sp) (hr : GRoom k X.A) (hg : Gl X x) (hm : X.mg x = some (.ref f)) (hk : PySem.W.keepIn X.K (.ref f) = true) (hb : Binds X.K fd ps []) (hx : Passes CX X E)
    (ha : PA X (e :: es) t) (hdb : (x == ("__debug__" : Str)) = false) (he : starEach (e :: es) X.env = (false, eval e X.env) :: starEach es X.env) (hpl : (backTo pos (starEach es X.env)).any (·.1) = false) :
    PE X (.Call (.Name x p) (e :: es) [] pos) (tCall sp [] E t) := by
  refine ⟨fun pins s σ H Q I h => ?_⟩
  refine wpAny_Call_Name_kw (ld_glob I hg hm ?_ hdb)
  refine PySem.W.callWith_K (h₀ := X.base) I.ok.mod.kin hk (thn (ha.run pos pins s σ H _ I h) fun us s1 ⟨vs, H1, I1, r, q⟩ => ⟨I1.kIn, ?_⟩) he hpl
  have q2 : sp (vs ++ []) H1 Q E := q
  rw [List.append_nil] at q2
  exact run_fnG F hr hb hx I1 r q2
theorem pe_callG0 (F : FnG X.prog X.w X.K X.mg X.base CX k f fd ps sp) (hr : GRoom k X.A) (hg : Gl X x) (hm : X.mg x = some (.ref f)) (hk : PySem.W.keepIn X.K (.ref f) = true) (hb : Binds X.K fd ps []) (hx : Passes CX X E)
    (hdb : (x == ("__debug__" : Str)) = false) : PE X (.Call (.Name x p) [] [] pos) (tCall sp [] E tNil) := by
  refine ⟨fun pins s σ H Q I h => ?_⟩
  refine wpAny_Call_Name_kw (ld_glob I hg hm ?_ hdb)
  exact PySem.W.callWith_K0 I.kIn hk (run_fnG (us := []) F hr hb hx I .nil h)
end

/-- a def of the text by its body -/
theorem fn_ofG {CX : CXT} {P : Program} {w : World} {K : PySem.W.Frag} {mg : Str → Option Value} {base : Heap} {k : Nat} {f : Addr} {name qual : Str} {params : Arguments} {body : List Stmt} {scope : Scope} {dV kV doc pm cdv ct oc : Value} {an od : Option Addr}
    {osl : Array (Option Value)} {N ps : List Str} {sp : Sp} (lk : K.lookup f = some ⟨oc, od, .func (PySem.W.fnOf name qual params body scope dV kV doc pm an cdv ct), osl⟩) (hcd : PySem.W.codeIn K cdv qual = true) (S : FnScope N ps scope)
    (len : ∀ vs H Q X, sp vs H Q X → vs.length = ps.length)
    (hbody : ∀ (A : Around) (out : List PySem.Env) (s : Shared) (H : Hp) (vs : List V) (Q : VK) (X : XK), GRoom k (A.deeper (envOfC qual scope s.heap.objs.size f cdv)) → sp vs H Q X →
      ∃ t, PSs (cxOf CX P w K mg base N qual scope f cdv A out s H X) body t ∧ t { nx := fun _ H' => Q .non H', rt := Q } (start N vs) H) :
    FnG P w K mg base CX (k + 1) f (PySem.W.fnOf name qual params body scope dV kV doc pm an cdv ct) ps sp := by
  refine ⟨len, fun A out s H args us vs Q X hr e0 hb r hsp => ?_⟩
  have hl := len _ _ _ _ hsp
  have KX : K.In s.heap := e0.mod.kin.keeps fun b o e => (e0.bs b o e).1
  have lim : s.heap.NoLimit := e0.mod.nolimit.keeps fun b o e => (e0.bs b o e).1
  refine codeAny_call_function hr.room.depth (KX _ _ lk) rfl S.co S.gen rfl (PySem.W.codeRec_of KX hcd) (hb _ _ _ _ ?_)
  refine wpAny_newFunctionEnv_cells S.kind (fun ⟨n, v⟩ hy => ?_) fun env he s1 x => ?_
  · rcases S.par n (List.of_mem_zip hy).1 with q | q
    · exact .inl q
    · exact .inr ⟨q, PySem.W.cellsFrom_some _ _ _ (.inl q)⟩
  · subst he
    refine ⟨lim.keeps x.toInCall.keep, codeAny_func ?_⟩
    obtain ⟨t, ht, hq⟩ := hbody A out s H vs Q X (hr.deeper _) hsp
    have I : Inv (cxOf CX P w K mg base N qual scope f cdv A out s H X) [] (start N vs) H s1 := inv_start S hr.room.hd e0 hl r x
    refine wpAny_mono (ht.run [] s1 (start N vs) H _ I hq) (fun fl s' hs => ?_) fun e s' hs => hs
    cases fl with
    | ret u =>
      obtain ⟨v, σ', H', J, rv, q⟩ := hs
      exact ⟨v, H', J.os, J.bare, J.base, J.hok, rv, q⟩
    | next =>
      obtain ⟨σ', H', J, q⟩ := hs
      exact ⟨V.non, H', J.os, J.bare, J.base, J.hok, (rfl : RelV V.non Value.none), q⟩
    | brk =>
      obtain ⟨_, _, _, q⟩ := hs
      exact False.elim q
    | cont =>
      obtain ⟨_, _, _, q⟩ := hs
      exact False.elim q

/-! ### what is known of a run -/
/-- what a slot holds: data, an own list, a def, the source -/
inductive Kd where
  | dat | own | fn | src | cel | scr
  deriving DecidableEq, Repr

/-- the written part of a law's text: its defs by number -/
structure Gx where
  P : Program
  w : World
  K : PySem.W.Frag
  mg : Str → Option Value
  base : Heap
  N : List Str
  C : Calls
  k : Nat
  fa : Nat → Option Addr
  T : List (Addr × Str) := []

/-- a list or a dictionary -/
def cont : D → Bool
  | .list _ => true
  | .dict _ => true
  | _ => false
/-- what a def's slot stands for -/
def FnV (G : Gx) (v : V) (d : D) : Prop := ∃ (i : Nat) (f : Addr), d = .int i ∧ G.fa i = some f ∧ v = .ref f
/-- the script: a list of whole numbers that nobody writes -/
def ScrV (K : PySem.W.Frag) (S : SA) (H : Hp) (v : V) (d : D) : Prop := ∃ (a : Addr) (ns : List Int), v = .ref a ∧ d = .list (ns.map PyData.int) ∧ ns.length ≤ sizeLine ∧ ((∀ H' : Hp, SqL K H' a (ns.map V.int)) ∨ ∃ o, H a = some (.frz o (.lst (ns.map V.int))))
def Slot (G : Gx) (W : Nat → Kd) (F : Addr → Prop) (S : SA) (H : Hp) (i : Nat) (v : V) (d : D) : Prop := match W i with
  | .dat => Rp F H v d
  | .own => (∃ a, v = .ref a ∧ F a ∧ ¬ inS S a ∧ Own F H a d) ∨ (cont d = false ∧ Rp F H v d)
  | .fn => FnV G v d
  | .src => ∃ p q, v = .ref p ∧ S.src = some (p, q) ∧ d = .none
  | .cel => ∃ p q, v = .ref q ∧ S.src = some (p, q) ∧ d = .none
  | .scr => ScrV G.K S H v d
structure Ok (G : Gx) (W : Nat → Kd) (F : Addr → Prop) (S : SA) (σ : L2.St) (H : Hp) (ρ : Rho) (s : Src) : Prop where
  live : Live F H
  sub : ∀ a, inS S a → F a
  src : SrcOk S H s
  slot : ∀ i d, getV ρ i = some d → ∃ v, σ[i]? = some (some v) ∧ Slot G W F S H i v d
  len : ρ.length = σ.length ∧ ∀ x ∈ G.T, x ∈ S.tab

theorem ScrV.pres {K : PySem.W.Frag} {S : SA} {H H' : Hp} {v : V} {d : D} (h : ScrV K S H v d) (g : ∀ a o u, H a = some (.frz o u) → H' a = some (.frz o u)) : ScrV K S H' v d := by
  obtain ⟨a, ns, e1, e2, z, h⟩ := h
  refine ⟨a, ns, e1, e2, z, h.imp (fun h => h) fun ⟨o, h⟩ => ⟨o, g _ _ _ h⟩⟩
theorem Slot.pres {G : Gx} {W : Nat → Kd} {F : Addr → Prop} {S : SA} {H H' : Hp} {i : Nat} {v : V} {d : D} (h : Slot G W F S H i v d) (g : Pres (inS S) H H') (sub : ∀ a, inS S a → F a) (nf : ∀ a o u, inS S a → H a ≠ some (.frz o u)) : Slot G W F S H' i v d := by
  unfold Slot at *
  cases e : W i with
  | dat =>
    rw [e] at h
    exact Rp.pres (g.mono sub) h
  | own =>
    rw [e] at h
    rcases h with ⟨a, rfl, f, n, o⟩ | ⟨c, r⟩
    · refine .inl ⟨a, rfl, f, n, o.pres (g.mono sub) ?_⟩
      obtain ⟨o1, h1⟩ := o.some
      rw [h1]
      exact g _ _ n h1
    · exact .inr ⟨c, Rp.pres (g.mono sub) r⟩
  | fn =>
    rw [e] at h
    exact h
  | src =>
    rw [e] at h
    exact h
  | cel =>
    rw [e] at h
    exact h
  | scr =>
    rw [e] at h
    exact ScrV.pres h fun a o u q => g _ _ (fun z => nf a o u z q) q
theorem src_nf {S : SA} {H : Hp} {s : Src} (h : SrcOk S H s) : ∀ a o u, inS S a → H a ≠ some (.frz o u) := by
  intro a o u ha q
  rcases ha with ha | ⟨x, ha⟩
  · have h := h.p
    obtain ⟨S, T⟩ := S
    cases S with
    | none => exact ha.elim
    | some pq =>
      obtain ⟨p, r⟩ := pq
      obtain ⟨_, h1, h2⟩ := h
      rcases ha with rfl | rfl
      · rw [h1] at q; cases q
      · rw [h2] at q; cases q
  · obtain ⟨ps, h1, _⟩ := h.t _ ha
    rw [h1] at q
    cases q
theorem inS_mut {S : SA} {H : Hp} {s : Src} (h : SrcOk S H s) : ∀ a, inS S a → mutO (H a) := by
  intro a ha
  rcases ha with ha | ⟨x, ha⟩
  · have h := h.p
    obtain ⟨S, T⟩ := S
    cases S with
    | none => exact ha.elim
    | some pq =>
      obtain ⟨p, q⟩ := pq
      obtain ⟨_, h1, h2⟩ := h
      rcases ha with rfl | rfl
      · rw [h1]; trivial
      · rw [h2]; trivial
  · obtain ⟨ps, h1, _⟩ := h.t _ ha
    have h1 : H a = some (.tbl ps) := h1
    rw [h1]; trivial
theorem inS_live {S : SA} {H : Hp} {s : Src} (h : SrcOk S H s) : ∀ a, inS S a → H a ≠ none := fun a ha => (inS_mut h a ha).ne
theorem Ok.step {G : Gx} {W : Nat → Kd} {F : Addr → Prop} {S : SA} {σ : L2.St} {H H' : Hp} {ρ : Rho} {s s' : Src} (h : Ok G W F S σ H ρ s) (g : Pres (inS S) H H') (hs : SrcOk S H' s') : Ok G W F S σ H' ρ s' := by
  refine ⟨fun a f => ?_, h.sub, hs, fun i d e => ?_, h.len⟩
  · by_cases n : inS S a
    · exact inS_mut hs a n
    · cases q : H a with
      | none => exact (h.live.ne f q).elim
      | some o =>
        rw [g a o n q, ← q]
        exact h.live a f
  · obtain ⟨v, h1, h2⟩ := h.slot i d e
    exact ⟨v, h1, h2.pres g h.sub (src_nf h.src)⟩
theorem Ok.grow {G : Gx} {W : Nat → Kd} {F : Addr → Prop} {S : SA} {σ : L2.St} {H H' : Hp} {ρ : Rho} {s : Src} (h : Ok G W F S σ H ρ s) (g : Grow H H') : Ok G W F S σ H' ρ s := h.step g.pres (h.src.grow g)

/-! ### readings -/
/-- a value that may be an own container, none of the source's -/
def RpS (S : SA) (F : Addr → Prop) (H : Hp) (v : V) (d : D) : Prop := Rp F H v d ∨ ∃ a, v = .ref a ∧ ¬ inS S a ∧ Own F H a d
inductive RpSs (S : SA) (F : Addr → Prop) (H : Hp) : List V → List D → Prop
  | nil : RpSs S F H [] []
  | cons {v : V} {vs : List V} {d : D} {ds : List D} : RpS S F H v d → RpSs S F H vs ds → RpSs S F H (v :: vs) (d :: ds)
theorem RpS.b {S : SA} {F : Addr → Prop} {H : Hp} {v : V} {d : D} (h : RpS S F H v d) : RpB F H v d := by
  rcases h with h | ⟨a, e, _, o⟩
  · exact .inl h
  · exact .inr ⟨a, e, o⟩
theorem RpSs.b {S : SA} {F : Addr → Prop} {H : Hp} : ∀ {v : List V} {d : List D}, RpSs S F H v d → RpBs F H v d
  | _, _, .nil => .nil
  | _, _, .cons r t => .cons r.b (RpSs.b t)
theorem RpS.pres {S : SA} {F : Addr → Prop} {H H' : Hp} {v : V} {d : D} (h : RpS S F H v d) (g : Pres (inS S) H H') (sub : ∀ a, inS S a → F a) : RpS S F H' v d := by
  rcases h with h | ⟨a, e, n, o⟩
  · exact .inl (h.pres (g.mono sub))
  · refine .inr ⟨a, e, n, o.pres (g.mono sub) ?_⟩
    obtain ⟨o1, h1⟩ := o.some
    rw [h1]
    exact g _ _ n h1
theorem RpSs.pres {S : SA} {F : Addr → Prop} {H H' : Hp} (g : Pres (inS S) H H') (sub : ∀ a, inS S a → F a) : ∀ {v : List V} {d : List D}, RpSs S F H v d → RpSs S F H' v d
  | _, _, .nil => .nil
  | _, _, .cons r t => .cons (r.pres g sub) (RpSs.pres g sub t)
/-- behind an expression's run -/
def Aft (F : Addr → Prop) (S : SA) (H : Hp) (R : V → Hp → D → Src → Prop) (d : D) (s' : Src) : Prop := ∀ v H', Pres (inS S) H H' → SrcOk S H' s' → Rp F H' v d → R v H' d s'
def tE (G : Gx) (W : Nat → Kd) (m : E) : TE := fun σ H Q => ∃ F S ρ s, Ok G W F S σ H ρ s ∧ post (m G.C ρ) (fun d s' => ∀ v H', Pres (inS S) H H' → SrcOk S H' s' → Rp F H' v d → Q v H') s
/-- the same where an own container may be handed on as it is -/
def tB (G : Gx) (W : Nat → Kd) (m : E) : TE := fun σ H Q => ∃ F S ρ s, Ok G W F S σ H ρ s ∧ post (m G.C ρ) (fun d s' => ∀ v H', Pres (inS S) H H' → SrcOk S H' s' → RpS S F H' v d → Q v H') s
def tEs (G : Gx) (W : Nat → Kd) (m : Es) : TA := fun σ H Q => ∃ F S ρ s, Ok G W F S σ H ρ s ∧ post (m G.C ρ) (fun ds s' => ∀ vs H', Pres (inS S) H H' → SrcOk S H' s' → Rps F H' vs ds → Q vs H') s
def tBs (G : Gx) (W : Nat → Kd) (m : Es) : TA := fun σ H Q => ∃ F S ρ s, Ok G W F S σ H ρ s ∧ post (m G.C ρ) (fun ds s' => ∀ vs H', Pres (inS S) H H' → SrcOk S H' s' → RpSs S F H' vs ds → Q vs H') s
def tT (G : Gx) (W : Nat → Kd) (m : E) : TT := fun σ H Q => ∃ F S ρ s, Ok G W F S σ H ρ s ∧ post (bnd (m G.C ρ) fun d => opt (asB d)) (fun b s' => ∀ H', Pres (inS S) H H' → SrcOk S H' s' → Q b H') s

theorem _root_.L2.PE.weak {X : Cx} {e : Expr} {t t' : TE} (h : PE X e t) (k : ∀ σ H Q, t' σ H Q → t σ H Q) : PE X e t' := ⟨fun pins s σ H Q I q => h.run pins s σ H Q I (k σ H Q q)⟩
theorem _root_.L2.PT.weak {X : Cx} {e : Expr} {t t' : TT} (h : PT X e t) (k : ∀ σ H Q, t' σ H Q → t σ H Q) : PT X e t' := ⟨fun pins s σ H Q I q => h.run pins s σ H Q I (k σ H Q q)⟩
theorem _root_.L2.PW.weak {X : Cx} {e : Expr} {t t' : TT} (h : PW X e t) (k : ∀ σ H Q, t' σ H Q → t σ H Q) : PW X e t' := ⟨fun wh pins s σ H Q I q => h.run wh pins s σ H Q I (k σ H Q q)⟩
theorem _root_.L2.PA.weak {X : Cx} {e : List Expr} {t t' : TA} (h : PA X e t) (k : ∀ σ H Q, t' σ H Q → t σ H Q) : PA X e t' := ⟨fun pos pins s σ H Q I q => h.run pos pins s σ H Q I (k σ H Q q)⟩
theorem tE.tB {G : Gx} {W : Nat → Kd} {m : E} {σ : L2.St} {H : Hp} {Q : VK} (h : tB G W m σ H Q) : tE G W m σ H Q := by
  obtain ⟨F, S, ρ, s, ok, p⟩ := h
  exact ⟨F, S, ρ, s, ok, post_mono p fun d s' k v H' a b r => k v H' a b (.inl r)⟩

section
variable {G : Gx} {W : Nat → Kd} {F : Addr → Prop} {S : SA} {σ : L2.St} {H : Hp} {ρ : Rho} {s : Src} {X : Cx}
/-- one part, then the rest -/
theorem tE.go {m : E} {f : D → M β} {P : β → Src → Prop} {Q : VK} (ok : Ok G W F S σ H ρ s) (h : post (bnd (m G.C ρ) f) P s)
    (k : ∀ d s' v H', Pres (inS S) H H' → Ok G W F S σ H' ρ s' → Rp F H' v d → post (f d) P s' → Q v H') : tE G W m σ H Q := by
  rw [post_bnd] at h
  exact ⟨F, S, ρ, s, ok, post_mono h fun d s' p v H' g hs r => k d s' v H' g (ok.step g hs) r p⟩
theorem tB.go {m : E} {f : D → M β} {P : β → Src → Prop} {Q : VK} (ok : Ok G W F S σ H ρ s) (h : post (bnd (m G.C ρ) f) P s)
    (k : ∀ d s' v H', Pres (inS S) H H' → Ok G W F S σ H' ρ s' → RpS S F H' v d → post (f d) P s' → Q v H') : tB G W m σ H Q := by
  rw [post_bnd] at h
  exact ⟨F, S, ρ, s, ok, post_mono h fun d s' p v H' g hs r => k d s' v H' g (ok.step g hs) r p⟩
theorem tEs.go {m : Es} {f : List D → M β} {P : β → Src → Prop} {Q : List V → Hp → Prop} (ok : Ok G W F S σ H ρ s) (h : post (bnd (m G.C ρ) f) P s)
    (k : ∀ d s' v H', Pres (inS S) H H' → Ok G W F S σ H' ρ s' → Rps F H' v d → post (f d) P s' → Q v H') : tEs G W m σ H Q := by
  rw [post_bnd] at h
  exact ⟨F, S, ρ, s, ok, post_mono h fun d s' p v H' g hs r => k d s' v H' g (ok.step g hs) r p⟩
theorem tBs.go {m : Es} {f : List D → M β} {P : β → Src → Prop} {Q : List V → Hp → Prop} (ok : Ok G W F S σ H ρ s) (h : post (bnd (m G.C ρ) f) P s)
    (k : ∀ d s' v H', Pres (inS S) H H' → Ok G W F S σ H' ρ s' → RpSs S F H' v d → post (f d) P s' → Q v H') : tBs G W m σ H Q := by
  rw [post_bnd] at h
  exact ⟨F, S, ρ, s, ok, post_mono h fun d s' p v H' g hs r => k d s' v H' g (ok.step g hs) r p⟩

/-! ### the expressions -/
theorem se_int {i j pos} : PE X (.Constant (.int i) j pos) (tE G W (xCon (.int i))) := pe_int.weak fun σ H Q ⟨F, S, ρ, s, ok, p⟩ => p _ _ (.refl _) ok.src (.int _)
theorem se_bl {i j pos} : PE X (.Constant (.bool i) j pos) (tE G W (xCon (.bool i))) := pe_bl.weak fun σ H Q ⟨F, S, ρ, s, ok, p⟩ => p _ _ (.refl _) ok.src (.bl _)
theorem se_str {i j pos} : PE X (.Constant (.str i) j pos) (tE G W (xCon (.str i))) := pe_str.weak fun σ H Q ⟨F, S, ρ, s, ok, p⟩ => p _ _ (.refl _) ok.src (.str _)
theorem se_non {j pos} : PE X (.Constant .none j pos) (tE G W (xCon .none)) := pe_non.weak fun σ H Q ⟨F, S, ρ, s, ok, p⟩ => p _ _ (.refl _) ok.src .non
theorem se_var {i : Nat} {x : Str} {pos : Pos} (hN : X.N[i]? = some x) (hv : Vis X.env.scope x) (hd : (x == ("__debug__" : Str)) = false) (hcd : (x == ("__classdict__" : Str)) = false) (hk : W i = .dat) : PE X (.Name x pos) (tE G W (xVar i)) :=
  (pe_var hN hv hd hcd).weak fun σ H Q ⟨F, S, ρ, s, ok, p⟩ => by
    obtain ⟨d, e, p⟩ := post_opt.mp p
    obtain ⟨v, h1, h2⟩ := ok.slot i d e
    unfold Slot at h2
    rw [hk] at h2
    exact ⟨v, h1, p v H (.refl _) ok.src h2⟩
theorem sb_own {i : Nat} {x : Str} {pos : Pos} (hN : X.N[i]? = some x) (hv : Vis X.env.scope x) (hd : (x == ("__debug__" : Str)) = false) (hcd : (x == ("__classdict__" : Str)) = false) (hk : W i = .own) : PE X (.Name x pos) (tB G W (xVar i)) :=
  (pe_var hN hv hd hcd).weak fun σ H Q ⟨F, S, ρ, s, ok, p⟩ => by
    obtain ⟨d, e, p⟩ := post_opt.mp p
    obtain ⟨v, h1, h2⟩ := ok.slot i d e
    unfold Slot at h2
    rw [hk] at h2
    rcases h2 with ⟨a, rfl, _, n, o⟩ | ⟨_, r⟩
    · exact ⟨_, h1, p _ H (.refl _) ok.src (.inr ⟨a, rfl, n, o⟩)⟩
    · exact ⟨_, h1, p _ H (.refl _) ok.src (.inl r)⟩
/-- an own slot that holds no container: what it holds, as data -/
def xVarD (i : Nat) : E := fun _ ρ => bnd (opt (getV ρ i)) fun d => if cont d then bad else pur d
theorem se_varD {i : Nat} {x : Str} {pos : Pos} (hN : X.N[i]? = some x) (hv : Vis X.env.scope x) (hd : (x == ("__debug__" : Str)) = false) (hcd : (x == ("__classdict__" : Str)) = false) (hk : W i = .own) : PE X (.Name x pos) (tE G W (xVarD i)) :=
  (pe_var hN hv hd hcd).weak fun σ H Q ⟨F, S, ρ, s, ok, p⟩ => by
    unfold xVarD at p
    rw [post_bnd] at p
    obtain ⟨d, e, p⟩ := post_opt.mp p
    split at p
    · exact p.elim
    · rename_i c
      obtain ⟨v, h1, h2⟩ := ok.slot i d e
      unfold Slot at h2
      rw [hk] at h2
      rcases h2 with ⟨a, rfl, _, n, o⟩ | ⟨_, r⟩
      · rcases o.is with ⟨_, rfl⟩ | ⟨_, rfl⟩ <;> exact (c rfl).elim
      · exact ⟨_, h1, p _ H (.refl _) ok.src r⟩
theorem sb_of {e : Expr} {m : E} (h : PE X e (tE G W m)) : PE X e (tB G W m) := h.weak fun _ _ _ q => tE.tB q
variable {a b c : Expr} {ma mb mc : E} {pos : Pos}
theorem se_op {o : Operator} (ho : opKnown o = true) (ha : PE X a (tB G W ma)) (hb : PE X b (tB G W mb)) : PE X (.BinOp a o b pos) (tE G W (xOp o ma mb)) :=
  (pe_op (opr_all o ho) ha hb).weak fun σ H Q ⟨F, S, ρ, s, ok, p⟩ => tB.go ok p fun d s1 v H1 g1 ok1 r1 p1 => tB.go ok1 p1 fun d2 s2 v2 H2 g2 ok2 r2 p2 => by
    obtain ⟨d, e, q⟩ := post_opt.mp p2
    exact ⟨F, _, _, d, ok2.live, (r1.pres g2 ok.sub).b, r2.b, e, fun w H3 g3 rw => q w H3 ((g1.trans g2).trans g3.pres) (ok2.src.grow g3) rw⟩
end
end BA

/-! BA5: each combinator against its rule: expressions -/
namespace BA
open PySem PySem.Spec
open PyProof.Rows
open L2 hiding St
theorem allInt_map : ∀ {ys : List D}, allInt ys = true → ∃ ns : List Int, ys = ns.map PyData.int
  | [], _ => ⟨[], rfl⟩
  | .int n :: r, h => by
    obtain ⟨ns, e⟩ := allInt_map (ys := r) h
    exact ⟨n :: ns, by rw [e]; rfl⟩
  | .none :: _, h | .bool _ :: _, h | .str _ :: _, h | .list _ :: _, h | .tuple _ :: _, h | .dict _ :: _, h => by cases h
theorem depthInts : ∀ ns : List Int, PyData.depthAll (ns.map PyData.int) ≤ 1
  | [] => by simp [PyData.depthAll]
  | n :: r => by
    have := depthInts r
    simp only [List.map_cons, PyData.depthAll, PyData.depth]
    omega
theorem hasInt_any (a : Int) : ∀ ns : List Int, hasInt a (ns.map PyData.int) = (ns.map PyData.int).any fun z => PyData.eqv z (.int a)
  | [] => rfl
  | n :: r => by
    have ih := hasInt_any a r
    simp only [List.map_cons, hasInt, List.any_cons, eqv_int]
    by_cases h : n = a
    · rw [decide_eq_true h]; rfl
    · rw [decide_eq_false h, if_neg Bool.false_ne_true, ih, Bool.false_or]
theorem shapedInts (ns : List Int) : SeqAt.shaped (.list (ns.map PyData.int)) = true ∧ SeqAt.shaped (.tuple (ns.map PyData.int)) = true := by
  have h1 := layInts ns
  have h2 := depthInts ns
  unfold SeqAt.shaped
  simp only [PyData.canLay0, h1, Bool.true_and, decide_eq_true_eq, PyData.depth]
  exact ⟨decide_eq_true (by omega), decide_eq_true (by omega)⟩
theorem inF_D {x y : D} {b : Bool} (h : inF x y = some b) : inD x y = some b := by
  unfold inF at h
  split at h
  · rename_i a ys
    split at h
    · rename_i k
      obtain ⟨ns, rfl⟩ := allInt_map k
      unfold inD
      simp only [shaped_int, (shapedInts ns).1, Bool.and_self, if_true]
      rw [← hasInt_any]
      exact h
    · exact h
  · rename_i a ys
    split at h
    · rename_i k
      obtain ⟨ns, rfl⟩ := allInt_map k
      unfold inD
      simp only [shaped_int, (shapedInts ns).2, Bool.and_self, if_true]
      rw [← hasInt_any]
      exact h
    · exact h
  · exact h
theorem cmpF_D {o : CmpOp} {x y : D} {b : Bool} (h : cmpF o x y = some b) : cmpD o x y = some b := by
  cases o with
  | In => exact inF_D h
  | NotIn =>
    obtain ⟨c, e, rfl⟩ := Option.map_eq_some_iff.mp (show (inF x y).map (! ·) = some b from h)
    show (inD x y).map (! ·) = _
    rw [inF_D e]
    rfl
  | _ => exact h
section
variable {G : Gx} {W : Nat → Kd} {X : Cx} {a b c : Expr} {ma mb mc : E} {pos : Pos}
theorem RpS.st {S : SA} {F : Addr → Prop} {H : Hp} {v : V} {d : D} (h : Rp F H v d) : RpS S F H v d := .inl h

theorem se_neg (ha : PE X a (tB G W ma)) : PE X (.UnaryOp .USub a pos) (tE G W (xNeg ma)) :=
  (pe_un un_neg ha).weak fun σ H Q ⟨F, S, ρ, s, ok, p⟩ => tB.go ok p fun d s1 v H1 g1 ok1 r1 p1 => by
    rw [post_bnd] at p1
    obtain ⟨i, e, q⟩ := post_opt.mp p1
    cases asI_some e
    rw [r1.b.int]
    exact ⟨i, rfl, q _ _ g1 ok1.src (.int _)⟩
theorem se_cmp {o : CmpOp} (hu : X.A.units + 65 < cLine) (ha : PE X a (tB G W ma)) (hb : PE X b (tB G W mb)) (hm : behindInMarks o b = false) : PE X (.Compare a [o] [b] pos) (tE G W (xCmp o ma mb)) :=
  (pe_cmpR (cpr_all hu o) ha hb hm).weak fun σ H Q ⟨F, S, ρ, s, ok, p⟩ => tB.go ok p fun d s1 v H1 g1 ok1 r1 p1 => tB.go ok1 p1 fun d2 s2 v2 H2 g2 ok2 r2 p2 => by
    rw [post_bnd] at p2
    obtain ⟨k, e, q⟩ := post_opt.mp p2
    exact ⟨F, _, _, k, (r1.pres g2 ok.sub).b, r2.b, cmpF_D e, q _ _ (g1.trans g2) ok2.src (.bl _)⟩
theorem st_cmp {o : CmpOp} (hu : X.A.units + 65 < cLine) (ha : PE X a (tB G W ma)) (hb : PE X b (tB G W mb)) (hm : behindInMarks o b = false) : PT X (.Compare a [o] [b] pos) (tT G W (xCmp o ma mb)) :=
  (pt_cmpR (cpr_all hu o) ha hb hm).weak fun σ H Q ⟨F, S, ρ, s, ok, p⟩ => by
    unfold xCmp at p
    rw [bnd_assoc] at p
    refine tB.go ok p fun d s1 v H1 g1 ok1 r1 p1 => ?_
    rw [bnd_assoc] at p1
    refine tB.go ok1 p1 fun d2 s2 v2 H2 g2 ok2 r2 p2 => ?_
    rw [bnd_assoc, post_bnd] at p2
    obtain ⟨k, e, q⟩ := post_opt.mp p2
    exact ⟨F, _, _, k, (r1.pres g2 ok.sub).b, r2.b, cmpF_D e, k, rfl, q _ (g1.trans g2) ok2.src⟩
theorem se_cmp2 {o o2 : CmpOp} (hu : X.A.units + 65 < cLine) (ha : PE X a (tB G W ma)) (hb : PE X b (tB G W mb)) (hc : PE X c (tB G W mc)) (hm : lastMarks [o, o2] [b, c] = false) : PE X (.Compare a [o, o2] [b, c] pos) (tE G W (xCmp2 o o2 ma mb mc)) :=
  (pe_chain (cpr_all hu o) (cpr_all hu o2) ha hb hc hm).weak fun σ H Q ⟨F, S, ρ, s, ok, p⟩ => tB.go ok p fun d s1 v H1 g1 ok1 r1 p1 => tB.go ok1 p1 fun d2 s2 v2 H2 g2 ok2 r2 p2 => by
    rw [post_bnd] at p2
    obtain ⟨k, e, q⟩ := post_opt.mp p2
    refine ⟨F, _, _, k, (r1.pres g2 ok.sub).b, r2.b, cmpF_D e, k, rfl, ?_⟩
    cases k with
    | true =>
      refine iteT (tB.go ok2 q fun d3 s3 v3 H3 g3 ok3 r3 p3 => ?_)
      rw [post_bnd] at p3
      obtain ⟨k, e, q⟩ := post_opt.mp p3
      exact ⟨F, _, _, k, (r2.pres g3 ok.sub).b, r3.b, cmpF_D e, q _ _ ((g1.trans g2).trans g3) ok3.src (.bl _)⟩
    | false => exact iteF (q _ _ (g1.trans g2) ok2.src (.bl _))
theorem st_cmp2 {o o2 : CmpOp} (hu : X.A.units + 65 < cLine) (ha : PE X a (tB G W ma)) (hb : PE X b (tB G W mb)) (hc : PE X c (tB G W mc)) (hm : lastMarks [o, o2] [b, c] = false) : PT X (.Compare a [o, o2] [b, c] pos) (tT G W (xCmp2 o o2 ma mb mc)) :=
  (pt_chain (cpr_all hu o) (cpr_all hu o2) ha hb hc hm).weak fun σ H Q ⟨F, S, ρ, s, ok, p⟩ => by
    unfold xCmp2 at p
    rw [bnd_assoc] at p
    refine tB.go ok p fun d s1 v H1 g1 ok1 r1 p1 => ?_
    rw [bnd_assoc] at p1
    refine tB.go ok1 p1 fun d2 s2 v2 H2 g2 ok2 r2 p2 => ?_
    rw [bnd_assoc, post_bnd] at p2
    obtain ⟨k, e, q⟩ := post_opt.mp p2
    refine ⟨F, _, _, k, (r1.pres g2 ok.sub).b, r2.b, cmpF_D e, k, rfl, ?_⟩
    cases k with
    | true =>
      rw [if_pos rfl, bnd_assoc] at q
      refine iteT (tB.go ok2 q fun d3 s3 v3 H3 g3 ok3 r3 p3 => ?_)
      rw [bnd_assoc, post_bnd] at p3
      obtain ⟨k, e, q⟩ := post_opt.mp p3
      exact ⟨F, _, _, k, (r2.pres g3 ok.sub).b, r3.b, cmpF_D e, k, rfl, q _ ((g1.trans g2).trans g3) ok3.src⟩
    | false => exact iteF ⟨false, rfl, q _ (g1.trans g2) ok2.src⟩
/-- an expression's value as a test -/
theorem st_val {e : Expr} {m : E} (h : PE X e (tE G W m)) (he : ∀ whole, isTrue e X.env whole = (do let v ← whole; standAt e.pos; holding [v] (truthy v))) : PT X e (tT G W m) :=
  (pt_val h he).weak fun σ H Q ⟨F, S, ρ, s, ok, p⟩ => tE.go ok p fun d s1 v H1 g1 ok1 r1 p1 => by
    obtain ⟨k, e, q⟩ := post_opt.mp p1
    cases asB_some e
    cases r1
    exact ⟨k, rfl, q _ g1 ok1.src⟩
/-- a test, then the rest -/
theorem tT.go {F : Addr → Prop} {S : SA} {σ : L2.St} {H : Hp} {ρ : Rho} {s : Src} {β : Type} {m : E} {f : Bool → M β} {P : β → Src → Prop} {Q : Bool → Hp → Prop} (ok : Ok G W F S σ H ρ s) (h : post (bnd (m G.C ρ) fun x => bnd (opt (asB x)) f) P s)
    (k : ∀ b s' H', Pres (inS S) H H' → Ok G W F S σ H' ρ s' → post (f b) P s' → Q b H') : tT G W m σ H Q := by
  rw [← bnd_assoc, post_bnd] at h
  exact ⟨F, S, ρ, s, ok, post_mono h fun d s' p H' g hs => k d s' H' g (ok.step g hs) p⟩
theorem se_if (hc : PT X c (tT G W mc)) (ha : PE X a (tE G W ma)) (hb : PE X b (tE G W mb)) : PE X (.IfExp c a b pos) (tE G W (xIf mc ma mb)) :=
  (pe_ifExp hc ha hb).weak fun σ H Q ⟨F, S, ρ, s, ok, p⟩ => tT.go ok p fun k s1 H1 g1 ok1 p1 => by
    cases k with
    | true => exact iteT ⟨F, S, ρ, s1, ok1, post_mono p1 fun d s' q v H' g => q v H' (g1.trans g)⟩
    | false => exact iteF ⟨F, S, ρ, s1, ok1, post_mono p1 fun d s' q v H' g => q v H' (g1.trans g)⟩
theorem sb_if (hc : PT X c (tT G W mc)) (ha : PE X a (tB G W ma)) (hb : PE X b (tB G W mb)) : PE X (.IfExp c a b pos) (tB G W (xIf mc ma mb)) :=
  (pe_ifExp hc ha hb).weak fun σ H Q ⟨F, S, ρ, s, ok, p⟩ => tT.go ok p fun k s1 H1 g1 ok1 p1 => by
    cases k with
    | true => exact iteT ⟨F, S, ρ, s1, ok1, post_mono p1 fun d s' q v H' g => q v H' (g1.trans g)⟩
    | false => exact iteF ⟨F, S, ρ, s1, ok1, post_mono p1 fun d s' q v H' g => q v H' (g1.trans g)⟩
theorem st_not (ha : PT X a (tT G W ma)) : PT X (.UnaryOp .Not a pos) (tT G W (xNot ma)) :=
  (pt_not ha).weak fun σ H Q ⟨F, S, ρ, s, ok, p⟩ => by
    unfold xNot at p
    simp only [bnd_assoc] at p
    exact tT.go ok p fun b s1 H1 g1 ok1 p1 => p1 H1 g1 ok1.src
theorem se_not (ha : PE X a (tE G W ma)) : PE X (.UnaryOp .Not a pos) (tE G W (xNot ma)) :=
  (pe_not ha).weak fun σ H Q ⟨F, S, ρ, s, ok, p⟩ => tE.go ok p fun d s1 v H1 g1 ok1 r1 p1 => by
    rw [post_bnd] at p1
    obtain ⟨k, e, q⟩ := post_opt.mp p1
    cases asB_some e
    cases r1
    exact ⟨k, rfl, q _ _ g1 ok1.src (.bl _)⟩
theorem se_and {rest : List Expr} (ha : PE X a (tE G W ma)) (hb : PE X (.BoolOp .And (b :: rest) pos) (tE G W mb)) : PE X (.BoolOp .And (a :: b :: rest) pos) (tE G W (xAnd ma mb)) :=
  (pe_and ha hb).weak fun σ H Q ⟨F, S, ρ, s, ok, p⟩ => tE.go ok p fun d s1 v H1 g1 ok1 r1 p1 => by
    rw [post_bnd] at p1
    obtain ⟨k, e, q⟩ := post_opt.mp p1
    cases asB_some e
    cases r1
    refine ⟨k, rfl, ?_⟩
    cases k with
    | true => exact iteT ⟨F, S, ρ, s1, ok1, post_mono q fun d s' q v H' g => q v H' (g1.trans g)⟩
    | false => exact iteF (q _ _ g1 ok1.src (.bl _))
theorem se_or {rest : List Expr} (ha : PE X a (tE G W ma)) (hb : PE X (.BoolOp .Or (b :: rest) pos) (tE G W mb)) : PE X (.BoolOp .Or (a :: b :: rest) pos) (tE G W (xOr ma mb)) :=
  (pe_or ha hb).weak fun σ H Q ⟨F, S, ρ, s, ok, p⟩ => tE.go ok p fun d s1 v H1 g1 ok1 r1 p1 => by
    rw [post_bnd] at p1
    obtain ⟨k, e, q⟩ := post_opt.mp p1
    cases asB_some e
    cases r1
    refine ⟨k, rfl, ?_⟩
    cases k with
    | false => exact iteF ⟨F, S, ρ, s1, ok1, post_mono q fun d s' q v H' g => q v H' (g1.trans g)⟩
    | true => exact iteT (q _ _ g1 ok1.src (.bl _))
theorem sw_and {rest : List Expr} (ha : PT X a (tT G W ma)) (hb : PW X (.BoolOp .And (b :: rest) pos) (tT G W mb)) : PW X (.BoolOp .And (a :: b :: rest) pos) (tT G W (xAnd ma mb)) :=
  (pw_and ha hb).weak fun σ H Q ⟨F, S, ρ, s, ok, p⟩ => by
    unfold xAnd at p
    simp only [bnd_assoc] at p
    refine tT.go ok p fun k s1 H1 g1 ok1 p1 => ?_
    · cases k with
      | true => exact iteT ⟨F, S, ρ, s1, ok1, post_mono p1 fun d s' q H' g => q H' (g1.trans g)⟩
      | false => exact iteF (p1 H1 g1 ok1.src)
theorem sw_or {rest : List Expr} (ha : PT X a (tT G W ma)) (hb : PW X (.BoolOp .Or (b :: rest) pos) (tT G W mb)) : PW X (.BoolOp .Or (a :: b :: rest) pos) (tT G W (xOr ma mb)) :=
  (pw_or ha hb).weak fun σ H Q ⟨F, S, ρ, s, ok, p⟩ => by
    unfold xOr at p
    simp only [bnd_assoc] at p
    refine tT.go ok p fun k s1 H1 g1 ok1 p1 => ?_
    · cases k with
      | false => exact iteF ⟨F, S, ρ, s1, ok1, post_mono p1 fun d s' q H' g => q H' (g1.trans g)⟩
      | true => exact iteT (p1 H1 g1 ok1.src)
/-! lists of expressions -/
variable {r : List Expr} {mr : Es}
theorem sa_nil : PA X [] (tEs G W xNil) := pa_nil.weak fun σ H Q ⟨F, S, ρ, s, ok, p⟩ => p _ _ (.refl _) ok.src .nil
theorem sc_nil : PA X [] (tBs G W xNil) := pa_nil.weak fun σ H Q ⟨F, S, ρ, s, ok, p⟩ => p _ _ (.refl _) ok.src .nil
theorem sa_cons (ha : PE X a (tE G W ma)) (hr : PA X r (tEs G W mr)) (hs : starEach (a :: r) X.env = (false, eval a X.env) :: starEach r X.env) : PA X (a :: r) (tEs G W (xCons ma mr)) :=
  (pa_cons ha hr hs).weak fun σ H Q ⟨F, S, ρ, s, ok, p⟩ => tE.go ok p fun d s1 v H1 g1 ok1 r1 p1 => tEs.go ok1 p1 fun d2 s2 v2 H2 g2 ok2 r2 p2 => p2 _ _ (g1.trans g2) ok2.src (.cons (r1.pres (g2.mono ok.sub)) r2)
theorem sc_cons (ha : PE X a (tB G W ma)) (hr : PA X r (tBs G W mr)) (hs : starEach (a :: r) X.env = (false, eval a X.env) :: starEach r X.env) : PA X (a :: r) (tBs G W (xCons ma mr)) :=
  (pa_cons ha hr hs).weak fun σ H Q ⟨F, S, ρ, s, ok, p⟩ => tB.go ok p fun d s1 v H1 g1 ok1 r1 p1 => tBs.go ok1 p1 fun d2 s2 v2 H2 g2 ok2 r2 p2 => p2 _ _ (g1.trans g2) ok2.src (.cons (r1.pres g2 ok.sub) r2)
theorem sa_star {p : Pos} (ha : PE X a (tB G W ma)) (hr : PA X r (tEs G W mr)) (hs : starEach (.Starred a p :: r) X.env = (true, eval a X.env) :: starEach r X.env) : PA X (.Starred a p :: r) (tEs G W (xStar ma mr)) :=
  (StX.pa_star ha hr hs).weak fun σ H Q ⟨F, S, ρ, s, ok, p⟩ => tB.go ok p fun d s1 v H1 g1 ok1 r1 p1 => by
    rw [post_bnd] at p1
    obtain ⟨ds, e, q⟩ := post_opt.mp p1
    obtain ⟨ad, xs, rfl, h, z, ra⟩ := r1.b.seq e
    refine ⟨ad, xs, rfl, h.elim (fun h => .inr (SqL.of h.1)) (fun h => .inl (SqT.of h.1)), tEs.go ok1 q fun d2 s2 v2 H2 g2 ok2 r2 p2 => p2 _ _ (g1.trans g2) ok2.src ((ra.pres (g2.mono ok.sub)).app r2)⟩
theorem se_tup {k : Nat} (hr : PA X r (tEs G W mr)) : PE X (.Tuple r k pos) (tE G W (xTup mr)) :=
  (pe_tup hr).weak fun σ H Q ⟨F, S, ρ, s, ok, p⟩ => tEs.go ok p fun d s1 v H1 g1 ok1 r1 p1 => by
    split at p1
    · rename_i h
      have z : v.length ≤ sizeLine := by rw [r1.len]; exact szOk_le h
      exact ⟨z, fun p hp => p1 _ _ (g1.trans (Grow.new hp).pres) (ok1.src.grow (.new hp)) (.newT ok1.live hp z r1)⟩
    · exact p1.elim
theorem se_lst (hr : PA X r (tEs G W mr)) : PE X (.List r pos) (tE G W (xLst mr)) :=
  (pe_lst hr).weak fun σ H Q ⟨F, S, ρ, s, ok, p⟩ => tEs.go ok p fun d s1 v H1 g1 ok1 r1 p1 => by
    split at p1
    · rename_i h
      have z : v.length ≤ sizeLine := by rw [r1.len]; exact szOk_le h
      exact ⟨z, fun p hp => p1 _ _ (g1.trans (Grow.new hp).pres) (ok1.src.grow (.new hp)) (.newL ok1.live hp z r1)⟩
    · exact p1.elim
theorem atI_map {α β : Type} {R : α → β → Prop} {xs : List α} {ds : List β} (hl : xs.length = ds.length) (hg : ∀ (i : Nat) (d : β), ds[i]? = some d → ∃ v, xs[i]? = some v ∧ R v d) {k : Int} {d : β} (e : atI ds k = some d) : ∃ v, atI xs k = some v ∧ R v d := by
  unfold atI at *
  rw [hl]
  cases h : ixN ds.length k with
  | none => rw [h] at e; cases e
  | some j =>
    rw [h] at e
    exact hg j d e
theorem ix_ok : IxR X (fun x y H Q => ∃ F d1 d2 d, RpB F H x d1 ∧ RpB F H y d2 ∧ ixD d1 d2 = some d ∧ ∀ v, Rp F H v d → Q v H) := by
  have key : IxR X (rIxL X.K) ∧ IxR X (rIxT X.K) := ⟨ix_list, ix_tup⟩
  have key2 := key.1.or key.2
  intro va sl pins s σ H x y v u Q I rx ry ⟨F, d1, d2, d, r1, r2, e, q⟩ hsub
  refine key2 va sl pins s σ H x y v u Q I rx ry ?_ hsub
  unfold ixD at e
  split at e
  · obtain ⟨ad, xs, rfl, h, z, ra⟩ := r1.list
    obtain ⟨w, h1, h2⟩ := atI_map ra.len (fun i d h => ra.get h) e
    exact .inl ⟨ad, xs, _, w, rfl, r2.int, SqL.of h, h1, q w h2⟩
  · obtain ⟨ad, xs, rfl, n, h, z, ra⟩ := r1.tup
    obtain ⟨w, h1, h2⟩ := atI_map ra.len (fun i d h => ra.get h) e
    exact .inr ⟨ad, xs, _, w, rfl, r2.int, SqT.of h, h1, q w h2⟩
  · cases e
theorem se_sub (ha : PE X a (tB G W ma)) (hb : PE X b (tB G W mb)) (hs : PlainIx b) : PE X (.Subscript a b pos) (tE G W (xSub ma mb)) :=
  (pe_ix ix_ok ha hb hs).weak fun σ H Q ⟨F, S, ρ, s, ok, p⟩ => tB.go ok p fun d s1 v H1 g1 ok1 r1 p1 => tB.go ok1 p1 fun d2 s2 v2 H2 g2 ok2 r2 p2 => by
    obtain ⟨k, e, q⟩ := post_opt.mp p2
    exact ⟨F, _, _, k, (r1.pres g2 ok.sub).b, r2.b, e, fun v r => q _ _ (g1.trans g2) ok2.src r⟩
/-! slices -/
def tO (G : Gx) (W : Nat → Kd) (m : Eo) : TO := fun σ H Q => ∃ F S ρ s, Ok G W F S σ H ρ s ∧ post (m G.C ρ) (fun d s' => ∀ H', Pres (inS S) H H' → SrcOk S H' s' → Q d H') s
theorem tO.go {F : Addr → Prop} {S : SA} {σ : L2.St} {H : Hp} {ρ : Rho} {s : Src} {β : Type} {m : Eo} {f : Option Int → M β} {P : β → Src → Prop} {Q : Option Int → Hp → Prop} (ok : Ok G W F S σ H ρ s) (h : post (bnd (m G.C ρ) f) P s)
    (k : ∀ d s' H', Pres (inS S) H H' → Ok G W F S σ H' ρ s' → post (f d) P s' → Q d H') : tO G W m σ H Q := by
  rw [post_bnd] at h
  exact ⟨F, S, ρ, s, ok, post_mono h fun d s' p H' g hs => k d s' H' g (ok.step g hs) p⟩
theorem so_none : PO X none (tO G W xNo) := ⟨fun pins s σ H Q I ⟨F, S, ρ, s0, ok, p⟩ => po_none.run pins s σ H Q I (p _ (.refl _) ok.src)⟩
theorem so_some (ha : PE X a (tB G W ma)) : PO X (some a) (tO G W (xPart ma)) := ⟨fun pins s σ H Q I ⟨F, S, ρ, s0, ok, p⟩ => (po_some ha).run pins s σ H Q I (tB.go ok p fun d s1 v H1 g1 ok1 r1 p1 => by
  rw [post_bnd] at p1
  obtain ⟨i, e, q⟩ := post_opt.mp p1
  cases asI_some e
  exact ⟨i, r1.b.int, q _ g1 ok1.src⟩)⟩
theorem cut_rps {F : Addr → Prop} {H : Hp} {xs : List V} {ds : List D} (r : Rps F H xs ds) (lo hi : Option Int) : Rps F H (cutV xs lo hi) (cutD ds lo hi) := by
  unfold cutV cutD
  rw [r.len]
  exact (r.drop _).take _
theorem cutV_len (xs : List V) (lo hi : Option Int) : (cutV xs lo hi).length ≤ xs.length := by
  unfold cutV
  rw [List.length_take, List.length_drop]
  omega
theorem sl_ok : SlR X (fun x lo hi H Q => ∃ F d1 d, Live F H ∧ RpB F H x d1 ∧ sliceD d1 lo hi = some d ∧ ∀ v H', Grow H H' → Rp F H' v d → Q v H') := by
  have key : SlR X (rSlL X.K) ∧ SlR X (rSlA X.K) := ⟨sl_list, sl_tupA⟩
  have key2 := key.1.or key.2
  intro pins s σ H x v vl vu lo hi sl Q I rx hs pl pu ⟨F, d1, d, l, r1, e, q⟩
  refine key2 pins s σ H x v vl vu lo hi sl Q I rx hs pl pu ?_
  unfold sliceD at e
  split at e
  · cases e
    obtain ⟨ad, xs, rfl, h, z, ra⟩ := r1.list
    exact .inl ⟨ad, xs, rfl, SqL.of h, fun p hp => q _ _ (.new hp) (.newL l hp (Nat.le_trans (cutV_len _ _ _) z) (cut_rps ra lo hi))⟩
  · cases e
    obtain ⟨ad, xs, rfl, n, h, z, ra⟩ := r1.tup
    refine .inr ⟨ad, xs, rfl, SqT.of h, fun e => ?_, fun _ p hp => q _ _ (.new hp) (.newT l hp (Nat.le_trans (cutV_len _ _ _) z) (cut_rps ra lo hi))⟩
    rename_i ds
    have e2 : cutD ds lo hi = ds := by
      unfold cutD
      rw [← ra.len, e.1, e.2]
      simp [ra.len]
    rw [e2] at q
    exact q _ _ (.refl _) (.tup n h z ra)
  · cases e
variable {p2 : Pos}
theorem se_slice {lo hi : Option Expr} {ml mh : Eo} (ha : PE X a (tB G W ma)) (hl : PO X lo (tO G W ml)) (hh : PO X hi (tO G W mh)) : PE X (.Subscript a (.Slice lo hi none p2) pos) (tE G W (xSlice ma ml mh)) :=
  (pe_slice sl_ok ha hl hh).weak fun σ H Q ⟨F, S, ρ, s, ok, p⟩ => tB.go ok p fun d s1 v H1 g1 ok1 r1 p1 => tO.go ok1 p1 fun l s2 H2 g2 ok2 p2 => tO.go ok2 p2 fun h s3 H3 g3 ok3 p3 => by
    obtain ⟨k, e, q⟩ := post_opt.mp p3
    exact ⟨F, _, k, ok3.live, (r1.pres (g2.trans g3) ok.sub).b, e, fun v H4 g4 r => q _ _ (((g1.trans g2).trans g3).trans g4.pres) (ok3.src.grow g4) r⟩
theorem se_rev {k : Nat} {p3 p4 : Pos} (ha : PE X a (tB G W ma)) : PE X (.Subscript a (.Slice none none (some (.UnaryOp .USub (.Constant (.int 1) k p3) p4)) p2) pos) (tE G W (xRev ma)) :=
  (pe_revL ha).weak fun σ H Q ⟨F, S, ρ, s, ok, p⟩ => tB.go ok p fun d s1 v H1 g1 ok1 r1 p1 => by
    obtain ⟨k, e, q⟩ := post_opt.mp p1
    unfold revD at e
    split at e
    · cases e
      obtain ⟨ad, xs, rfl, h, z, ra⟩ := r1.b.list
      exact ⟨ad, xs, rfl, SqL.of h, fun p hp => q _ _ (g1.trans (Grow.new hp).pres) (ok1.src.grow (.new hp)) (.newL ok1.live hp (by rw [List.length_reverse]; exact z) ra.rev)⟩
    · cases e
end
end BA

/-! BA6: what is walked -/
namespace BA
open PySem PySem.Spec
open PyProof.Rows
open L2 hiding St

/-! enumerate of a tuple -/
theorem newEnumT (l : Addr) (items : Array Value) (n : Nat) (dct : Option Addr) (sl : Array (Option Value)) :
    Meets (Builtin.«enumerate.__new__» ⟨[.type "enumerate", .ref l], []⟩) (fun _ R s => s.heap.get? l = some { cls := .type "tuple", dict := dct, data := .seq items n, slots := sl } ∧
      R (.ok (.ret (.ref (s.heap.push { cls := .type "tuple_iterator", data := .fields #[.ref l, .int 0 0] }).objs.size)))
        { s with heap := (s.heap.push { cls := .type "tuple_iterator", data := .fields #[.ref l, .int 0 0] }).push { cls := .type "enumerate", data := .fields #[.none, .bool false, .ref s.heap.objs.size, rawInt 0, .none, .none] } }) :=
  .of_wp fun prog w A R s h => by
    obtain ⟨hp, g, d, tk, os⟩ := s
    obtain ⟨hl, h⟩ := h
    have hsub := sub_enumerate
    have hL : Heap.IsTuple (Shared.heap ⟨hp, g, d, tk, os⟩) l items := ⟨_, hl, rfl, n, rfl⟩
    wp_walk using PySem.AutoSeq1.wpAny_loadPart' hl
    refine wpAny_stack_any fun st => wpAny_pure ?_
    split
    · rename_i c _ _ _ _ _
      cases (c == Value.type "enumerate")
      · wp_walk using PySem.AutoSeq1.wpAny_loadPart' hl, wpAny_pyIter_tuple hL
        exact ⟨_, rfl, h⟩
      · wp_walk using PySem.AutoSeq1.wpAny_loadPart' hl, wpAny_pyIter_tuple hL
        exact ⟨_, rfl, h⟩
    · wp_walk using PySem.AutoSeq1.wpAny_loadPart' hl, wpAny_pyIter_tuple hL
      exact ⟨_, rfl, h⟩
theorem enumT_call {prog : Program} {w : World} {A : Around} {E : Value → Shared → Prop} {s : Shared} {l : Addr} {items : Array Value} {Q : Value → Shared → Prop} (hL : s.heap.IsTuple l items)
    (h : ∀ h', IsEnum h' (s.heap.objs.size + 1) s.heap.objs.size 0 .none → h'.IsTupleIter s.heap.objs.size l 0 → (∀ b o, s.heap.get? b = some o → h'.get? b = some o) → Q (.ref (s.heap.objs.size + 1)) { s with heap := h' }) :
    wpAny (model prog w) A (call (.type "enumerate") [.ref l]) Q E s := by
  obtain ⟨⟨c, dct, dt, sl⟩, hl, hc, n, hd⟩ := hL
  replace hc : c = .type "tuple" := hc
  replace hd : dt = .seq items n := hd
  subst hc hd
  refine callType_new F.called_enumerate (by decide) (F.typeCall_enumerate_1 _) (F.newCall_enumerate_1 _) (fun obj => F.args_object_init_2 obj _) F.entry_enumerate_new (newEnumT l items n dct sl) ⟨hl, ?_⟩
  have hz : (s.heap.push { cls := .type "tuple_iterator", data := .fields #[.ref l, .int 0 0] }).objs.size = s.heap.objs.size + 1 := Heap.size_push ..
  show _ ∧ _
  rw [hz]
  have he : IsEnum ((s.heap.push { cls := .type "tuple_iterator", data := .fields #[.ref l, .int 0 0] }).push { cls := .type "enumerate", data := .fields #[.none, .bool false, .ref s.heap.objs.size, rawInt 0, .none, .none] }) (s.heap.objs.size + 1) s.heap.objs.size 0 .none := by
    have := Heap.get?_push_size (s.heap.push { cls := .type "tuple_iterator", data := .fields #[.ref l, .int 0 0] }) (o := { cls := .type "enumerate", data := .fields #[.none, .bool false, .ref s.heap.objs.size, rawInt 0, .none, .none] }) rfl
    rw [hz] at this
    exact this
  exact ⟨⟨_, he, rfl⟩, h _ he ⟨_, Heap.get?_push_of_some _ (Heap.get?_push_size _ rfl), rfl, rfl⟩ fun b o x => Heap.get?_push_of_some _ (Heap.get?_push_of_some _ x)⟩

theorem enumT_end {prog : Program} {w : World} {A : Around} {E : Value → Shared → Prop} {s : Shared} {e it l : Addr} {i j : Nat} {items : Array Value} {old : Value} {Q : Option Value → Shared → Prop} (hh : A.handled = none)
    (he : IsEnum s.heap e it j old) (hit : s.heap.IsTupleIter it l i) (hl : s.heap.IsTuple l items) (hx : items[i]? = none)
    (hQ : ∀ h', Heap.ExtBut it s.heap h' → Q none { s with heap := h' }) : wpAny (model prog w) A (pyNext (.ref e)) Q E s := by
  have hT : s.TypeIs (.ref e) "enumerate" := ⟨_, he, rfl⟩
  unfold pyNext
  refine wpAny_bind (wpAny_attempt (wpAny_callSpecial?_slot (name := Str.ofString "__next__") hT F.slot_enumerate_next (wpAny_call_entry F.slot_enumerate_next hT F.entry_enumerate_next ?_ (F.args_enumerate_next_1 _))))
  show wpAny _ _ (field (.ref e) 2 >>= _) _ _ _
  refine wpAny_bind (wpAny_field he rfl (x := .ref it) rfl ?_)
  refine wpAny_bind (wpAny_nextOf_tuple_end hh hit hl hx fun h' x he' ⟨o, ho, hc⟩ => ?_)
  exact wpAny_bind (wpAny_isInstance (T := "StopIteration") (b := true) ⟨o, ho, hc⟩ isSubtype_stop (wpAny_pure (hQ _ he')))
def IteT (K : PySem.W.Frag) (a : Addr) : It :=
  ⟨fun i H => ∃ (xs : List V) (x : V), SqT K H a xs ∧ xs[i]? = some x, fun i H v H' => ∃ T x, v = .ref T ∧ H T = none ∧ H' = upd H T (.tup [.int (i : Nat), x]) ∧ ∀ xs, SqT K H a xs → xs[i]? = some x, fun i H => ∃ xs : List V, SqT K H a xs ∧ xs.length ≤ i⟩
theorem turn_enumT {P : Program} {w : World} {K : PySem.W.Frag} {elts : List Expr} {kk : Nat} {tpos : Pos} (a e it : Addr) :
    Turn P w K (.Tuple elts kk tpos) (IteT K a) [e, it] e (fun i h => (∃ old, IsEnum h e it ((i : Nat) : Int) old) ∧ h.IsTupleIter it a i ∧ e ≠ it ∧ a ≠ e ∧ a ≠ it) where
  mem := by simp
  obj := fun i h st b hb => by
    obtain ⟨⟨old, he⟩, ⟨o, ho, hc, hd⟩, _⟩ := st
    have e' : b = e ∨ b = it := by simpa using hb
    rcases e' with z | z
    · rw [z]; exact ⟨_, he, fun v q => nomatch q⟩
    · rw [z]; exact ⟨o, ho, fun v q => by rw [hd] at q; cases q⟩
  keep := fun i h h' st k => let ⟨⟨old, he⟩, hi, hne⟩ := st; ⟨⟨old, k e (by simp) _ he⟩, hi.at fun o q => k it (by simp) o q, hne⟩
  item := by
    intro X hP hw hK hc i pins s σ H E I hf st hg
    subst hP hw hK
    obtain ⟨⟨old, he⟩, hit, hne, hae, hai⟩ := st
    obtain ⟨xs, x, hq, hx⟩ := hg
    obtain ⟨its, rv, p, hz⟩ := I.tuple hq
    obtain ⟨u, hu, ru⟩ := rv.get hx
    have hel : e < s.heap.objs.size := Heap.lt_size he
    have hil : it < s.heap.objs.size := by obtain ⟨_, q, _⟩ := hit; exact Heap.lt_size q
    have ht : s.heap.IsTuple a its.toArray := p
    have hlt : i < its.toArray.size := by
      have := (List.getElem?_eq_some_iff.mp hu).1
      simpa using this
    refine wpAny_pyNext_enum_itemD (Draws.tuple (prog := X.prog) (w := X.w) (A := X.A.in1) (I.ok.hd hc) it a hai its.toArray) he ⟨hit, ht⟩ hlt hne (by simp [hne, Ne.symm hae]) fun z h' tk hP ho hst' hT hsz hk => ?_
    have ez : z = u := by
      have q : its.toArray[i]? = some z := hP
      have q2 : its.toArray[i]? = some u := by simpa using hu
      rw [q2] at q
      exact (Option.some.inj q).symm
    subst ez
    refine ⟨_, rfl, wpAny_letOwnedTupleGo_enum (s := { s with heap := h', toks := tk + 1 }) ho fun h'' he' sb => ?_⟩
    have hT2 : h''.get? s.heap.objs.size = some { cls := .type "tuple", data := .seq #[.int i tk, z] } := (sb.2 _ (Nat.ne_of_gt hel)).trans hT
    have new : ObjOk X.prog X.w (upd H s.heap.objs.size (.tup [.int (i : Nat), x])) h'' s.heap.objs.size (.tup [.int (i : Nat), x]) :=
      ⟨by show 2 ≤ sizeLine; decide, [.int i tk, z], .cons ⟨_, rfl⟩ (.cons ru .nil), ⟨_, hT2, rfl, _, rfl⟩⟩
    have I1 : Inv X pins σ (upd H s.heap.objs.size (.tup [.int (i : Nat), x])) { s with heap := h'', toks := tk + 1 } :=
      I.turnedNew (ch := [e, it]) (fun b ob hb q => (sb.2 b (fun z => hb (by simp [z]))).trans (hk b ob (fun z => hb (by simp [z])) (fun z => hb (by simp [z])) q)) hf (Nat.le_refl _) new
    refine ⟨.ref s.heap.objs.size, _, I1, rfl, ⟨_, x, rfl, I.hok.fresh (Nat.le_refl _), rfl, fun ys hy => by rw [I.tuple_inj hy hq]; exact hx⟩, ⟨⟨z, ?_⟩, hst'.1.at fun o q => (sb.2 it (Ne.symm hne)).trans q, hne, hae, hai⟩, fun b hb => ?_⟩
    · have e1 : ((i + 1 : Nat) : Int) = (i : Int) + 1 := by omega
      rw [e1]; exact he'
    · have hb' : b < s.heap.objs.size := by
        have e' : b = e ∨ b = it := by simpa using hb
        rcases e' with z | z
        · rw [z]; exact hel
        · rw [z]; exact hil
      rw [upd_ne (Nat.ne_of_lt hb')]
      exact (hf b hb).1
  done := by
    intro X hP hw hK hc i pins s σ H E I hf st hg
    subst hP hw hK
    obtain ⟨⟨old, he⟩, hit, hne, hae, hai⟩ := st
    obtain ⟨xs, hq, hx⟩ := hg
    obtain ⟨its, rv, p, hz⟩ := I.tuple hq
    obtain ⟨f0, f1, f2, f3, f4, f5⟩ := hf it (by simp)
    have hl := rv.length
    have ht : s.heap.IsTuple a its.toArray := p
    exact enumT_end (I.ok.hd hc) he hit ht (by simp; omega) fun h' eb => ⟨rfl, I.turned (t' := s.toks) (fun b o hb q => eb b o hb q) f0 f1 f3 f4 f5⟩
  self := fun A i s Q E st h => let ⟨⟨_, he⟩, _⟩ := st; wpAny_pyIter_enum he h

/-! a list or a tuple -/
def iSeq (te : TE) : TI := fun σ H R => te σ H fun x H1 => ∃ a xs, x = .ref a ∧ (H1 a = some (.lst xs) ∧ (∀ K, R (Itl K a) H1) ∨ H1 a = some (.tup xs) ∧ (∀ K, R (Itt K a) H1))
theorem fp1 {X : Cx} {pins : List (Addr × Obj)} {σ : L2.St} {H : Hp} {s : Shared} (I : Inv X pins σ H s) : ∀ b ∈ [s.heap.objs.size], FpOk X pins H b := fun b hb => by
  have e : b = s.heap.objs.size := by simpa using hb
  subst e
  exact I.fpOk (Nat.le_refl _) (I.hok.fresh (Nat.le_refl _))
theorem pi_seq {X : Cx} {tg l : Expr} {tl : TE} (hl : PE X l tl) : PI X tg l (iSeq tl) := by
  refine ⟨fun pins s σ H R I h => thn (hl.run pins s σ H _ I h) fun v s1 ⟨x, H1, I1, r1, q1⟩ => ?_⟩
  obtain ⟨a, xs, rfl, q1⟩ := q1
  cases r1
  rcases q1 with ⟨hq, q⟩ | ⟨hq, q⟩
  · obtain ⟨its, rv, p⟩ := Inv.heldL I1 hq
    exact wpAny_pyIter_list p ⟨s1.heap.objs.size, [s1.heap.objs.size], _, _, H1, rfl, I1.kept (t' := s1.toks) fun b o e => Heap.get?_push_of_some _ e, turn_list a _, ⟨_, Heap.get?_push_size _ rfl, rfl, rfl⟩, fp1 I1, q X.K⟩
  · obtain ⟨its, rv, p⟩ := Inv.heldT I1 hq
    exact wpAny_pyIter_tuple p ⟨s1.heap.objs.size, [s1.heap.objs.size], _, _, H1, rfl, I1.kept (t' := s1.toks) fun b o e => Heap.get?_push_of_some _ e, turn_tuple a _, ⟨_, Heap.get?_push_size _ rfl, rfl, rfl⟩, fp1 I1, q X.K⟩
/-! enumerate of a list or a tuple -/
def iEnu (ta : TA) : TI := fun σ H R => ta σ H fun vs H1 => ∃ a xs, vs = [.ref a] ∧ (H1 a = some (.lst xs) ∧ (∀ K, R (Ite K a) H1) ∨ H1 a = some (.tup xs) ∧ (∀ K, R (IteT K a) H1))
theorem fp2 {X : Cx} {pins : List (Addr × Obj)} {σ : L2.St} {H : Hp} {s : Shared} (I : Inv X pins σ H s) : ∀ b ∈ [s.heap.objs.size + 1, s.heap.objs.size], FpOk X pins H b := fun b hb => by
  have e : b = s.heap.objs.size + 1 ∨ b = s.heap.objs.size := by simpa using hb
  have hle : s.heap.objs.size ≤ b := by
    rcases e with z | z
    · rw [z]; exact Nat.le_add_right _ _
    · rw [z]; exact Nat.le_refl _
  exact I.fpOk hle (I.hok.fresh hle)
theorem pi_enu {X : Cx} {e : Expr} {ta : TA} {p pos tpos : Pos} {elts : List Expr} {kk : Nat} (hg : Gl X "enumerate") (hm : X.mg "enumerate" = none) (ha : PA X [e] ta) (hs : starEach [e] X.env = [(false, eval e X.env)]) :
    PI X (.Tuple elts kk tpos) (.Call (.Name "enumerate" p) [e] [] pos) (iEnu ta) := by
  refine ⟨fun pins s σ H R I h => ?_⟩
  refine Call_ (ld_blt I hg hm boot_enumerate (PyProof.Rows.callWith_type1 (thn (ha.run pos pins s σ H _ I h) fun us s1 ⟨vs, H1, I1, r1, q1⟩ => ?_) hs rfl))
  obtain ⟨a, xs, rfl, q1⟩ := q1
  rw [Vals.ref1 r1]
  rcases q1 with ⟨hq, q⟩ | ⟨hq, q⟩
  · obtain ⟨its, rv, p⟩ := Inv.heldL I1 hq
    refine call_enumerate_list p fun h' he hit hsz hk => wpAny_pyIter_enum he ?_
    exact ⟨s1.heap.objs.size + 1, [s1.heap.objs.size + 1, s1.heap.objs.size], _, _, H1, rfl, I1.kept (t' := s1.toks) hk, turn_enum a (s1.heap.objs.size + 1) s1.heap.objs.size, ⟨⟨.none, he⟩, hit, Nat.succ_ne_self _⟩, fp2 I1, q X.K⟩
  · obtain ⟨its, rv, p⟩ := Inv.heldT I1 hq
    refine enumT_call p fun h' he hit hk => wpAny_pyIter_enum he ?_
    have hlt : a < s1.heap.objs.size := by
      obtain ⟨o, ho, _⟩ := p
      exact Heap.lt_size ho
    exact ⟨s1.heap.objs.size + 1, [s1.heap.objs.size + 1, s1.heap.objs.size], _, _, H1, rfl, I1.kept (t' := s1.toks) hk, turn_enumT a (s1.heap.objs.size + 1) s1.heap.objs.size, ⟨⟨.none, he⟩, hit, Nat.succ_ne_self _, Nat.ne_of_lt (Nat.lt_succ_of_lt hlt), Nat.ne_of_lt hlt⟩, fp2 I1, q X.K⟩
end BA

/-! BA41: zip of lists and tuples by turns, with strict=True too -/
namespace BA
open PySem PySem.Spec
open PyProof.Rows
open L2 hiding St

/-- a list's iterator, or a tuple's -/
def ItK (b : Bool) (h : Heap) (i l : Addr) (n : Nat) : Prop := match b with
  | true => h.IsListIter i l n
  | false => h.IsTupleIter i l n
def SqK (b : Bool) (h : Heap) (l : Addr) (xs : Array Value) : Prop := match b with
  | true => h.IsList l xs
  | false => h.IsTuple l xs
theorem ItK.ext {b : Bool} {h h' : Heap} {i l a : Addr} {n : Nat} (k : ItK b h i l n) (e : Heap.ExtBut a h h') (ne : i ≠ a) : ItK b h' i l n := by
  cases b with
  | true => exact Heap.IsListIter.extBut k e ne
  | false => exact Heap.IsTupleIter.extBut k e ne
theorem SqK.ext {b : Bool} {h h' : Heap} {l a : Addr} {xs : Array Value} (k : SqK b h l xs) (e : Heap.ExtBut a h h') (ne : l ≠ a) : SqK b h' l xs := by
  cases b with
  | true => exact Heap.IsList.extBut k e ne
  | false => exact Heap.IsTuple.extBut k e ne
theorem ItK.at' {b : Bool} {h h' : Heap} {i l : Addr} {n : Nat} (k : ItK b h i l n) (e : ∀ o, h.get? i = some o → h'.get? i = some o) : ItK b h' i l n := by
  cases b with
  | true => exact Heap.IsListIter.at k e
  | false => exact Heap.IsTupleIter.at k e
theorem ItK.obj {b : Bool} {h : Heap} {i l : Addr} {n : Nat} (k : ItK b h i l n) : ∃ o, h.get? i = some o ∧ o.data = .fields #[.ref l, .int n 0] := by
  cases b with
  | true => obtain ⟨o, h1, _, h2⟩ := k; exact ⟨o, h1, h2⟩
  | false => obtain ⟨o, h1, _, h2⟩ := k; exact ⟨o, h1, h2⟩
section
variable {P : Program} {w : World} {A : Around} {E : Value → Shared → Prop} {s : Shared}
theorem nextK {b : Bool} {i l : Addr} {n : Nat} {xs : Array Value} {x : Value} {Q : Value → Shared → Prop} (k : ItK b s.heap i l n) (q : SqK b s.heap l xs) (hx : xs[n]? = some x)
    (go : ∀ h', ItK b h' i l (n + 1) → Heap.SameBut i s.heap h' → Q x { s with heap := h' }) : wpAny (model P w) A (Builtin.SmallTypes.nextOf (.ref i)) Q E s := by
  cases b with
  | true => exact wpAny_nextOf_list_item k q hx go
  | false => exact RZ.nextOf_tuple_item k q hx go
theorem endK {b : Bool} {i l : Addr} {n : Nat} {xs : Array Value} {Q : Value → Shared → Prop} (hh : A.handled = none) (k : ItK b s.heap i l n) (q : SqK b s.heap l xs) (hx : xs[n]? = none)
    (go : ∀ h' e, Heap.ExtBut i s.heap h' → (∃ o, h'.get? e = some o ∧ o.cls = .type "StopIteration") → E (.ref e) { s with heap := h' }) : wpAny (model P w) A (Builtin.SmallTypes.nextOf (.ref i)) Q E s := by
  cases b with
  | true => exact wpAny_nextOf_list_end hh k q hx go
  | false => exact RZ.nextOf_tuple_end hh k q hx go
theorem nextE {b : Bool} {i l : Addr} {n : Nat} {xs : Array Value} {x : Value} {Q : Option Value → Shared → Prop} (k : ItK b s.heap i l n) (q : SqK b s.heap l xs) (hx : xs[n]? = some x)
    (go : ∀ h', ItK b h' i l (n + 1) → Heap.SameBut i s.heap h' → Q (some x) { s with heap := h' }) : wpAny (model P w) A (Builtin.SmallTypes.nextOrEnd (.ref i)) Q E s := by
  unfold Builtin.SmallTypes.nextOrEnd
  exact wpAny_bind (wpAny_attempt (nextK k q hx fun h' a b => wpAny_pure (go h' a b)))
theorem endE {b : Bool} {i l : Addr} {n : Nat} {xs : Array Value} {Q : Option Value → Shared → Prop} (hh : A.handled = none) (k : ItK b s.heap i l n) (q : SqK b s.heap l xs) (hx : xs[n]? = none)
    (go : ∀ h', Heap.ExtBut i s.heap h' → Q none { s with heap := h' }) : wpAny (model P w) A (Builtin.SmallTypes.nextOrEnd (.ref i)) Q E s := by
  unfold Builtin.SmallTypes.nextOrEnd
  refine wpAny_bind (wpAny_attempt (endK hh k q hx fun h' e x ⟨o, ho, hc⟩ => ?_))
  exact wpAny_bind (wpAny_isInstance (T := "StopIteration") (b := true) ⟨o, ho, hc⟩ isSubtype_stop (wpAny_pure (go _ x)))
/-- what zip draws of one of its parts -/
def zdraw (st : Bool) (it : Value) : Sem (Option Value) := if st = true then Builtin.SmallTypes.nextOrEnd it else do return some (← Builtin.SmallTypes.nextOf it)
theorem zdraw_item {st b : Bool} {i l : Addr} {n : Nat} {xs : Array Value} {x : Value} {Q : Option Value → Shared → Prop} (k : ItK b s.heap i l n) (q : SqK b s.heap l xs) (hx : xs[n]? = some x)
    (go : ∀ h', ItK b h' i l (n + 1) → Heap.SameBut i s.heap h' → Q (some x) { s with heap := h' }) : wpAny (model P w) A (zdraw st (.ref i)) Q E s := by
  cases st with
  | true => exact nextE k q hx go
  | false => exact wpAny_bind (nextK k q hx fun h' a b => wpAny_pure (go h' a b))
/-- a zip's record: free or handed out, strict or not -/
abbrev IsZ (h : Heap) (z TI TO : Addr) (f : Value) (st : Bool) : Prop := h.get? z = some { cls := .type "zip", dict := none, data := .fields #[f, .bool false, .bool st, .ref TI, .ref TO], slots := #[] }
theorem zst (st : Bool) : (Value.bool st == Value.bool true) = st := by cases st <;> rfl

theorem zipK_item {st b1 b2 : Bool} {z TI TO i1 i2 l1 l2 : Addr} {n m : Nat} {xs ys : Array Value} {x y a b : Value} {Q : Value → Shared → Prop} (D : ZipApart z TI TO i1 i2 l1 l2) (hz : IsZ s.heap z TI TO .none st) (hT : IsPair s.heap TI (.ref i1) (.ref i2)) (hO : IsPair s.heap TO a b)
    (k1 : ItK b1 s.heap i1 l1 n) (k2 : ItK b2 s.heap i2 l2 m) (q1 : SqK b1 s.heap l1 xs) (q2 : SqK b2 s.heap l2 ys) (hx : xs[n]? = some x) (hy : ys[m]? = some y)
    (go : ∀ h', IsZ h' z TI TO (rawInt s.heap.objs.size) st → IsPair h' TO x y → ItK b1 h' i1 l1 (n + 1) → ItK b2 h' i2 l2 (m + 1) → IsPair h' s.heap.objs.size x y →
      (∀ c o, c ≠ z → c ≠ TO → c ≠ i1 → c ≠ i2 → s.heap.get? c = some o → h'.get? c = some o) → Q (.ref s.heap.objs.size) { s with heap := h' }) :
    wpAny (model P w) A (Builtin.«zip.__next__» ⟨[.ref z], []⟩) (fun fin s' => ∃ v, fin = .done (.ret v) ∧ Q v s') E s := by
  show wpAny _ _ (field (.ref z) 2 >>= _) _ _ _
  refine wpAny_bind (wpAny_field hz rfl (x := .bool st) rfl ?_)
  show wpAny _ _ (field (.ref z) 3 >>= _) _ _ _
  refine wpAny_bind (wpAny_field hz rfl (x := .ref TI) rfl (wpAny_bind (wpAny_seqItems hT rfl ?_)))
  show wpAny _ _ (Builtin.SmallTypes.ownedTupleIsFree (.ref z) >>= _) _ _ _
  refine wpAny_bind ?_
  unfold Builtin.SmallTypes.ownedTupleIsFree
  refine wpAny_bind (wpAny_field hz rfl (x := .none) rfl (wpAny_pure ?_))
  rw [if_pos rfl]
  refine wpAny_bind (wpAny_rule (wpAny_bind (wpAny_field hz rfl (x := .ref TO) rfl (wpAny_bind (wpAny_setField_rec hz (by simp) fun g1 z1 e1 => ?_)))))
  replace z1 : IsZ g1 z TI TO .ellipsis st := z1
  refine wpAny_bind ?_
  simp only [List.zipIdx_cons, List.zipIdx_nil, List.forIn_cons, List.forIn_nil, zst]
  refine wpAny_bind (wpAny_bind (wpAny_onRaise ?_))
  show wpAny _ _ (zdraw st (.ref i1)) _ _ _
  refine zdraw_item (k1.ext e1.extBut D.i1z) (q1.ext e1.extBut D.l1z) hx fun g2 k1' e2 => ?_
  have o2 : IsPair g2 TO a b := e2.extBut _ _ D.TOi1 (e1.extBut _ _ D.TOz hO)
  refine wpAny_bind (wpAny_seqItems o2 rfl (wpAny_bind (wpAny_updateSeq_pair o2 fun g3 o3 e3 => ?_)))
  replace o3 : IsPair g3 TO x b := o3
  refine wpAny_bind (wpAny_letGo (wpAny_pure (wpAny_bind (wpAny_bind (wpAny_onRaise ?_)))))
  show wpAny _ _ (zdraw st (.ref i2)) _ _ _
  refine zdraw_item (((k2.ext e1.extBut D.i2z).ext e2.extBut D.i12.symm).ext e3.extBut D.TOi2.symm) (((q2.ext e1.extBut D.l2z).ext e2.extBut D.l2i1).ext e3.extBut D.l2TO) hy fun g4 k2' e4 => ?_
  have o4 : IsPair g4 TO x b := e4.extBut _ _ D.TOi2 o3
  refine wpAny_bind (wpAny_seqItems o4 rfl (wpAny_bind (wpAny_updateSeq_pair o4 fun g5 o5 e5 => ?_)))
  replace o5 : IsPair g5 TO x y := o5
  refine wpAny_bind (wpAny_letGo (wpAny_pure (wpAny_pure ?_)))
  refine wpAny_bind (wpAny_seqItems o5 rfl (wpAny_bind (wpAny_newTuple ?_)))
  have sz : g5.objs.size = s.heap.objs.size := by rw [e5.1, e4.1, e3.1, e2.1, e1.1]
  have z5 : IsZ g5 z TI TO .ellipsis st := e5.extBut _ _ D.TOz.symm (e4.extBut _ _ D.i2z.symm (e3.extBut _ _ D.TOz.symm (e2.extBut _ _ D.i1z.symm z1)))
  have kp : ∀ c o, c ≠ z → c ≠ TO → c ≠ i1 → c ≠ i2 → s.heap.get? c = some o → g5.get? c = some o := fun c o u1 u2 u3 u4 e =>
    e5.extBut _ _ u2 (e4.extBut _ _ u4 (e3.extBut _ _ u2 (e2.extBut _ _ u3 (e1.extBut _ _ u1 e))))
  have k1e : ItK b1 g5 i1 l1 (n + 1) := ((k1'.ext e3.extBut D.TOi1.symm).ext e4.extBut D.i12).ext e5.extBut D.TOi1.symm
  have k2e : ItK b2 g5 i2 l2 (m + 1) := k2'.ext e5.extBut D.TOi2.symm
  have zl : z < g5.objs.size := Heap.lt_size z5
  show wpAny _ _ (Builtin.SmallTypes.ownedTupleHandOut (.ref z) (.ref g5.objs.size) >>= _) _ _ _
  refine wpAny_bind ?_
  unfold Builtin.SmallTypes.ownedTupleHandOut
  have z6 : IsZ (g5.push { cls := .type "tuple", data := .seq #[x, y] }) z TI TO .ellipsis st := Heap.get?_push_of_some _ z5
  refine wpAny_bind (wpAny_setField_rec z6 (by simp) fun g7 z7 e7 => ?_)
  replace z7 : IsZ g7 z TI TO (rawInt g5.objs.size) st := z7
  refine wpAny_setField_rec z7 (by simp) fun g8 z8 e8 => ?_
  replace z8 : IsZ g8 z TI TO (rawInt g5.objs.size) st := z8
  have up : ∀ c o, c ≠ z → g5.get? c = some o → g8.get? c = some o := fun c o u e => e8.extBut _ _ u (e7.extBut _ _ u (Heap.get?_push_of_some _ e))
  have t8 : IsPair g8 g5.objs.size x y := e8.extBut _ _ (Nat.ne_of_gt zl) (e7.extBut _ _ (Nat.ne_of_gt zl) (Heap.get?_push_size _ rfl))
  rw [sz] at z8 t8
  refine wpAny_pure ⟨_, rfl, ?_⟩
  show Q (.ref g5.objs.size) _
  rw [sz]
  exact go g8 z8 (up _ _ D.TOz o5) (k1e.at' fun o e => up _ o D.i1z e) (k2e.at' fun o e => up _ o D.i2z e) t8 fun c o u1 u2 u3 u4 e => up c o u1 (kp c o u1 u2 u3 u4 e)

theorem endK_stop {b : Bool} {i l : Addr} {n : Nat} {xs : Array Value} {Q : Value → Shared → Prop} (hh : A.handled = none) (k : ItK b s.heap i l n) (q : SqK b s.heap l xs) (hx : xs[n]? = none) {z TI TO : Addr} (hz : IsZ s.heap z TI TO .ellipsis false) (ne : i ≠ z)
    (go : ∀ h' e, (∀ c o, c ≠ z → c ≠ i → s.heap.get? c = some o → h'.get? c = some o) → (∃ o, h'.get? e = some o ∧ o.cls = .type "StopIteration") → E (.ref e) { s with heap := h' }) :
    wpAny (model P w) A (Builtin.SmallTypes.nextOf (.ref i)) Q (fun e s' => wpAny (model P w) A (setField (.ref z) 0 .none) (fun _ s'' => E e s'') E s') s := by
  refine endK hh k q hx fun h' e x ⟨o, ho, hc⟩ => ?_
  have hz' : IsZ h' z TI TO .ellipsis false := x _ _ ne.symm hz
  have ez : e ≠ z := fun u => by
    subst u
    rw [hz'] at ho
    cases ho
    simp at hc
  exact wpAny_setField_rec hz' (by simp) fun h3 _ y => go h3 e (fun c o u v t => y.extBut _ _ u (x _ _ v t)) ⟨o, y.extBut _ _ ez ho, hc⟩
theorem zipK_end {b1 b2 : Bool} {z TI TO i1 i2 l1 l2 : Addr} {n m : Nat} {xs ys : Array Value} {a b : Value} {Q : PySem.Fin → Shared → Prop} (hh : A.handled = none) (D : ZipApart z TI TO i1 i2 l1 l2) (hz : IsZ s.heap z TI TO .none false) (hT : IsPair s.heap TI (.ref i1) (.ref i2)) (hO : IsPair s.heap TO a b)
    (k1 : ItK b1 s.heap i1 l1 n) (k2 : ItK b2 s.heap i2 l2 m) (q1 : SqK b1 s.heap l1 xs) (q2 : SqK b2 s.heap l2 ys) (hend : xs[n]? = none ∨ ys[m]? = none)
    (go : ∀ h' e, (∀ c o, c ≠ z → c ≠ TO → c ≠ i1 → c ≠ i2 → s.heap.get? c = some o → h'.get? c = some o) → (∃ o, h'.get? e = some o ∧ o.cls = .type "StopIteration") → E (.ref e) { s with heap := h' }) :
    wpAny (model P w) A (Builtin.«zip.__next__» ⟨[.ref z], []⟩) Q E s := by
  show wpAny _ _ (field (.ref z) 2 >>= _) _ _ _
  refine wpAny_bind (wpAny_field hz rfl (x := .bool false) rfl ?_)
  show wpAny _ _ (field (.ref z) 3 >>= _) _ _ _
  refine wpAny_bind (wpAny_field hz rfl (x := .ref TI) rfl (wpAny_bind (wpAny_seqItems hT rfl ?_)))
  show wpAny _ _ (Builtin.SmallTypes.ownedTupleIsFree (.ref z) >>= _) _ _ _
  refine wpAny_bind ?_
  unfold Builtin.SmallTypes.ownedTupleIsFree
  refine wpAny_bind (wpAny_field hz rfl (x := .none) rfl (wpAny_pure ?_))
  rw [if_pos rfl]
  refine wpAny_bind (wpAny_rule (wpAny_bind (wpAny_field hz rfl (x := .ref TO) rfl (wpAny_bind (wpAny_setField_rec hz (by simp) fun g1 z1 e1 => ?_)))))
  replace z1 : IsZ g1 z TI TO .ellipsis false := z1
  refine wpAny_bind ?_
  simp only [List.zipIdx_cons, List.zipIdx_nil, List.forIn_cons, List.forIn_nil]
  refine wpAny_bind (wpAny_bind (wpAny_onRaise ?_))
  show wpAny _ _ (Builtin.SmallTypes.nextOf (.ref i1) >>= _) _ _ _
  have k1' := k1.ext e1.extBut D.i1z
  have q1' := q1.ext e1.extBut D.l1z
  cases hx : xs[n]? with
  | none => exact wpAny_bind (endK_stop hh k1' q1' hx z1 D.i1z fun h' e x he => go h' e (fun c o u1 u2 u3 u4 t => x c o u1 u3 (e1.extBut _ _ u1 t)) he)
  | some x =>
    have hy : ys[m]? = none := by
      rcases hend with h | h
      · rw [hx] at h; cases h
      · exact h
    refine wpAny_bind (nextK k1' q1' hx fun g2 k1'' e2 => wpAny_pure ?_)
    have o2 : IsPair g2 TO a b := e2.extBut _ _ D.TOi1 (e1.extBut _ _ D.TOz hO)
    refine wpAny_bind (wpAny_seqItems o2 rfl (wpAny_bind (wpAny_updateSeq_pair o2 fun g3 o3 e3 => ?_)))
    refine wpAny_bind (wpAny_letGo (wpAny_pure (wpAny_bind (wpAny_bind (wpAny_onRaise ?_)))))
    show wpAny _ _ (Builtin.SmallTypes.nextOf (.ref i2) >>= _) _ _ _
    have z3 : IsZ g3 z TI TO .ellipsis false := e3.extBut _ _ D.TOz.symm (e2.extBut _ _ D.i1z.symm z1)
    refine wpAny_bind (endK_stop hh (((k2.ext e1.extBut D.i2z).ext e2.extBut D.i12.symm).ext e3.extBut D.TOi2.symm) (((q2.ext e1.extBut D.l2z).ext e2.extBut D.l2i1).ext e3.extBut D.l2TO) hy z3 D.i2z fun h' e x he => ?_)
    exact go h' e (fun c o u1 u2 u3 u4 t => x c o u1 u4 (e3.extBut _ _ u2 (e2.extBut _ _ u3 (e1.extBut _ _ u1 t)))) he
/-- strict: both have come to their end -/
theorem zipS_end {b1 b2 : Bool} {z TI TO i1 i2 l1 l2 : Addr} {n m : Nat} {xs ys : Array Value} {a b : Value} {Q : PySem.Fin → Shared → Prop} (hh : A.handled = none) (D : ZipApart z TI TO i1 i2 l1 l2) (hz : IsZ s.heap z TI TO .none true) (hT : IsPair s.heap TI (.ref i1) (.ref i2)) (hO : IsPair s.heap TO a b)
    (k1 : ItK b1 s.heap i1 l1 n) (k2 : ItK b2 s.heap i2 l2 m) (q1 : SqK b1 s.heap l1 xs) (q2 : SqK b2 s.heap l2 ys) (hx : xs[n]? = none) (hy : ys[m]? = none)
    (go : ∀ h' e, (∀ c o, c ≠ z → c ≠ TO → c ≠ i1 → c ≠ i2 → s.heap.get? c = some o → h'.get? c = some o) → (∃ o, h'.get? e = some o ∧ o.cls = .type "StopIteration") → E (.ref e) { s with heap := h' }) :
    wpAny (model P w) A (Builtin.«zip.__next__» ⟨[.ref z], []⟩) Q E s := by
  show wpAny _ _ (field (.ref z) 2 >>= _) _ _ _
  refine wpAny_bind (wpAny_field hz rfl (x := .bool true) rfl ?_)
  show wpAny _ _ (field (.ref z) 3 >>= _) _ _ _
  refine wpAny_bind (wpAny_field hz rfl (x := .ref TI) rfl (wpAny_bind (wpAny_seqItems hT rfl ?_)))
  show wpAny _ _ (Builtin.SmallTypes.ownedTupleIsFree (.ref z) >>= _) _ _ _
  refine wpAny_bind ?_
  unfold Builtin.SmallTypes.ownedTupleIsFree
  refine wpAny_bind (wpAny_field hz rfl (x := .none) rfl (wpAny_pure ?_))
  rw [if_pos rfl]
  refine wpAny_bind (wpAny_rule (wpAny_bind (wpAny_field hz rfl (x := .ref TO) rfl (wpAny_bind (wpAny_setField_rec hz (by simp) fun g1 z1 e1 => ?_)))))
  replace z1 : IsZ g1 z TI TO .ellipsis true := z1
  refine wpAny_bind ?_
  simp only [List.zipIdx_cons, List.zipIdx_nil, List.forIn_cons, List.forIn_nil]
  refine wpAny_bind (wpAny_bind (wpAny_onRaise ?_))
  show wpAny _ _ (Builtin.SmallTypes.nextOrEnd (.ref i1)) _ _ _
  refine endE hh (k1.ext e1.extBut D.i1z) (q1.ext e1.extBut D.l1z) hx fun g2 e2 => ?_
  have z2 : IsZ g2 z TI TO .ellipsis true := e2 _ _ D.i1z.symm z1
  refine wpAny_bind (wpAny_setField_rec z2 (by simp) fun g3 z3 e3 => ?_)
  refine wpAny_bind (wpAny_bind ?_)
  apply wpAny_bind
  have z3' : IsZ g3 z TI TO .none true := z3
  show wpAny _ _ (Builtin.SmallTypes.nextOrEnd (.ref i2) >>= _) _ _ _
  refine wpAny_bind (endE hh (((k2.ext e1.extBut D.i2z).ext e2 D.i12.symm).ext e3.extBut D.i2z) (((q2.ext e1.extBut D.l2z).ext e2 D.l2i1).ext e3.extBut D.l2z) hy fun g4 e4 => ?_)
  show wpAny _ _ (if (false : Bool) = true then _ else pure _) _ _ _
  rw [if_neg Bool.false_ne_true]
  refine wpAny_pure ?_
  show wpAny _ _ (pure _) _ _ _
  refine wpAny_pure (wpAny_bind (wpAny_rule ?_))
  show wpAny _ _ (newExc (.type "StopIteration") [] >>= _) _ _ _
  refine wpAny_bind ?_
  simp only [newExc, newTuple]
  refine wpAny_bind (wpAny_newObj_type ?_ (by size_fits))
  refine wpAny_bind (m := firstArgMember _ _) (wpAny_of_eq (a := Value.none) (by first | rfl | (simp only [firstArgMember]; rfl)) ?_)
  refine wpAny_newObj_type ?_ (by size_fits)
  simp only [raiseNew]
  refine wpAny_bind (wpAny_handled ?_)
  rw [hh]
  refine wpAny_bind (wpAny_pure (wpAny_throw (go _ _ (fun c o u1 u2 u3 u4 t => Heap.get?_push_of_some _ (Heap.get?_push_of_some _ (e4 _ _ u4 (e3.extBut _ _ u1 (e2 _ _ u3 (e1.extBut _ _ u1 t)))))) ⟨_, Heap.get?_push_size _ rfl, rfl⟩)))

theorem nextZ {st b1 b2 : Bool} {z TI TO i1 i2 l1 l2 : Addr} {n m : Nat} {xs ys : Array Value} {x y a b : Value} {Q : Option Value → Shared → Prop} (D : ZipApart z TI TO i1 i2 l1 l2) (hz : IsZ s.heap z TI TO .none st) (hT : IsPair s.heap TI (.ref i1) (.ref i2)) (hO : IsPair s.heap TO a b)
    (k1 : ItK b1 s.heap i1 l1 n) (k2 : ItK b2 s.heap i2 l2 m) (q1 : SqK b1 s.heap l1 xs) (q2 : SqK b2 s.heap l2 ys) (hx : xs[n]? = some x) (hy : ys[m]? = some y)
    (go : ∀ h', IsZ h' z TI TO (rawInt s.heap.objs.size) st → IsPair h' TO x y → ItK b1 h' i1 l1 (n + 1) → ItK b2 h' i2 l2 (m + 1) → IsPair h' s.heap.objs.size x y →
      (∀ c o, c ≠ z → c ≠ TO → c ≠ i1 → c ≠ i2 → s.heap.get? c = some o → h'.get? c = some o) → Q (some (.ref s.heap.objs.size)) { s with heap := h' }) :
    wpAny (model P w) A (pyNext (.ref z)) Q E s := by
  have T : s.TypeIs (.ref z) "zip" := ⟨_, hz, rfl⟩
  unfold pyNext
  exact wpAny_bind (wpAny_attempt (wpAny_callSpecial?_slot (name := Str.ofString "__next__") T F.slot_zip_next (wpAny_call_entry F.slot_zip_next T F.entry_zip_next
    (zipK_item D hz hT hO k1 k2 q1 q2 hx hy fun h' a1 a2 a3 a4 a5 a6 => wpAny_pure (go h' a1 a2 a3 a4 a5 a6)) (F.args_zip_next_1 _))))
theorem endZ {st b1 b2 : Bool} {z TI TO i1 i2 l1 l2 : Addr} {n m : Nat} {xs ys : Array Value} {a b : Value} {Q : Option Value → Shared → Prop} (hh : A.handled = none) (D : ZipApart z TI TO i1 i2 l1 l2) (hz : IsZ s.heap z TI TO .none st) (hT : IsPair s.heap TI (.ref i1) (.ref i2)) (hO : IsPair s.heap TO a b)
    (k1 : ItK b1 s.heap i1 l1 n) (k2 : ItK b2 s.heap i2 l2 m) (q1 : SqK b1 s.heap l1 xs) (q2 : SqK b2 s.heap l2 ys) (hend : xs[n]? = none ∨ ys[m]? = none) (hst : st = true → xs[n]? = none ∧ ys[m]? = none)
    (go : ∀ h', (∀ c o, c ≠ z → c ≠ TO → c ≠ i1 → c ≠ i2 → s.heap.get? c = some o → h'.get? c = some o) → Q none { s with heap := h' }) : wpAny (model P w) A (pyNext (.ref z)) Q E s := by
  have T : s.TypeIs (.ref z) "zip" := ⟨_, hz, rfl⟩
  unfold pyNext
  refine wpAny_bind (wpAny_attempt (wpAny_callSpecial?_slot (name := Str.ofString "__next__") T F.slot_zip_next (wpAny_call_entry F.slot_zip_next T F.entry_zip_next ?_ (F.args_zip_next_1 _))))
  cases st with
  | true => exact zipS_end hh D hz hT hO k1 k2 q1 q2 (hst rfl).1 (hst rfl).2 fun h' e hk ⟨o, ho, hc⟩ => wpAny_bind (wpAny_isInstance (T := "StopIteration") (b := true) ⟨o, ho, hc⟩ isSubtype_stop (wpAny_pure (go _ hk)))
  | false => exact zipK_end hh D hz hT hO k1 k2 q1 q2 hend fun h' e hk ⟨o, ho, hc⟩ => wpAny_bind (wpAny_isInstance (T := "StopIteration") (b := true) ⟨o, ho, hc⟩ isSubtype_stop (wpAny_pure (go _ hk)))
theorem goZ {st : Bool} {elts : List Expr} {x1} {pos : Pos} {z TI TO T : Addr} {Q : Unit → Shared → Prop} (hz : IsZ s.heap z TI TO (rawInt T) st) (go : ∀ h', IsZ h' z TI TO .none st → Heap.SameBut z s.heap h' → Q () { s with heap := h' }) :
    wpAny (model P w) A (letOwnedTupleGo (.Tuple elts x1 pos) (.ref z) (.ref T)) Q E s := by
  unfold letOwnedTupleGo
  refine wpAny_bind (wpAny_load hz ?_)
  show wpAny _ _ (if (["enumerate", "zip", "dict_itemiterator", "dict_reverseitemiterator", "odict_iterator", "itertools.zip_longest", "itertools.pairwise"].contains "zip" && (#[rawInt T, .bool false, .bool st, .ref TI, .ref TO] : Array Value)[0]? == some (rawInt T)) = true then _ else _) Q E s
  rw [if_pos (by simp)]
  refine wpAny_bind (wpAny_rule ?_)
  show wpAny _ _ (setField (.ref z) 0 .none) Q E s
  exact wpAny_setField_rec hz (by simp) fun h' a b => go h' a b
theorem selfZ {st : Bool} {z TI TO : Addr} {f : Value} {Q : Value → Shared → Prop} (hz : IsZ s.heap z TI TO f st) (h : Q (.ref z) s) : wpAny (model P w) A (pyIter (.ref z)) Q E s := by
  have T : s.TypeIs (.ref z) "zip" := ⟨_, hz, rfl⟩
  refine wpAny_pyIter_slot T F.slot_zip_iter (wpAny_call_entry F.slot_zip_iter T F.entry_zip_iter ?_ (F.args_zip_iter_1 _))
  show wpAny _ _ (ret (.ref z)) _ _ s
  exact wpAny_pure ⟨_, rfl, "zip", _, T, F.slot_zip_next.lookup, h⟩

/-! the making -/
def itO (b : Bool) (l : Addr) : Obj := match b with
  | true => { cls := .type "list_iterator", data := .fields #[.ref l, .int 0 0] }
  | false => { cls := .type "tuple_iterator", data := .fields #[.ref l, .int 0 0] }
theorem iterK {b : Bool} {l : Addr} {xs : Array Value} {Q : Value → Shared → Prop} (q : SqK b s.heap l xs) (h : Q (.ref s.heap.objs.size) { s with heap := s.heap.push (itO b l) }) : wpAny (model P w) A (pyIter (.ref l)) Q E s := by
  cases b with
  | true => exact wpAny_pyIter_list q h
  | false => exact wpAny_pyIter_tuple q h
theorem SqK.push {b : Bool} {h : Heap} {l : Addr} {xs : Array Value} (q : SqK b h l xs) (o : Obj) : SqK b (h.push o) l xs := by
  cases b with
  | true => exact Heap.IsList.push q o
  | false => exact Heap.IsTuple.push q o
theorem itO_free (b : Bool) (l : Addr) : (itO b l).isFreed = false := by cases b <;> rfl
end
abbrev zh1 (h : Heap) (b1 : Bool) (l1 : Addr) : Heap := h.push (itO b1 l1)
abbrev zh2 (h : Heap) (b1 b2 : Bool) (l1 l2 : Addr) : Heap := (zh1 h b1 l1).push (itO b2 l2)
abbrev zh3 (h : Heap) (b1 b2 : Bool) (l1 l2 : Addr) : Heap := (zh2 h b1 b2 l1 l2).push { cls := .type "tuple", data := .seq #[.ref h.objs.size, .ref (zh1 h b1 l1).objs.size] }
abbrev zh4 (h : Heap) (b1 b2 : Bool) (l1 l2 : Addr) : Heap := (zh3 h b1 b2 l1 l2).push { cls := .type "tuple", data := .seq #[.none, .none] }
abbrev zh5 (h : Heap) (b1 b2 st : Bool) (l1 l2 : Addr) : Heap := (zh4 h b1 b2 l1 l2).push { cls := .type "zip", data := .fields #[.none, .bool false, .bool st, .ref (zh2 h b1 b2 l1 l2).objs.size, .ref (zh3 h b1 b2 l1 l2).objs.size] }
theorem meets_zipK (b1 b2 : Bool) (l1 l2 : Addr) (xs ys : Array Value) : Meets (Builtin.«zip.__new__» ⟨[.type "zip", .ref l1, .ref l2], []⟩) (fun _ R s => SqK b1 s.heap l1 xs ∧ SqK b2 s.heap l2 ys ∧ R (.ok (.ret (.ref (zh4 s.heap b1 b2 l1 l2).objs.size))) { s with heap := zh5 s.heap b1 b2 false l1 l2 }) :=
  .of_wp fun prog w A R s h => by
    obtain ⟨hp, g, d, tk, os⟩ := s
    obtain ⟨h1, h2, h⟩ := h
    have hsub := sub_zip
    have q1 : ∀ {A' : Around} {E : Value → Shared → Prop} {Q : Value → Shared → Prop}, Q (.ref hp.objs.size) ⟨hp.push (itO b1 l1), g, d, tk, os⟩ → wpAny (model prog w) A' (pyIter (.ref l1)) Q E ⟨hp, g, d, tk, os⟩ := fun q => iterK (s := ⟨hp, g, d, tk, os⟩) h1 q
    have q2 : ∀ {A' : Around} {E : Value → Shared → Prop} {Q : Value → Shared → Prop}, Q (.ref (hp.push (itO b1 l1)).objs.size) ⟨(hp.push (itO b1 l1)).push (itO b2 l2), g, d, tk, os⟩ → wpAny (model prog w) A' (pyIter (.ref l2)) Q E ⟨hp.push (itO b1 l1), g, d, tk, os⟩ := fun q => iterK (s := ⟨hp.push (itO b1 l1), g, d, tk, os⟩) (h2.push _) q
    wp_walk using q1, q2
    exact ⟨_, rfl, h⟩
theorem meets_zipS (b1 b2 : Bool) (l1 l2 : Addr) (xs ys : Array Value) (t : Tok) : Meets (Builtin.«zip.__new__» ⟨[.type "zip", .ref l1, .ref l2], [(Str.ofString "strict", .bool true)]⟩) (fun _ R s => SqK b1 s.heap l1 xs ∧ SqK b2 s.heap l2 ys ∧ R (.ok (.ret (.ref (zh4 s.heap b1 b2 l1 l2).objs.size))) { s with heap := zh5 s.heap b1 b2 true l1 l2 }) :=
  .of_wp fun prog w A R s h => by
    obtain ⟨hp, g, d, tk, os⟩ := s
    obtain ⟨h1, h2, h⟩ := h
    have hsub := sub_zip
    have q1 : ∀ {A' : Around} {E : Value → Shared → Prop} {Q : Value → Shared → Prop}, Q (.ref hp.objs.size) ⟨hp.push (itO b1 l1), g, d, tk, os⟩ → wpAny (model prog w) A' (pyIter (.ref l1)) Q E ⟨hp, g, d, tk, os⟩ := fun q => iterK (s := ⟨hp, g, d, tk, os⟩) h1 q
    have q2 : ∀ {A' : Around} {E : Value → Shared → Prop} {Q : Value → Shared → Prop}, Q (.ref (hp.push (itO b1 l1)).objs.size) ⟨(hp.push (itO b1 l1)).push (itO b2 l2), g, d, tk, os⟩ → wpAny (model prog w) A' (pyIter (.ref l2)) Q E ⟨hp.push (itO b1 l1), g, d, tk, os⟩ := fun q => iterK (s := ⟨hp.push (itO b1 l1), g, d, tk, os⟩) (h2.push _) q
    have e1 : (Str.ofString "strict" != ("strict" : Str)) = false := by decide +kernel
    wp_walk using q1, q2
    exact ⟨_, rfl, h⟩
end BA

/-! BA42: zip of a list and a tuple, zip(.., strict=True): the walks -/
namespace BA
open PySem PySem.Spec
open PyProof.Rows
open L2 hiding St

/-- a list or a tuple as it stands -/
def SqV (K : PySem.W.Frag) (b : Bool) (H : Hp) (a : Addr) (xs : List V) : Prop := match b with
  | true => SqL K H a xs
  | false => SqT K H a xs
/-- both walked by turns; strict: both end at once -/
def ItZ (K : PySem.W.Frag) (st b1 b2 : Bool) (a b : Addr) : It :=
  ⟨fun i H => ∃ (xs ys : List V) (x y : V), SqV K b1 H a xs ∧ SqV K b2 H b ys ∧ xs[i]? = some x ∧ ys[i]? = some y,
    fun i H v H' => ∃ T x y, v = .ref T ∧ H T = none ∧ H' = upd H T (.tup [x, y]) ∧ (∀ xs, SqV K b1 H a xs → xs[i]? = some x) ∧ ∀ ys, SqV K b2 H b ys → ys[i]? = some y,
    fun i H => ∃ xs ys : List V, SqV K b1 H a xs ∧ SqV K b2 H b ys ∧ (xs.length ≤ i ∨ ys.length ≤ i) ∧ (st = true → xs.length ≤ i ∧ ys.length ≤ i)⟩
section
variable {X : Cx} {pins : List (Addr × Obj)} {σ : L2.St} {H : Hp} {s : Shared}
theorem Inv.sqV {b : Bool} {a : Addr} {xs : List V} (I : Inv X pins σ H s) (h : SqV X.K b H a xs) : ∃ its : List Value, Vals xs its ∧ SqK b s.heap a its.toArray := by
  cases b with
  | true =>
    obtain ⟨its, r, p, _⟩ := I.list h
    exact ⟨its, r, p.isList⟩
  | false =>
    obtain ⟨its, r, p, _⟩ := I.tuple h
    exact ⟨its, r, p⟩
theorem Inv.sqV_inj {b : Bool} {a : Addr} {xs ys : List V} (I : Inv X pins σ H s) (h : SqV X.K b H a xs) (h2 : SqV X.K b H a ys) : xs = ys := by
  cases b with
  | true => exact I.list_inj h h2
  | false => exact I.tuple_inj h h2
theorem SqK.lt {b : Bool} {h : Heap} {a : Addr} {xs : Array Value} (q : SqK b h a xs) : a < h.objs.size := by
  cases b with
  | true => obtain ⟨o, e, _⟩ := q; exact Heap.lt_size e
  | false => obtain ⟨o, e, _⟩ := q; exact Heap.lt_size e
end
def zS (st b1 b2 : Bool) (a b z TI TO i1 i2 : Addr) (i : Nat) (h : Heap) : Prop := IsZ h z TI TO .none st ∧ IsPair h TI (.ref i1) (.ref i2) ∧ (∃ x y, IsPair h TO x y) ∧ ItK b1 h i1 a i ∧ ItK b2 h i2 b i
theorem in5 {c z TI TO i1 i2 : Addr} (h : c ∈ [z, TI, TO, i1, i2]) : c = z ∨ c = TI ∨ c = TO ∨ c = i1 ∨ c = i2 := by simpa using h
theorem turnZ {P : Program} {w : World} {K : PySem.W.Frag} {elts : List Expr} {kk : Nat} {tpos : Pos} {st b1 b2 : Bool} {a b z TI TO i1 i2 : Addr} (D : ZipApart z TI TO i1 i2 a b) :
    Turn P w K (.Tuple elts kk tpos) (ItZ K st b1 b2 a b) [z, TI, TO, i1, i2] z (zS st b1 b2 a b z TI TO i1 i2) where
  mem := List.mem_cons_self
  obj := fun i h q c hc => by
    obtain ⟨hz, hT, ⟨x, y, hO⟩, k1, k2⟩ := q
    rcases in5 hc with e | e | e | e | e <;> subst e
    · exact ⟨_, hz, fun v q => by cases q⟩
    · exact ⟨_, hT, fun v q => by cases q⟩
    · exact ⟨_, hO, fun v q => by cases q⟩
    · obtain ⟨o, e1, d⟩ := k1.obj; exact ⟨o, e1, fun v q => by rw [d] at q; cases q⟩
    · obtain ⟨o, e1, d⟩ := k2.obj; exact ⟨o, e1, fun v q => by rw [d] at q; cases q⟩
  keep := fun i h h' q k => by
    obtain ⟨hz, hT, ⟨x, y, hO⟩, k1, k2⟩ := q
    exact ⟨k _ (by simp) _ hz, k _ (by simp) _ hT, ⟨x, y, k _ (by simp) _ hO⟩, k1.at' (k _ (by simp)), k2.at' (k _ (by simp))⟩
  item := by
    intro X hP hw hK hc i pins s σ H E I hf q hg
    subst hP hw hK
    obtain ⟨hz, hT, ⟨x0, y0, hO⟩, k1, k2⟩ := q
    obtain ⟨xs, ys, x, y, hqx, hqy, hx, hy⟩ := hg
    obtain ⟨its, rv, p⟩ := Inv.sqV I hqx
    obtain ⟨its2, rv2, p2⟩ := Inv.sqV I hqy
    obtain ⟨u, hu, ru⟩ := rv.get hx
    obtain ⟨u2, hu2, ru2⟩ := rv2.get hy
    have zl : z < s.heap.objs.size := Heap.lt_size hz
    refine nextZ D hz hT hO k1 k2 p p2 (x := u) (y := u2) (by simpa using hu) (by simpa using hu2) fun h' z' O' k1' k2' T' kp => ?_
    refine ⟨_, rfl, goZ (s := { s with heap := h' }) z' fun g z2 sb => ?_⟩
    have T2 : g.get? s.heap.objs.size = some { cls := .type "tuple", data := .seq #[u, u2] } := (sb.2 _ (Nat.ne_of_gt zl)).trans T'
    have new : ObjOk X.prog X.w (upd H s.heap.objs.size (.tup [x, y])) g s.heap.objs.size (.tup [x, y]) := ⟨by show 2 ≤ sizeLine; decide, [u, u2], .cons ru (.cons ru2 .nil), ⟨_, T2, rfl, _, rfl⟩⟩
    have I1 : Inv X pins σ (upd H s.heap.objs.size (.tup [x, y])) { s with heap := g } :=
      I.turnedNew (t' := s.toks) (ch := [z, TI, TO, i1, i2]) (fun c o hb e => by
        have nz : c ≠ z := fun q' => hb (by rw [q']; simp)
        exact (sb.2 c nz).trans (kp c o nz (fun q' => hb (by rw [q']; simp)) (fun q' => hb (by rw [q']; simp)) (fun q' => hb (by rw [q']; simp)) e)) hf (Nat.le_refl _) new
    refine ⟨.ref s.heap.objs.size, _, I1, rfl, ⟨_, x, y, rfl, I.hok.fresh (Nat.le_refl _), rfl, fun l hl => by rw [Inv.sqV_inj I hl hqx]; exact hx, fun l hl => by rw [Inv.sqV_inj I hl hqy]; exact hy⟩,
      ⟨z2, (sb.2 _ D.TIz).trans (kp _ _ D.TIz D.TITO D.TIi1 D.TIi2 hT), ⟨u, u2, (sb.2 _ D.TOz).trans O'⟩, k1'.at' fun o e => (sb.2 _ D.i1z).trans e, k2'.at' fun o e => (sb.2 _ D.i2z).trans e⟩, fun c hcm => ?_⟩
    have hlt : c < s.heap.objs.size := by
      rcases in5 hcm with e | e | e | e | e <;> subst e
      · exact zl
      · exact Heap.lt_size hT
      · exact Heap.lt_size hO
      · obtain ⟨_, e1, _⟩ := k1.obj; exact Heap.lt_size e1
      · obtain ⟨_, e1, _⟩ := k2.obj; exact Heap.lt_size e1
    rw [upd_ne (Nat.ne_of_lt hlt)]
    exact (hf c hcm).1
  done := by
    intro X hP hw hK hc i pins s σ H E I hf q hg
    subst hP hw hK
    obtain ⟨hz, hT, ⟨x0, y0, hO⟩, k1, k2⟩ := q
    obtain ⟨xs, ys, hqx, hqy, hend, hst⟩ := hg
    obtain ⟨its, rv, p⟩ := Inv.sqV I hqx
    obtain ⟨its2, rv2, p2⟩ := Inv.sqV I hqy
    have n1 := rv.length
    have n2 := rv2.length
    have o1 : xs.length ≤ i → its.toArray[i]? = none := fun q => by simp; omega
    have o2 : ys.length ≤ i → its2.toArray[i]? = none := fun q => by simp; omega
    exact endZ (I.ok.hd hc) D hz hT hO k1 k2 p p2 (hend.imp o1 o2) (fun e => ⟨o1 (hst e).1, o2 (hst e).2⟩) fun h' kp => ⟨rfl, I.turnedL (t' := s.toks) (ch := [z, TI, TO, i1, i2]) (fun c o hb e =>
      kp c o (fun q' => hb (by rw [q']; simp)) (fun q' => hb (by rw [q']; simp)) (fun q' => hb (by rw [q']; simp)) (fun q' => hb (by rw [q']; simp)) e) hf⟩
  self := fun A i s Q E q h => selfZ q.1 h

section
variable {prog : Program} {w : World} {A : Around} {E : Value → Shared → Prop} {s : Shared}
theorem zh_facts (h : Heap) (b1 b2 st : Bool) (l1 l2 : Addr) : zS st b1 b2 l1 l2 (h.objs.size + 4) (h.objs.size + 2) (h.objs.size + 3) h.objs.size (h.objs.size + 1) 0 (zh5 h b1 b2 st l1 l2) ∧ (zh4 h b1 b2 l1 l2).objs.size = h.objs.size + 4 ∧ ∀ c o, h.get? c = some o → (zh5 h b1 b2 st l1 l2).get? c = some o := by
  have s1 : (zh1 h b1 l1).objs.size = h.objs.size + 1 := Heap.size_push ..
  have s2 : (zh2 h b1 b2 l1 l2).objs.size = h.objs.size + 2 := by rw [Heap.size_push, s1]
  have s3 : (zh3 h b1 b2 l1 l2).objs.size = h.objs.size + 3 := by rw [Heap.size_push, s2]
  have s4 : (zh4 h b1 b2 l1 l2).objs.size = h.objs.size + 4 := by rw [Heap.size_push, s3]
  have g5 : (zh5 h b1 b2 st l1 l2).get? (zh4 h b1 b2 l1 l2).objs.size = some _ := Heap.get?_push_size _ rfl
  have g4 : (zh5 h b1 b2 st l1 l2).get? (zh3 h b1 b2 l1 l2).objs.size = some _ := Heap.get?_push_of_some _ (Heap.get?_push_size _ rfl)
  have g3 : (zh5 h b1 b2 st l1 l2).get? (zh2 h b1 b2 l1 l2).objs.size = some _ := Heap.get?_push_of_some _ (Heap.get?_push_of_some _ (Heap.get?_push_size _ rfl))
  have g2 : (zh5 h b1 b2 st l1 l2).get? (zh1 h b1 l1).objs.size = some (itO b2 l2) := Heap.get?_push_of_some _ (Heap.get?_push_of_some _ (Heap.get?_push_of_some _ (Heap.get?_push_size _ (itO_free _ _))))
  have g1 : (zh5 h b1 b2 st l1 l2).get? h.objs.size = some (itO b1 l1) := Heap.get?_push_of_some _ (Heap.get?_push_of_some _ (Heap.get?_push_of_some _ (Heap.get?_push_of_some _ (Heap.get?_push_size _ (itO_free _ _)))))
  rw [s4, s2, s3] at g5
  rw [s2, s1] at g3
  rw [s3] at g4
  rw [s1] at g2
  have it : ∀ {b : Bool} {i l : Addr} {g : Heap}, g.get? i = some (itO b l) → ItK b g i l 0 := fun {b i l g} e => by
    cases b with
    | true => exact ⟨_, e, rfl, rfl⟩
    | false => exact ⟨_, e, rfl, rfl⟩
  exact ⟨⟨g5, g3, ⟨_, _, g4⟩, it g1, it g2⟩, s4, fun c o x => Heap.get?_push_of_some _ (Heap.get?_push_of_some _ (Heap.get?_push_of_some _ (Heap.get?_push_of_some _ (Heap.get?_push_of_some _ x))))⟩
theorem call_zipK {b1 b2 : Bool} {l1 l2 : Addr} {xs ys : Array Value} {Q : Value → Shared → Prop} (q1 : SqK b1 s.heap l1 xs) (q2 : SqK b2 s.heap l2 ys)
    (h : ∀ h', zS false b1 b2 l1 l2 (s.heap.objs.size + 4) (s.heap.objs.size + 2) (s.heap.objs.size + 3) s.heap.objs.size (s.heap.objs.size + 1) 0 h' → (∀ c o, s.heap.get? c = some o → h'.get? c = some o) → Q (.ref (s.heap.objs.size + 4)) { s with heap := h' }) :
    wpAny (model prog w) A (call (.type "zip") [.ref l1, .ref l2]) Q E s := by
  obtain ⟨f1, f2, f3⟩ := zh_facts s.heap b1 b2 false l1 l2
  refine callType_new F.called_zip (by decide) (F.typeCall_zip_2 _ _) (F.newCall_zip_2 _ _) (fun obj => F.args_object_init_3 obj _ _) F.entry_zip_new (meets_zipK b1 b2 l1 l2 xs ys) ⟨q1, q2, ?_⟩
  rw [f2]
  exact ⟨⟨_, f1.1, rfl⟩, h _ f1 f3⟩
theorem typeCall_zipS (a b c : Value) : checkTypeCall "zip" ⟨[a, b], [(Str.ofString "strict", c)]⟩ = pure () := by kernel_rfl
theorem newCall_zipS (a b c : Value) : checkBuiltinCall "zip.__new__" ⟨[.type "zip", a, b], [(Str.ofString "strict", c)]⟩ = pure () := by kernel_rfl
theorem args_initS (obj a b c : Value) : argsOk "object.__init__" ⟨[obj, a, b], [(Str.ofString "strict", c)]⟩ := by unfold argsOk; kernel_rfl
theorem call_zipS {b1 b2 : Bool} {l1 l2 : Addr} {xs ys : Array Value} {Q : Value → Shared → Prop} (q1 : SqK b1 s.heap l1 xs) (q2 : SqK b2 s.heap l2 ys)
    (h : ∀ h', zS true b1 b2 l1 l2 (s.heap.objs.size + 4) (s.heap.objs.size + 2) (s.heap.objs.size + 3) s.heap.objs.size (s.heap.objs.size + 1) 0 h' → (∀ c o, s.heap.get? c = some o → h'.get? c = some o) → Q (.ref (s.heap.objs.size + 4)) { s with heap := h' }) :
    wpAny (model prog w) A (call (.type "zip") [.ref l1, .ref l2] [(Str.ofString "strict", .bool true)]) Q E s := by
  obtain ⟨f1, f2, f3⟩ := zh_facts s.heap b1 b2 true l1 l2
  refine callType_newKw F.called_zip (by decide) (typeCall_zipS _ _ _) (newCall_zipS _ _ _) (fun obj => args_initS obj _ _ _) F.entry_zip_new (meets_zipS b1 b2 l1 l2 xs ys 0) ⟨q1, q2, ?_⟩
  rw [f2]
  exact ⟨⟨_, f1.1, rfl⟩, h _ f1 f3⟩
end
section
variable {X : Cx} {pins : List (Addr × Obj)} {σ : L2.St} {H : Hp} {s : Shared}
/-- the walk stands -/
theorem pieZ {R : It → Hp → Prop} {st b1 b2 : Bool} {a b : Addr} {elts : List Expr} {kk : Nat} {tpos : Pos} {h' : Heap} (I : Inv X pins σ H s) (la : a < s.heap.objs.size) (lb : b < s.heap.objs.size)
    (q : zS st b1 b2 a b (s.heap.objs.size + 4) (s.heap.objs.size + 2) (s.heap.objs.size + 3) s.heap.objs.size (s.heap.objs.size + 1) 0 h') (kp : ∀ c o, s.heap.get? c = some o → h'.get? c = some o) (r : R (ItZ X.K st b1 b2 a b) H) :
    PIE X pins σ (.Tuple elts kk tpos) R (.ref (s.heap.objs.size + 4)) { s with heap := h' } := by
  have I2 : Inv X pins σ H { s with heap := h' } := I.kept (t' := s.toks) kp
  refine ⟨s.heap.objs.size + 4, _, _, _, H, rfl, I2, turnZ (PySem.W.ktu_apart s.heap.objs.size a b la lb), q, fun c hcm => ?_, r⟩
  have hle : s.heap.objs.size ≤ c := by rcases in5 hcm with z | z | z | z | z <;> rw [z] <;> first | exact Nat.le_add_right _ _ | exact Nat.le_refl _
  exact I.fpOk hle (I.hok.fresh hle)
theorem vals_refs {a b : Addr} {us : List Value} (r : Vals [.ref a, .ref b] us) : us = [.ref a, .ref b] := by
  cases r with
  | cons r rr =>
    cases rr with
    | cons r' rr =>
      cases rr
      cases r
      cases r'
      rfl
def iZipM (K : PySem.W.Frag) (st : Bool) (ta : TA) : TI := fun σ H R => ta σ H fun vs H1 => ∃ b1 b2 a b xs ys, vs = [.ref a, .ref b] ∧ SqV K b1 H1 a xs ∧ SqV K b2 H1 b ys ∧ R (ItZ K st b1 b2 a b) H1
theorem pi_zipM {e e2 : Expr} {ta : TA} {p pos tpos : Pos} {elts : List Expr} {kk : Nat} (hg : Gl X "zip") (hm : X.mg "zip" = none) (ha : PA X [e, e2] ta) (hs : starEach [e, e2] X.env = (false, eval e X.env) :: starEach [e2] X.env) (hpl : (backTo pos (starEach [e2] X.env)).any (·.1) = false) :
    PI X (.Tuple elts kk tpos) (.Call (.Name "zip" p) [e, e2] [] pos) (iZipM X.K false ta) := by
  refine ⟨fun pins s σ H R I h => ?_⟩
  refine Call_ (ld_blt I hg hm PyProof.Rows.boot_zip (PyProof.Rows.callWith_type1 (thn (ha.run pos pins s σ H _ I h) fun us s1 ⟨vs, H1, I1, r1, b1, b2, a, b, xs, ys, ex, hqx, hqy, q⟩ => ?_) hs hpl))
  subst ex
  rw [vals_refs r1]
  obtain ⟨its, rv, p1⟩ := Inv.sqV I1 hqx
  obtain ⟨its2, rv2, p2⟩ := Inv.sqV I1 hqy
  exact call_zipK p1 p2 fun h' z kp => selfZ z.1 (pieZ I1 p1.lt p2.lt z kp q)
theorem cw_typeKw {M : Model} {A : Around} {E : Value → Shared → Prop} {s : Shared} {pos : Pos} {T : String} {first : List Value} {args : List (Bool × Sem Value)} {keywords : List (Option Str × Sem Value)} {Q : Value → Shared → Prop} (hplain : args.any (·.1) = false) (hkw : keywords.any (·.1.isNone) = false)
    (h : wpAny M A (evalArgs (.type T) true args keywords) (fun a s₁ => wpAny M A (call (.type T) (first ++ a.pos) a.kw) Q E s₁) E s) : wpAny M A (callWith pos (.type T) first args keywords) Q E s := by
  unfold callWith
  refine wpAny_bind (wpAny_holding (wpAny_mono h (fun a s₁ k => wpAny_bind (wpAny_standAt ?_)) fun _ _ x => x))
  simp only [hplain, hkw, Bool.or_false]
  exact wpAny_bind (wpAny_pure (wpAny_bind (wpAny_mono k (fun r s₂ hr => wpAny_bind (wpAny_holding (wpAny_point (wpAny_pure hr)))) fun _ _ x => x)))
theorem pi_zipS {e e2 : Expr} {ta : TA} {p pos tpos p3 kp : Pos} {elts : List Expr} {kk j : Nat} (hg : Gl X "zip") (hm : X.mg "zip" = none) (ha : PA X [e, e2] ta) (hs : starEach [e, e2] X.env = (false, eval e X.env) :: starEach [e2] X.env) (hpl : (backTo pos (starEach [e2] X.env)).any (·.1) = false) :
    PI X (.Tuple elts kk tpos) (.Call (.Name "zip" p) [e, e2] [⟨some "strict", .Constant (.bool true) j p3, kp⟩] pos) (iZipM X.K true ta) := by
  refine ⟨fun pins s σ H R I h => ?_⟩
  refine wpAny_Call_Name_kw (ld_blt I hg hm PyProof.Rows.boot_zip ?_)
  have hp2 : (backTo pos (starEach [e, e2] X.env)).any (·.1) = false := by
    rw [hs]
    show (false || (backTo pos (starEach [e2] X.env)).any (·.1)) = false
    rw [hpl]
    rfl
  refine cw_typeKw hp2 rfl ?_
  refine evalArgs_kw2 rfl (thn (ha.run pos pins s σ H _ I h) fun us s1 ⟨vs, H1, I1, r1, b1, b2, a, b, xs, ys, ex, hqx, hqy, q⟩ => ?_) hs
  refine kws_cons (Constant_bool (kws_nil ?_))
  subst ex
  rw [vals_refs r1]
  obtain ⟨its, rv, p1⟩ := Inv.sqV I1 hqx
  obtain ⟨its2, rv2, p2⟩ := Inv.sqV I1 hqy
  exact call_zipS p1 p2 fun h' z kp => selfZ z.1 (pieZ I1 p1.lt p2.lt z kp q)
end
end BA

/-! BA7: walks over data, comprehensions -/
namespace BA
open PySem PySem.Spec
open PyProof.Rows
open L2 hiding St

/-- the items that a walk yields are data; P: what may change meanwhile -/
structure Yl (P F : Addr → Prop) (H1 : Hp) (J : It) (ds : List D) : Prop where
  sz : ds.length ≤ sizeLine
  go : ∀ i, i < ds.length → ∀ H, Pres P H1 H → J.go i H
  yld : ∀ i d, ds[i]? = some d → ∀ (F' : Addr → Prop) H x H', Pres P H1 H → Pres F H1 H → (∀ a, H1 a ≠ none → F' a → F a) → Live F' H → J.yld i H x H' → Grow H H' ∧ Rp F' H' x d
  stop : ∀ H, Pres P H1 H → J.stop ds.length H
theorem Rp.late {F F' : Addr → Prop} {H1 H : Hp} {v : V} {d : D} (r : Rp F H1 v d) (g : Pres F H1 H) (m : ∀ a, H1 a ≠ none → F' a → F a) : Rp F' H v d := by
  have r2 : Rp (fun a => F a ∨ F' a) H1 v d := r.move fun a n q => q.elim (fun q => q) (m a n)
  exact (r2.pres (g.mono fun a q => .inl q)).move fun a _ q => .inr q
def tI (G : Gx) (W : Nat → Kd) (st : Bool) (m : Es) : TI := fun σ H R => ∃ F S ρ s, Ok G W F S σ H ρ s ∧
  post (m G.C ρ) (fun ds s' => ∀ J H', Pres (inS S) H H' → SrcOk S H' s' → Yl (if st = true then F else inS S) F H' J ds → R J H') s

theorem yl_list {P F : Addr → Prop} {H1 : Hp} {K : PySem.W.Frag} {a : Addr} {xs : List V} {ds : List D} (h : H1 a = some (.lst xs)) (n : ¬ P a) (z : xs.length ≤ sizeLine) (r : Rps F H1 xs ds) : Yl P F H1 (Itl K a) ds := by
  refine ⟨by rw [← r.len]; exact z, fun i hi H g => ?_, fun i d hd F' H x H' g gf m l y => ?_, fun H g => ⟨xs, SqL.of (g _ _ n h), Nat.le_of_eq r.len⟩⟩
  · obtain ⟨v, hv, _⟩ := r.get (List.getElem?_eq_getElem hi)
    exact ⟨xs, v, SqL.of (g _ _ n h), hv⟩
  · obtain ⟨v, hv, hr⟩ := r.get hd
    obtain ⟨e, y⟩ := y
    subst e
    have e2 := y xs (SqL.of (g _ _ n h))
    rw [hv] at e2
    cases e2
    exact ⟨.refl _, hr.late gf m⟩
theorem yl_tup {P F : Addr → Prop} {H1 : Hp} {K : PySem.W.Frag} {a : Addr} {xs : List V} {ds : List D} (h : H1 a = some (.tup xs)) (n : ¬ P a) (z : xs.length ≤ sizeLine) (r : Rps F H1 xs ds) : Yl P F H1 (Itt K a) ds := by
  refine ⟨by rw [← r.len]; exact z, fun i hi H g => ?_, fun i d hd F' H x H' g gf m l y => ?_, fun H g => ⟨xs, SqT.of (g _ _ n h), Nat.le_of_eq r.len⟩⟩
  · obtain ⟨v, hv, _⟩ := r.get (List.getElem?_eq_getElem hi)
    exact ⟨xs, v, SqT.of (g _ _ n h), hv⟩
  · obtain ⟨v, hv, hr⟩ := r.get hd
    obtain ⟨e, y⟩ := y
    subst e
    have e2 := y xs (SqT.of (g _ _ n h))
    rw [hv] at e2
    cases e2
    exact ⟨.refl _, hr.late gf m⟩
theorem numbered_len : ∀ (xs : List D) (k : Int), (numbered k xs).length = xs.length
  | [], _ => rfl
  | _ :: r, k => congrArg (· + 1) (numbered_len r (k + 1))
theorem numbered_get : ∀ (xs : List D) (k : Int) (i : Nat), (numbered k xs)[i]? = (xs[i]?).map fun x => .tuple [.int (k + i), x]
  | [], _, _ => by simp [numbered]
  | x :: r, k, 0 => by simp [numbered]
  | x :: r, k, i + 1 => by
    simp only [numbered, List.getElem?_cons_succ]
    rw [numbered_get r (k + 1) i]
    congr 1
    funext y
    rw [show k + 1 + (i : Int) = k + ((i + 1 : Nat) : Int) by omega]
theorem pair_rp {F' : Addr → Prop} {H : Hp} {T : Addr} {v w : V} {d e : D} (l : Live F' H) (hT : H T = none) (r : Rp F' H v d) (r2 : Rp F' H w e) : Rp F' (upd H T (.tup [v, w])) (.ref T) (.tuple [d, e]) :=
  .newT l hT (by show 2 ≤ sizeLine; decide) (.cons r (.cons r2 .nil))
theorem yl_enumL {P F : Addr → Prop} {H1 : Hp} {K : PySem.W.Frag} {a : Addr} {xs : List V} {ds : List D} (h : H1 a = some (.lst xs)) (n : ¬ P a) (z : xs.length ≤ sizeLine) (r : Rps F H1 xs ds) : Yl P F H1 (Ite K a) (numbered 0 ds) := by
  refine ⟨by rw [numbered_len, ← r.len]; exact z, fun i hi H g => ?_, fun i d hd F' H x H' g gf m l y => ?_, fun H g => ⟨xs, SqL.of (g _ _ n h), Nat.le_of_eq (by rw [numbered_len]; exact r.len)⟩⟩
  · rw [numbered_len] at hi
    obtain ⟨v, hv, _⟩ := r.get (List.getElem?_eq_getElem hi)
    exact ⟨xs, v, SqL.of (g _ _ n h), hv⟩
  · rw [numbered_get, Option.map_eq_some_iff] at hd
    obtain ⟨e, he, rfl⟩ := hd
    obtain ⟨v, hv, hr⟩ := r.get he
    obtain ⟨T, w, rfl, hT, rfl, y⟩ := y
    have e2 := y xs (SqL.of (g _ _ n h))
    rw [hv] at e2
    cases e2
    rw [Int.zero_add]
    exact ⟨.new hT, pair_rp l hT (.int _) (hr.late gf m)⟩
theorem yl_enumT {P F : Addr → Prop} {H1 : Hp} {K : PySem.W.Frag} {a : Addr} {xs : List V} {ds : List D} (h : H1 a = some (.tup xs)) (n : ¬ P a) (z : xs.length ≤ sizeLine) (r : Rps F H1 xs ds) : Yl P F H1 (IteT K a) (numbered 0 ds) := by
  refine ⟨by rw [numbered_len, ← r.len]; exact z, fun i hi H g => ?_, fun i d hd F' H x H' g gf m l y => ?_, fun H g => ⟨xs, SqT.of (g _ _ n h), Nat.le_of_eq (by rw [numbered_len]; exact r.len)⟩⟩
  · rw [numbered_len] at hi
    obtain ⟨v, hv, _⟩ := r.get (List.getElem?_eq_getElem hi)
    exact ⟨xs, v, SqT.of (g _ _ n h), hv⟩
  · rw [numbered_get, Option.map_eq_some_iff] at hd
    obtain ⟨e, he, rfl⟩ := hd
    obtain ⟨v, hv, hr⟩ := r.get he
    obtain ⟨T, w, rfl, hT, rfl, y⟩ := y
    have e2 := y xs (SqT.of (g _ _ n h))
    rw [hv] at e2
    cases e2
    rw [Int.zero_add]
    exact ⟨.new hT, pair_rp l hT (.int _) (hr.late gf m)⟩
theorem yl_range {P F : Addr → Prop} {H1 : Hp} {lo : Int} {n : Nat} (z : n ≤ sizeLine) : Yl P F H1 (Itr lo n) ((List.range n).map fun (i : Nat) => PyData.int (lo + i)) := by
  refine ⟨by rw [List.length_map, List.length_range]; exact z, fun i hi H g => by rw [List.length_map, List.length_range] at hi; exact hi, fun i d hd F' H x H' g gf m l y => ?_, fun H g => by rw [List.length_map, List.length_range]; exact Nat.le_refl _⟩
  obtain ⟨rfl, rfl⟩ := y
  rw [List.getElem?_map] at hd
  by_cases hi : i < n
  · rw [List.getElem?_range hi] at hd
    cases hd
    exact ⟨.refl _, .int _⟩
  · rw [List.getElem?_eq_none (by rw [List.length_range]; omega)] at hd
    cases hd
theorem paired_get : ∀ (xs ys : List D) (i : Nat) (d : D), (paired xs ys)[i]? = some d → ∃ x y, xs[i]? = some x ∧ ys[i]? = some y ∧ d = .tuple [x, y]
  | x :: xs, y :: ys, 0, d, h => by
    simp [paired] at h
    exact ⟨x, y, rfl, rfl, h.symm⟩
  | x :: xs, y :: ys, i + 1, d, h => by
    simp only [paired, List.getElem?_cons_succ] at h
    obtain ⟨a, b, h1, h2, h3⟩ := paired_get xs ys i d h
    exact ⟨a, b, by simpa using h1, by simpa using h2, h3⟩
  | [], _, _, _, h => by simp [paired] at h
  | _ :: _, [], _, _, h => by simp [paired] at h
theorem paired_len : ∀ (xs ys : List D), (paired xs ys).length = min xs.length ys.length
  | x :: xs, y :: ys => by
    show (paired xs ys).length + 1 = _
    rw [paired_len xs ys]
    simp only [List.length_cons]
    omega
  | [], _ => by simp [paired]
  | _ :: _, [] => by simp [paired]
/-- a walked list or tuple -/
def SqH (b : Bool) (xs : List V) : HO := match b with
  | true => .lst xs
  | false => .tup xs
theorem SqV.of {K : PySem.W.Frag} {b : Bool} {H : Hp} {a : Addr} {xs : List V} (h : H a = some (SqH b xs)) : SqV K b H a xs := by
  cases b with
  | true => exact SqL.of h
  | false => exact SqT.of h
theorem yl_zipZ {P F : Addr → Prop} {H1 : Hp} {K : PySem.W.Frag} {st b1 b2 : Bool} {a b : Addr} {xs ys : List V} {ds es : List D} (h : H1 a = some (SqH b1 xs)) (h2 : H1 b = some (SqH b2 ys)) (n : ¬ P a) (n2 : ¬ P b) (z : xs.length ≤ sizeLine) (r : Rps F H1 xs ds) (r2 : Rps F H1 ys es) (hst : st = true → ds.length = es.length) :
    Yl P F H1 (ItZ K st b1 b2 a b) (paired ds es) := by
  have hl := r.len
  have hl2 := r2.len
  refine ⟨by rw [paired_len]; omega, fun i hi H g => ?_, fun i d hd F' H x H' g gf m l y => ?_, fun H g => ⟨xs, ys, SqV.of (g _ _ n h), SqV.of (g _ _ n2 h2), by rw [paired_len]; omega, fun e => by have := hst e; rw [paired_len]; omega⟩⟩
  · rw [paired_len] at hi
    obtain ⟨v, hv, _⟩ := r.get (List.getElem?_eq_getElem (show i < ds.length by omega))
    obtain ⟨w, hw, _⟩ := r2.get (List.getElem?_eq_getElem (show i < es.length by omega))
    exact ⟨xs, ys, v, w, SqV.of (g _ _ n h), SqV.of (g _ _ n2 h2), hv, hw⟩
  · obtain ⟨d1, d2, e1, e2, rfl⟩ := paired_get _ _ _ _ hd
    obtain ⟨v, hv, hr⟩ := r.get e1
    obtain ⟨w, hw, hr2⟩ := r2.get e2
    obtain ⟨T, x1, x2, rfl, hT, rfl, y1, y2⟩ := y
    have q1 := y1 xs (SqV.of (g _ _ n h))
    have q2 := y2 ys (SqV.of (g _ _ n2 h2))
    rw [hv] at q1
    rw [hw] at q2
    cases q1
    cases q2
    exact ⟨.new hT, pair_rp l hT (hr.late gf m) (hr2.late gf m)⟩

section
variable {G : Gx} {W : Nat → Kd} {X : Cx} {tg a b : Expr} {ma mb : E} {pos p : Pos} {st : Bool}
/-- a container that may change meanwhile is not walked -/
def tBx (G : Gx) (W : Nat → Kd) (st : Bool) (m : E) : TE := if st = true then tE G W m else tB G W m
theorem RpS.seqN {S : SA} {F : Addr → Prop} {H : Hp} {v : V} {d : D} {ds : List D} (h : RpS S F H v d) (e : seqD d = some ds) (sub : ∀ a, inS S a → F a) :
    ∃ a xs, v = .ref a ∧ ¬ inS S a ∧ (H a = some (.lst xs) ∧ d = .list ds ∨ H a = some (.tup xs) ∧ d = .tuple ds) ∧ xs.length ≤ sizeLine ∧ Rps F H xs ds := by
  rcases h with h | ⟨a, rfl, n, ⟨xs, es, rfl, h1, z, r⟩ | ⟨ks, vs, ds, es, rfl, _⟩⟩
  · cases h with
    | lst n h z r => cases e; exact ⟨_, _, rfl, fun q => n (sub _ q), .inl ⟨h, rfl⟩, z, r⟩
    | tup n h z r => cases e; exact ⟨_, _, rfl, fun q => n (sub _ q), .inr ⟨h, rfl⟩, z, r⟩
    | _ => cases e
  · cases e
    exact ⟨a, xs, rfl, n, .inl ⟨h1, rfl⟩, z, r⟩
  · cases e
theorem Rp.seqF {F : Addr → Prop} {H : Hp} {v : V} {d : D} {ds : List D} (h : Rp F H v d) (e : seqD d = some ds) :
    ∃ a xs, v = .ref a ∧ ¬ F a ∧ (H a = some (.lst xs) ∧ d = .list ds ∨ H a = some (.tup xs) ∧ d = .tuple ds) ∧ xs.length ≤ sizeLine ∧ Rps F H xs ds := by
  cases h with
  | lst n h z r => cases e; exact ⟨_, _, rfl, n, .inl ⟨h, rfl⟩, z, r⟩
  | tup n h z r => cases e; exact ⟨_, _, rfl, n, .inr ⟨h, rfl⟩, z, r⟩
  | _ => cases e
/-- one part that is walked, then the rest -/
theorem tBx.go {F : Addr → Prop} {S : SA} {σ : L2.St} {H : Hp} {ρ : Rho} {s : Src} {β : Type} {m : E} {f : D → M β} {P : β → Src → Prop} {Q : VK} (ok : Ok G W F S σ H ρ s) (h : post (bnd (m G.C ρ) f) P s)
    (k : ∀ d s' v H', Pres (inS S) H H' → Ok G W F S σ H' ρ s' → RpS S F H' v d → (∀ ds, seqD d = some ds → ∃ a xs, v = .ref a ∧ ¬ (if st = true then F else inS S) a ∧ (H' a = some (.lst xs) ∧ d = .list ds ∨ H' a = some (.tup xs) ∧ d = .tuple ds) ∧ xs.length ≤ sizeLine ∧ Rps F H' xs ds) →
      post (f d) P s' → Q v H') : tBx G W st m σ H Q := by
  unfold tBx
  cases st with
  | true =>
    rw [if_pos rfl]
    refine tE.go ok h fun d s' v H' g ok' r p => k d s' v H' g ok' (.inl r) (fun ds e => ?_) p
    rw [if_pos rfl]
    exact r.seqF e
  | false =>
    rw [if_neg Bool.false_ne_true]
    refine tB.go ok h fun d s' v H' g ok' r p => k d s' v H' g ok' r (fun ds e => ?_) p
    rw [if_neg Bool.false_ne_true]
    exact r.seqN e ok.sub
theorem PI.weak {e : Expr} {t t' : TI} (h : PI X tg e t) (k : ∀ σ H Q, t' σ H Q → t σ H Q) : PI X tg e t' := ⟨fun pins s σ H Q I q => h.run pins s σ H Q I (k σ H Q q)⟩
theorem si_val (ha : PE X a (tBx G W st ma)) : PI X tg a (tI G W st (iVal ma)) :=
  PI.weak (pi_seq ha) fun σ H Q ⟨F, S, ρ, s, ok, p⟩ => tBx.go ok p fun d s1 v H1 g1 ok1 r1 w1 p1 => by
    obtain ⟨ds, e, q⟩ := post_opt.mp p1
    obtain ⟨ad, xs, rfl, n, h, z, ra⟩ := w1 ds e
    exact ⟨ad, xs, rfl, h.elim (fun h => .inl ⟨h.1, fun K => q _ _ g1 ok1.src (yl_list h.1 n z ra)⟩) (fun h => .inr ⟨h.1, fun K => q _ _ g1 ok1.src (yl_tup h.1 n z ra)⟩)⟩
/-- one argument -/
theorem pa_one {t : TE} (ha : PE X a t) (hs : starEach [a] X.env = [(false, eval a X.env)]) : PA X [a] (tCons t tNil) := pa_cons ha pa_nil hs
theorem si_enum {elts : List Expr} {kk : Nat} {tpos : Pos} (hg : Gl X "enumerate") (hm : X.mg "enumerate" = none) (ha : PE X a (tBx G W st ma)) (hs : starEach [a] X.env = [(false, eval a X.env)]) :
    PI X (.Tuple elts kk tpos) (.Call (.Name "enumerate" p) [a] [] pos) (tI G W st (iEnum ma)) :=
  PI.weak (pi_enu hg hm (pa_one ha hs) hs) fun σ H Q ⟨F, S, ρ, s, ok, p⟩ => tBx.go ok p fun d s1 v H1 g1 ok1 r1 w1 p1 => by
    rw [post_bnd] at p1
    obtain ⟨ds, e, q⟩ := post_opt.mp p1
    obtain ⟨ad, xs, rfl, n, h, z, ra⟩ := w1 ds e
    exact ⟨ad, xs, rfl, h.elim (fun h => .inl ⟨h.1, fun K => q _ _ g1 ok1.src (yl_enumL h.1 n z ra)⟩) (fun h => .inr ⟨h.1, fun K => q _ _ g1 ok1.src (yl_enumT h.1 n z ra)⟩)⟩
theorem si_range (hg : Gl X "range") (hm : X.mg "range" = none) (ha : PE X a (tB G W ma)) (hs : starEach [a] X.env = [(false, eval a X.env)]) : PI X tg (.Call (.Name "range" p) [a] [] pos) (tI G W st (iRange ma)) :=
  PI.weak (pi_range1 hg hm (pa_one ha hs) hs) fun σ H Q ⟨F, S, ρ, s, ok, p⟩ => tB.go ok p fun d s1 v H1 g1 ok1 r1 p1 => by
    rw [post_bnd] at p1
    obtain ⟨n, e, q⟩ := post_opt.mp p1
    cases asI_some e
    by_cases hn : rg1 n = true
    · rw [if_pos hn] at q
      have hn := rg1_iff.mp hn
      refine ⟨n, by rw [r1.b.int], hn.1, by omega, q _ _ g1 ok1.src ?_⟩
      unfold rangeL
      rw [show n - 0 = n by omega]
      exact yl_range (by rw [sizeLine_eq]; omega)
    · rw [if_neg hn] at q
      exact False.elim q
theorem rgOk_some {i j : Int} (h : rgOk i j = true) : -(2 ^ 62) ≤ i ∧ i < 2 ^ 62 ∧ -(2 ^ 62) ≤ j ∧ j < 2 ^ 62 ∧ j - i ≤ 16777216 := by
  exact rgOk_iff.mp h
theorem si_range2 (hg : Gl X "range") (hm : X.mg "range" = none) (ha : PE X a (tB G W ma)) (hb : PE X b (tB G W mb)) (hs : starEach [a, b] X.env = [(false, eval a X.env), (false, eval b X.env)]) (hs2 : starEach [b] X.env = [(false, eval b X.env)]) :
    PI X tg (.Call (.Name "range" p) [a, b] [] pos) (tI G W st (iRange2 ma mb)) :=
  PI.weak (pi_range2 hg hm (pa_cons ha (pa_one hb hs2) (by rw [hs, hs2])) hs hs2) fun σ H Q ⟨F, S, ρ, s, ok, p⟩ => tB.go ok p fun d s1 v H1 g1 ok1 r1 p1 => tB.go ok1 p1 fun d2 s2 v2 H2 g2 ok2 r2 p2 => by
    rw [post_bnd] at p2
    obtain ⟨i, e, q0⟩ := post_opt.mp p2
    rw [post_bnd] at q0
    obtain ⟨j, e2, q⟩ := post_opt.mp q0
    clear q0
    have f1 := asI_some e
    have f2 := asI_some e2
    subst f1 f2
    by_cases hn : rgOk i j = true
    · rw [if_pos hn] at q
      obtain ⟨h1, h2, h3, h4, h5⟩ := rgOk_some hn
      refine ⟨i, j, by rw [r1.b.int, r2.b.int], ⟨h1, h2, h3, h4⟩, q _ _ (g1.trans g2) ok2.src ?_⟩
      exact yl_range (by rw [sizeLine_eq]; omega)
    · rw [if_neg hn] at q
      exact False.elim q
theorem zipD_seq {x y : D} {ds : List D} (e : zipD x y = some ds) : ∃ xs ys, seqD x = some xs ∧ seqD y = some ys ∧ ds = paired xs ys := by
  unfold zipD at e
  split at e <;> first | (cases e; exact ⟨_, _, rfl, rfl, rfl⟩) | cases e
theorem zipSD_seq {x y : D} {ds : List D} (e : zipSD x y = some ds) : ∃ xs ys, seqD x = some xs ∧ seqD y = some ys ∧ ds = paired xs ys ∧ xs.length = ys.length := by
  unfold zipSD at e
  split at e
  · split at e
    · cases e
      exact ⟨_, _, by assumption, by assumption, rfl, by assumption⟩
    · cases e
  · cases e
theorem zip_go {σ : L2.St} {H : Hp} {R : It → Hp → Prop} {st2 : Bool} {K : PySem.W.Frag} {F : Addr → Prop} {S : SA} {ρ : Rho} {s : Src} {P : List D → Src → Prop} {z : D → D → Option (List D)} (hz : ∀ {x y ds}, z x y = some ds → ∃ xs ys, seqD x = some xs ∧ seqD y = some ys ∧ ds = paired xs ys ∧ (st2 = true → xs.length = ys.length))
    (ok : Ok G W F S σ H ρ s) (p : post (bnd (ma G.C ρ) fun x => bnd (mb G.C ρ) fun y => opt (z x y)) P s)
    (k : ∀ ds s' J H', Pres (inS S) H H' → SrcOk S H' s' → Yl (if st = true then F else inS S) F H' J ds → P ds s' → R J H') :
    iZipM K st2 (tCons (tBx G W st ma) (tCons (tBx G W st mb) tNil)) σ H R :=
  tBx.go ok p fun d s1 v H1 g1 ok1 r1 w1 p1 => tBx.go ok1 p1 fun d2 s2 v2 H2 g2 ok2 r2 w2 p2 => by
    obtain ⟨ds, e, q⟩ := post_opt.mp p2
    obtain ⟨l1, l2, e1, e2, rfl, hst⟩ := hz e
    obtain ⟨ad, xs, rfl, n, h, z, ra⟩ := w1 _ e1
    obtain ⟨bd, ys, rfl, n2, h2, z2, rb⟩ := w2 _ e2
    obtain ⟨c1, h⟩ : ∃ b, H1 ad = some (SqH b xs) := h.elim (fun h => ⟨true, h.1⟩) fun h => ⟨false, h.1⟩
    obtain ⟨c2, h2⟩ : ∃ b, H2 bd = some (SqH b ys) := h2.elim (fun h => ⟨true, h.1⟩) fun h => ⟨false, h.1⟩
    have hh : H2 ad = some (SqH c1 xs) := g2 _ _ (fun q => n (by split <;> first | exact ok.sub _ q | exact q)) h
    exact ⟨c1, c2, ad, bd, xs, ys, rfl, .of hh, .of h2, k _ _ _ _ (g1.trans g2) ok2.src (yl_zipZ hh h2 n n2 z (ra.pres (g2.mono ok.sub)) rb hst) q⟩
theorem si_zip {elts : List Expr} {kk : Nat} {tpos : Pos} (hg : Gl X "zip") (hm : X.mg "zip" = none) (ha : PE X a (tBx G W st ma)) (hb : PE X b (tBx G W st mb)) (hs : starEach [a, b] X.env = [(false, eval a X.env), (false, eval b X.env)]) (hs2 : starEach [b] X.env = [(false, eval b X.env)]) :
    PI X (.Tuple elts kk tpos) (.Call (.Name "zip" p) [a, b] [] pos) (tI G W st (iZip ma mb)) :=
  PI.weak (pi_zipM hg hm (pa_cons ha (pa_one hb hs2) (by rw [hs, hs2])) (by rw [hs, hs2]) (by rw [hs2]; rfl)) fun σ H Q ⟨F, S, ρ, s, ok, p⟩ =>
    zip_go (fun e => by obtain ⟨xs, ys, e1, e2, e3⟩ := zipD_seq e; exact ⟨xs, ys, e1, e2, e3, fun h => by cases h⟩) ok p fun ds s' J H' g so y q => q J H' g so y
theorem si_zipS {elts : List Expr} {kk j : Nat} {tpos p3 kp : Pos} (hg : Gl X "zip") (hm : X.mg "zip" = none) (ha : PE X a (tBx G W st ma)) (hb : PE X b (tBx G W st mb)) (hs : starEach [a, b] X.env = [(false, eval a X.env), (false, eval b X.env)]) (hs2 : starEach [b] X.env = [(false, eval b X.env)]) :
    PI X (.Tuple elts kk tpos) (.Call (.Name "zip" p) [a, b] [⟨some "strict", .Constant (.bool true) j p3, kp⟩] pos) (tI G W st (iZipS ma mb)) :=
  PI.weak (pi_zipS hg hm (pa_cons ha (pa_one hb hs2) (by rw [hs, hs2])) (by rw [hs, hs2]) (by rw [hs2]; rfl)) fun σ H Q ⟨F, S, ρ, s, ok, p⟩ =>
    zip_go (fun e => by obtain ⟨xs, ys, e1, e2, e3, e4⟩ := zipSD_seq e; exact ⟨xs, ys, e1, e2, e3, fun _ => e4⟩) ok p fun ds s' J H' g so y q => q J H' g so y
end
end BA

/-! BA8: targets, comprehensions, calls -/
namespace BA
open PySem PySem.Spec
open PyProof.Rows
open L2 hiding St

/-! slots -/
theorem setV_len : ∀ (ρ : Rho) (i : Nat) (d : D), (setV ρ i d).length = ρ.length
  | [], _, _ => rfl
  | _ :: _, 0, _ => rfl
  | _ :: r, i + 1, d => congrArg (· + 1) (setV_len r i d)
theorem wipeV_len : ∀ (ρ : Rho) (i : Nat), (wipeV ρ i).length = ρ.length
  | [], _ => rfl
  | _ :: _, 0 => rfl
  | _ :: r, i + 1 => congrArg (· + 1) (wipeV_len r i)
theorem blank_len (ρ : Rho) : ∀ is : List Nat, (blank ρ is).length = ρ.length
  | [] => rfl
  | i :: is => by
    unfold blank
    rw [wipeV_len, blank_len ρ is]
theorem getV_setV : ∀ (ρ : Rho) (i j : Nat) (d e : D), getV (setV ρ i d) j = some e → (j = i ∧ e = d) ∨ (j ≠ i ∧ getV ρ j = some e)
  | [], _, _, _, _, h => by cases h
  | _ :: _, 0, 0, d, e, h => .inl ⟨rfl, (Option.some.inj h).symm⟩
  | _ :: _, 0, j + 1, _, _, h => .inr ⟨Nat.succ_ne_zero _, h⟩
  | _ :: _, i + 1, 0, _, _, h => .inr ⟨fun z => Nat.succ_ne_zero _ z.symm, h⟩
  | _ :: r, i + 1, j + 1, d, e, h => by
    rcases getV_setV r i j d e h with ⟨a, b⟩ | ⟨a, b⟩
    · exact .inl ⟨congrArg (· + 1) a, b⟩
    · exact .inr ⟨fun z => a (Nat.succ.inj z), b⟩
theorem getV_wipeV : ∀ (ρ : Rho) (i j : Nat) (e : D), getV (wipeV ρ i) j = some e → j ≠ i ∧ getV ρ j = some e
  | [], _, _, _, h => by cases h
  | _ :: _, 0, 0, e, h => by cases h
  | _ :: _, 0, j + 1, _, h => ⟨Nat.succ_ne_zero _, h⟩
  | _ :: _, i + 1, 0, _, h => ⟨fun z => Nat.succ_ne_zero _ z.symm, h⟩
  | _ :: r, i + 1, j + 1, e, h => by
    obtain ⟨a, b⟩ := getV_wipeV r i j e h
    exact ⟨fun z => a (Nat.succ.inj z), b⟩
theorem getV_blank (ρ : Rho) (j : Nat) (e : D) : ∀ is : List Nat, getV (blank ρ is) j = some e → j ∉ is ∧ getV ρ j = some e
  | [], h => ⟨by simp, h⟩
  | i :: is, h => by
    unfold blank at h
    obtain ⟨a, b⟩ := getV_wipeV _ _ _ _ h
    obtain ⟨c, d⟩ := getV_blank ρ j e is b
    exact ⟨by simp [a, c], d⟩
theorem getV_lt : ∀ (ρ : Rho) (i : Nat) (d : D), getV ρ i = some d → i < ρ.length
  | [], _, _, h => by cases h
  | _ :: _, 0, _, _ => Nat.succ_pos _
  | _ :: r, i + 1, d, h => Nat.succ_lt_succ (getV_lt r i d h)
theorem wipe_get {σ : L2.St} {i : Nat} : ∀ {vs : List Nat}, i ∉ vs → (wipe σ vs)[i]? = σ[i]? := wipe_out

section
variable {G : Gx} {W : Nat → Kd} {F : Addr → Prop} {S : SA} {σ : L2.St} {H : Hp} {ρ : Rho} {s : Src}
theorem Ok.set (ok : Ok G W F S σ H ρ s) {i : Nat} {v : V} {d : D} (h : Slot G W F S H i v d) (hi : i < σ.length) : Ok G W F S (σ.set i (some v)) H (setV ρ i d) s := by
  refine ⟨ok.live, ok.sub, ok.src, fun j e h2 => ?_, by rw [setV_len, List.length_set]; exact ok.len⟩
  rcases getV_setV ρ i j d e h2 with ⟨rfl, rfl⟩ | ⟨n, h2⟩
  · exact ⟨v, by rw [List.getElem?_set_self hi], h⟩
  · obtain ⟨w, a, b⟩ := ok.slot j e h2
    exact ⟨w, by rw [List.getElem?_set_ne (Ne.symm n)]; exact a, b⟩
theorem Ok.blank (ok : Ok G W F S σ H ρ s) (vs : List Nat) : Ok G W F S (wipe σ vs) H (blank ρ vs) s := by
  refine ⟨ok.live, ok.sub, ok.src, fun j e h2 => ?_, by rw [blank_len, wipe_length]; exact ok.len⟩
  obtain ⟨n, h2⟩ := getV_blank ρ j e vs h2
  obtain ⟨w, a, b⟩ := ok.slot j e h2
  exact ⟨w, by rw [wipe_get n]; exact a, b⟩
end

/-- σ2 is σ but at some of the slots of vs -/
def Touch (vs : List Nat) (σ σ2 : L2.St) : Prop := σ2.length = σ.length ∧ ∀ i, i ∉ vs → σ2[i]? = σ[i]?
theorem Touch.refl (vs : List Nat) (σ : L2.St) : Touch vs σ σ := ⟨rfl, fun _ _ => rfl⟩
theorem Touch.trans {vs : List Nat} {a b c : L2.St} (h : Touch vs a b) (k : Touch vs b c) : Touch vs a c := ⟨k.1.trans h.1, fun i n => (k.2 i n).trans (h.2 i n)⟩
theorem Touch.mono {vs ws : List Nat} {a b : L2.St} (h : Touch vs a b) (k : ∀ i ∈ vs, i ∈ ws) : Touch ws a b := ⟨h.1, fun i n => h.2 i fun z => n (k i z)⟩
theorem Touch.set {σ : L2.St} {i : Nat} {v : Option V} : Touch [i] σ (σ.set i v) := ⟨List.length_set, fun j n => List.getElem?_set_ne fun z => n (by simp [z])⟩
theorem wipe_at {σ : L2.St} : ∀ {vs : List Nat} {i : Nat}, i ∈ vs → i < σ.length → (wipe σ vs)[i]? = some none
  | v :: vs, i, h, hl => by
    unfold wipe
    by_cases e : v = i
    · subst e
      rw [List.getElem?_set_self (by rw [wipe_length]; exact hl)]
    · rw [List.getElem?_set_ne e]
      exact wipe_at ((List.mem_cons.mp h).resolve_left fun z => e z.symm) hl
theorem Touch.wipe {vs : List Nat} {σ σ2 : L2.St} (h : Touch vs σ σ2) : wipe σ2 vs = wipe σ vs := by
  apply List.ext_getElem?
  intro i
  by_cases hm : i ∈ vs
  · by_cases hl : i < σ.length
    · rw [wipe_at hm hl, wipe_at hm (by rw [h.1]; exact hl)]
    · rw [List.getElem?_eq_none (by rw [wipe_length, h.1]; omega), List.getElem?_eq_none (by rw [wipe_length]; omega)]
  · rw [wipe_get hm, wipe_get hm]
    exact h.2 i hm

/-- a target's reading; vs: the slots that it sets -/
def tG (G : Gx) (W : Nat → Kd) (vs : List Nat) (g : BA.G) : TG := fun v σ H Q => ∃ F S ρ s d ρ', Ok G W F S σ H ρ s ∧ Rp F H v d ∧ g d ρ = some ρ' ∧ ∀ σ', Ok G W F S σ' H ρ' s → Touch vs σ σ' → Q σ' H
def tGs (G : Gx) (W : Nat → Kd) (vs : List Nat) (g : Gs) : TGs := fun v σ H Q => ∃ F S ρ s d ρ', Ok G W F S σ H ρ s ∧ Rps F H v d ∧ g d ρ = some ρ' ∧ ∀ σ', Ok G W F S σ' H ρ' s → Touch vs σ σ' → Q σ' H
section
variable {G : Gx} {W : Nat → Kd} {X : Cx} {pos : Pos}
theorem _root_.L2.PG.weak {e : Expr} {t t' : TG} (h : PG X e t) (k : ∀ v σ H Q, t' v σ H Q → t v σ H Q) : PG X e t' := ⟨fun pins s σ H v u Q I r q => h.run pins s σ H v u Q I r (k v σ H Q q)⟩
theorem _root_.L2.PGs.weak {e : List Expr} {t t' : TGs} (h : PGs X e t) (k : ∀ v σ H Q, t' v σ H Q → t v σ H Q) : PGs X e t' := ⟨fun pins s σ H v u Q I r q => h.run pins s σ H v u Q I r (k v σ H Q q)⟩
theorem sg_name {i : Nat} {x : Str} (hN : X.N.Nodup) (hi : X.N[i]? = some x) (hx : Loc X.env.scope x) (hf : X.fn x = true ∨ X.env.scope.names.lookup x = some .local) (hw : W i = .dat) : PG X (.Name x pos) (tG G W [i] (gVar i)) := by
  refine ⟨fun pins s0 σ H v u Q I r ⟨F, S, ρ, s, d, ρ', ok, rd, e, q⟩ => ?_⟩
  cases e
  refine (pg_name hN hi hx hf).run pins s0 σ H v u Q I r (q _ (ok.set ?_ ?_) Touch.set)
  · unfold Slot
    rw [hw]
    exact rd
  · rw [I.len]
    exact (List.getElem?_eq_some_iff.mp hi).1
theorem sg_nil {vs : List Nat} : PGs X [] (tGs G W vs gNil) := pgs_nil.weak fun v σ H Q ⟨F, S, ρ, s, d, ρ', ok, rd, e, q⟩ => by
  cases rd with
  | nil =>
    cases e
    exact ⟨rfl, q _ ok (.refl _ _)⟩
  | cons _ _ => cases e
theorem sg_cons {e : Expr} {es : List Expr} {vs : List Nat} {g : BA.G} {gs : Gs} (h1 : PG X e (tG G W vs g)) (h2 : PGs X es (tGs G W vs gs)) (hs : (assignEach (e :: es) X.env).map (·.2) = assign e X.env :: (assignEach es X.env).map (·.2)) :
    PGs X (e :: es) (tGs G W vs (gCons g gs)) := (pgs_cons h1 h2 hs).weak fun v σ H Q ⟨F, S, ρ, s, d, ρ', ok, rd, e, q⟩ => by
  cases rd with
  | nil => cases e
  | cons r1 r2 =>
    simp only [gCons] at e
    split at e
    · rename_i ρ1 e1
      exact ⟨_, _, rfl, F, S, ρ, s, _, ρ1, ok, r1, e1, fun σ1 ok1 t1 => ⟨F, S, ρ1, s, _, ρ', ok1, r2, e, fun σ2 ok2 t2 => q σ2 ok2 (t1.trans t2)⟩⟩
    · cases e
theorem sg_mono {e : Expr} {vs ws : List Nat} {g : BA.G} (h : PG X e (tG G W vs g)) (k : ∀ i ∈ vs, i ∈ ws) : PG X e (tG G W ws g) := h.weak fun v σ H Q ⟨F, S, ρ, s, d, ρ', ok, rd, e, q⟩ => ⟨F, S, ρ, s, d, ρ', ok, rd, e, fun σ' o t => q σ' o (t.mono k)⟩
theorem sgs_mono {e : List Expr} {vs ws : List Nat} {g : Gs} (h : PGs X e (tGs G W vs g)) (k : ∀ i ∈ vs, i ∈ ws) : PGs X e (tGs G W ws g) := h.weak fun v σ H Q ⟨F, S, ρ, s, d, ρ', ok, rd, e, q⟩ => ⟨F, S, ρ, s, d, ρ', ok, rd, e, fun σ' o t => q σ' o (t.mono k)⟩
/-- how many a chain of targets wants -/
def lenG (gs : Gs) (n : Nat) : Prop := ∀ ds ρ ρ', gs ds ρ = some ρ' → ds.length = n
theorem lenG_nil : lenG gNil 0 := fun ds ρ ρ' h => by
  cases ds with
  | nil => rfl
  | cons _ _ => cases h
theorem lenG_cons {g : BA.G} {gs : Gs} {n : Nat} (h : lenG gs n) : lenG (gCons g gs) (n + 1) := fun ds ρ ρ' e => by
  cases ds with
  | nil => cases e
  | cons d ds =>
    simp only [gCons] at e
    split at e
    · exact congrArg (· + 1) (h ds _ ρ' e)
    · cases e
theorem sg_tup {es : List Expr} {k : Nat} {vs : List Nat} {gs : Gs} {n : Nat} (hc : X.calm = true) (h : PGs X es (tGs G W vs gs)) (hl : lenG gs n) (hn : (assignEach es X.env).length = n) (hst : (assignEach es X.env).findIdx? (·.1) = none) :
    PG X (.Tuple es k pos) (tG G W vs (gTup gs)) := (pg_tup hc h hn hst).weak fun v σ H Q ⟨F, S, ρ, s, d, ρ', ok, rd, e, q⟩ => by
  unfold gTup at e
  split at e
  · obtain ⟨a, xs, rfl, n, h1, z, r⟩ := (RpB.tup (.inl rd) : ∃ a xs, v = .ref a ∧ ¬ F a ∧ H a = some (.tup xs) ∧ xs.length ≤ sizeLine ∧ Rps F H xs _)
    exact ⟨a, xs, rfl, SqT.of h1, by rw [r.len]; exact hl _ _ _ e, F, S, ρ, s, _, ρ', ok, r, e, q⟩
  · cases e

/-! tests of a comprehension -/
def tC1 (G : Gx) (W : Nat → Kd) (m : Et) : TT := fun σ H Q => ∃ F S ρ s, Ok G W F S σ H ρ s ∧ post (m G.C ρ) (fun b s' => ∀ H', Pres (inS S) H H' → SrcOk S H' s' → Q b H') s
theorem _root_.L2.PTs.weak {e : List Expr} {t t' : TT} (h : PTs X e t) (k : ∀ σ H Q, t' σ H Q → t σ H Q) : PTs X e t' := ⟨fun pins s σ H Q I q => h.run pins s σ H Q I (k σ H Q q)⟩
theorem sc_yes : PTs X [] (tC1 G W tYes) := pts_nil.weak fun σ H Q ⟨F, S, ρ, s, ok, p⟩ => p _ (.refl _) ok.src
theorem sc_one {c : Expr} {m : E} (h : PT X c (tT G W m)) : PTs X [c] (tC1 G W (tIf m)) := (pts_one h).weak fun σ H Q ⟨F, S, ρ, s, ok, p⟩ => ⟨F, S, ρ, s, ok, p⟩

/-! comprehensions -/
/-- the list under way -/
structure Cp (G : Gx) (W : Nat → Kd) (F : Addr → Prop) (S : SA) (g : BA.G) (c : Et) (el : E) (σ : L2.St) (ρ : Rho) (H1 : Hp) (D : Addr) (ds : List BA.D) (R : List BA.D → Src → Prop) (i : Nat) (H : Hp) : Prop where
  ex : ∃ s acc es, Ok G W (fun a => F a ∨ a = D) S σ H ρ s ∧ Pres (inS S) H1 H ∧ H D = some (.lst acc) ∧ acc.length ≤ i ∧ Rps (fun a => F a ∨ a = D) H acc es ∧ post (compM g (c G.C) (el G.C) ρ (ds.drop i)) (fun r s' => R (es ++ r) s') s
theorem lc_data {F : Addr → Prop} {S : SA} {σ : L2.St} {ρ : Rho} {s : Src} {wi : It} {g : BA.G} {c : Et} {el : E} {vs ts : List Nat} {H1 : Hp} {D : Addr} {ds : List BA.D} {Q : Hp → Prop} {R : List BA.D → Src → Prop}
    (ok : Ok G W F S σ H1 ρ s) (hD : H1 D = none) (ht : ∀ i ∈ ts, i ∈ vs) (Y : Yl (inS S) F H1 wi ds) (p : post (compM g (c G.C) (el G.C) (BA.blank ρ vs) ds) R s)
    (done : ∀ H s' acc es, Pres (inS S) H1 H → SrcOk S H s' → H D = some (.lst acc) → acc.length ≤ sizeLine → Rps (fun a => F a ∨ a = D) H acc es → R es s' → Q H) :
    ∃ Wv : Nat → Nat → Hp → Prop, (∃ m, Wv 0 m (upd H1 D (.lst []))) ∧ ∀ i m H, Wv i m H →
      (wi.stop i H ∧ Q H) ∨ (wi.go i H ∧ ∃ Nx : Hp → Prop, (∀ H', Nx H' → ∃ m', m' < m ∧ Wv (i + 1) m' H') ∧ ∀ x H', wi.yld i H x H' → tG G W ts g x (wipe σ vs) H' fun σ2 H2 => wipe σ2 vs = wipe σ vs ∧ tC1 G W c σ2 H2 fun b H3 =>
        if b = true then tE G W el σ2 H3 fun y H4 => ∃ acc, H4 D = some (.lst acc) ∧ acc.length < sizeLine ∧ Nx (upd H4 D (.lst (acc ++ [y]))) else Nx H3) := by
  have nF : ¬ F D := ok.live.new hD
  have nS : ¬ inS S D := fun f => nF (ok.sub D f)
  refine ⟨fun i m H => m = ds.length - i ∧ i ≤ ds.length ∧ Cp G W F S g c el (wipe σ vs) (BA.blank ρ vs) H1 D ds R i H, ⟨ds.length, by simp, Nat.zero_le _, ⟨s, [], [], ?_, (Grow.new hD).pres, upd_same, Nat.le_refl _, .nil, ?_⟩⟩, ?_⟩
  · have ok2 := (ok.blank vs).grow (Grow.new (o := .lst []) hD)
    refine ⟨fun a f => ?_, fun a f => .inl (ok.sub a f), ok2.src, fun j e h => ?_, ok2.len⟩
    · rcases f with f | rfl
      · exact ok2.live a f
      · rw [upd_same]; trivial
    · obtain ⟨v, h1, h2⟩ := (ok.blank vs).slot j e h
      refine ⟨v, h1, ?_⟩
      have live : ∀ a, H1 a ≠ none → a ≠ D := fun a n z => n (by rw [z]; exact hD)
      unfold Slot at *
      cases w : W j with
      | dat =>
        rw [w] at h2
        exact (h2.move (F' := fun a => F a ∨ a = D) fun a n f => f.elim (fun f => f) fun z => absurd z (live a n)).pres (Grow.new hD).pres
      | own =>
        rw [w] at h2
        rcases h2 with ⟨a, rfl, f, n, o⟩ | ⟨c, r⟩
        · exact .inl ⟨a, rfl, .inl f, n, (o.move (F' := fun a => F a ∨ a = D) fun a n f => f.elim (fun f => f) fun z => absurd z (live a n)).grow (Grow.new hD)⟩
        · exact .inr ⟨c, (r.move (F' := fun a => F a ∨ a = D) fun a n f => f.elim (fun f => f) fun z => absurd z (live a n)).pres (Grow.new hD).pres⟩
      | fn =>
        rw [w] at h2
        exact h2
      | src =>
        rw [w] at h2
        exact h2
      | cel =>
        rw [w] at h2
        exact h2
      | scr =>
        rw [w] at h2
        exact ScrV.pres h2 fun a o u q => Grow.new hD _ _ q
  · rw [List.drop_zero]
    exact p
  · rintro i m H ⟨rfl, hi, s1, acc, es, ok1, g1, hH, hz, ra, p1⟩
    by_cases hlt : i < ds.length
    · refine .inr ⟨Y.go i hlt H g1, fun H' => i + 1 ≤ ds.length ∧ Cp G W F S g c el (wipe σ vs) (BA.blank ρ vs) H1 D ds R (i + 1) H', fun H' h => ⟨ds.length - (i + 1), by omega, rfl, h.1, h.2⟩, fun x H' y => ?_⟩
      rw [List.drop_eq_getElem_cons hlt] at p1
      unfold compM at p1
      rw [post_bnd] at p1
      obtain ⟨ρ1, e1, p1⟩ := post_opt.mp p1
      obtain ⟨gr, rx⟩ := Y.yld i ds[i] (List.getElem?_eq_getElem hlt) (fun a => F a ∨ a = D) H x H' g1 (g1.mono ok.sub) (fun a n f => f.elim (fun f => f) fun z => absurd hD (by rw [← z]; exact n)) ok1.live y
      refine ⟨_, S, _, s1, _, ρ1, ok1.grow gr, rx, e1, fun σ2 ok2 t2 => ⟨(t2.mono ht).wipe.trans ?_, ?_⟩⟩
      · exact (Touch.wipe ⟨wipe_length _ _, fun i n => wipe_get n⟩)
      · rw [post_bnd] at p1
        refine ⟨_, S, _, s1, ok2, post_mono p1 fun b s2 p2 H3 g3 k3 => ?_⟩
        have ok3 := ok2.step g3 k3
        have keepD : ∀ {Ha Hb : Hp}, Pres (inS S) Ha Hb → Ha D = some (.lst acc) → Hb D = some (.lst acc) := fun g h => g _ _ nS h
        have hD3 : H3 D = some (.lst acc) := keepD g3 (gr _ _ hH)
        have ok1' : Ok G W (fun a => F a ∨ a = D) S (wipe σ vs) H3 (BA.blank ρ vs) s2 := (ok1.grow gr).step g3 k3
        have g13 : Pres (inS S) H1 H3 := (g1.trans gr.pres).trans g3
        have ra3 := (ra.pres (gr.pres)).pres (g3.mono fun a q => .inl (ok.sub a q))
        cases b with
        | true =>
          refine iteT ?_
          have p2 : post (bnd (el G.C ρ1) fun d => bnd (compM g (c G.C) (el G.C) (BA.blank ρ vs) (ds.drop (i + 1))) fun r => pur (d :: r)) _ s2 := p2
          refine tE.go ok3 p2 fun d s3 y H4 g4 ok4 ry p3 => ⟨acc, keepD g4 hD3, by have := Y.sz; omega, by omega, s3, acc ++ [y], es ++ [d], ?_, ?_, upd_same, by rw [List.length_append]; show _ + 1 ≤ _; omega, ?_, ?_⟩
          · have okd := ok1'.step g4 ok4.src
            have hD4 := keepD g4 hD3
            have pr : Pres (fun a => F a ∨ a = D) H4 (upd H4 D (.lst (acc ++ [y]))) := fun b o n e => by rw [upd_ne fun z => n (.inr z)]; exact e
            refine ⟨fun a f => ?_, okd.sub, ?_, fun j e h => ?_, okd.len⟩
            · by_cases z : a = D
              · subst z; rw [upd_same]; trivial
              · rw [upd_ne z]; exact okd.live a f
            · exact okd.src.upd nS hD4 trivial
            · obtain ⟨v, h1, h2⟩ := okd.slot j e h
              refine ⟨v, h1, ?_⟩
              unfold Slot at *
              cases w : W j with
              | dat => rw [w] at h2; exact h2.pres pr
              | own =>
                rw [w] at h2
                rcases h2 with ⟨a, rfl, f, n, o⟩ | ⟨c0, r0⟩
                · have ha : a ≠ D := by
                    rintro rfl
                    -- an own container stood ahead of the comprehension
                    obtain ⟨v0, hv0, hs0⟩ := (ok.blank vs).slot j e h
                    rw [h1] at hv0
                    cases hv0
                    unfold Slot at hs0
                    rw [w] at hs0
                    rcases hs0 with ⟨a0, ea, f0, _⟩ | ⟨c0, _⟩
                    · cases ea
                      exact nF f0
                    · rcases o.is with ⟨_, rfl⟩ | ⟨_, rfl⟩ <;> cases c0
                  exact .inl ⟨a, rfl, f, n, o.pres pr (upd_ne ha)⟩
                · exact .inr ⟨c0, r0.pres pr⟩
              | fn => rw [w] at h2; exact h2
              | src => rw [w] at h2; exact h2
              | cel => rw [w] at h2; exact h2
              | scr =>
                rw [w] at h2
                exact ScrV.pres h2 fun a o u q => by rw [upd_ne (fun z => by rw [z, keepD g4 hD3] at q; cases q)]; exact q
          · intro b o n e
            have hb : b ≠ D := fun z => by rw [z, hD] at e; cases e
            rw [upd_ne hb]
            exact (g13.trans g4) b o n e
          · have pr : Pres (fun a => F a ∨ a = D) H4 (upd H4 D (.lst (acc ++ [y]))) := fun b o n e => by rw [upd_ne fun z => n (.inr z)]; exact e
            exact ((ra3.pres (g4.mono fun a q => .inl (ok.sub a q))).app (.cons ry .nil)).pres pr
          · rw [post_bnd] at p3
            refine post_mono p3 fun r s4 h => ?_
            rw [List.append_assoc]
            exact h
        | false =>
          exact iteF ⟨by omega, s2, acc, es, ok1', g13, hD3, by omega, ra3, p2⟩
    · have e : i = ds.length := by omega
      subst e
      refine .inl ⟨Y.stop H g1, done H s1 acc es g1 ok1.src hH (by have := Y.sz; omega) ra ?_⟩
      rw [List.drop_length] at p1
      have p1 : R (es ++ []) s1 := p1
      rw [List.append_nil] at p1
      exact p1
end
end BA

/-! BA9: comprehensions as values, fresh lists -/
namespace BA
open PySem PySem.Spec
open PyProof.Rows
open L2 hiding St

/-- behind a run that makes a list of its own -/
def tF (G : Gx) (W : Nat → Kd) (m : E) : TE := fun σ H Q => ∃ F S ρ s, Ok G W F S σ H ρ s ∧ post (m G.C ρ) (fun d s' => ∀ a H', Pres (inS S) H H' → SrcOk S H' s' → H a = none → Own (fun b => F b ∨ b = a) H' a d → Q (.ref a) H') s
theorem Own.data {F : Addr → Prop} {H : Hp} {a : Addr} {d : D} (o : Own (fun b => F b ∨ b = a) H a d) (n : ¬ F a) : Rp F H (.ref a) d := by
  rcases o with ⟨xs, ds, rfl, h, z, r⟩ | ⟨ks, vs, ds, es, rfl, h, z, r, r', k, l⟩
  · exact .lst n h z (r.move fun b _ f => .inl f)
  · exact .dct n h z (r.move fun b _ f => .inl f) (r'.move fun b _ f => .inl f) k rfl l
theorem tF.tE {G : Gx} {W : Nat → Kd} {m : E} {σ : L2.St} {H : Hp} {Q : VK} (h : BA.tE G W m σ H Q) : tF G W m σ H Q := by
  obtain ⟨F, S, ρ, s, ok, p⟩ := h
  exact ⟨F, S, ρ, s, ok, post_mono p fun d s' k a H' g hs n o => k _ H' g hs (o.data (ok.live.new n))⟩
section
variable {G : Gx} {W : Nat → Kd} {X : Cx}
theorem se_fresh {e : Expr} {m : E} (h : PE X e (tF G W m)) : PE X e (tE G W m) := h.weak fun _ _ _ q => tF.tE q
theorem compM_len {g : BA.G} {c : Rho → M Bool} {el : Rho → M D} {ρ : Rho} : True := trivial
/-- the reading of a comprehension -/
theorem lc_of {m : Es} {g : BA.G} {c : Et} {el : E} {vs ts : List Nat} {σ : L2.St} {H : Hp} {Q : VK} (ht : ∀ i ∈ ts, i ∈ vs) (h : tF G W (xComp vs m g c el) σ H Q) :
    tLc (tI G W false m) (tG G W ts g) (tC1 G W c) (tE G W el) vs σ H Q := by
  obtain ⟨F, S, ρ, s, ok, p⟩ := h
  unfold xComp at p
  rw [post_bnd] at p
  refine ⟨F, S, ρ, s, ok, post_mono p fun ds s1 p1 J H1 g1 k1 Y => ?_⟩
  intro D hD
  rw [post_bnd] at p1
  have ok1 := ok.step g1 k1
  have nS : ¬ inS S D := fun f => ok1.live.new hD (ok.sub D f)
  refine lc_data (Q := fun H => Q (.ref D) H) (R := fun r s' => post (pur (PyData.list r)) _ s') ok1 hD ht Y p1 fun H2 s2 acc es g2 k2 hH hz ra q => ?_
  have hD0 : H D = none := by
    cases e : H D with
    | none => rfl
    | some o => rw [g1 D o nS e] at hD; cases hD
  exact q D H2 (g1.trans g2) k2 hD0 (.inl ⟨acc, es, rfl, hH, hz, ra⟩)
section
variable {elt tg iter : Expr} {ifs : List Expr} {scope : Scope} {own : List (Str × Nat)} {pos : Pos} {m : Es} {g : BA.G} {c : Et} {el : E} {ts : List Nat}
theorem sf_comp (hc : X.calm = true) (hN : X.N.Nodup) (ht : ∀ i ∈ ts, i ∈ own.map (·.2)) (hi : PI X tg iter (tI G W false m)) (ok : BlkOk X.N X.env.scope scope own)
    (hg : ∀ (s : Shared) (H : Hp) (C : Addr) (cl : List (Str × Addr)) (fp : List Addr), PG (X.blk s H scope (compEnvC scope cl C X.env) fp) tg (tG G W ts g))
    (hif : ∀ (s : Shared) (H : Hp) (C : Addr) (cl : List (Str × Addr)) (fp : List Addr), PTs (X.blk s H scope (compEnvC scope cl C X.env) fp) ifs (tC1 G W c))
    (he : ∀ (s : Shared) (H : Hp) (C : Addr) (cl : List (Str × Addr)) (fp : List Addr), PE (X.blk s H scope (compEnvC scope cl C X.env) fp) elt (tE G W el))
    (hs : ∀ x, foldedSetIterable iter X.env x = pure x) : PE X (.ListComp elt [⟨tg, iter, ifs, 0⟩] scope pos) (tF G W (xComp (own.map (·.2)) m g c el)) :=
  (pe_lc hc hN hi ok hg hif he hs).weak fun σ H Q q => lc_of ht q
end
theorem sf_lst {r : List Expr} {mr : Es} {pos : Pos} (hr : PA X r (tEs G W mr)) : PE X (.List r pos) (tF G W (xLst mr)) :=
  (pe_lst hr).weak fun σ H Q ⟨F, S, ρ, s, ok, p⟩ => tEs.go ok p fun d s1 v H1 g1 ok1 r1 p1 => by
    split at p1
    · rename_i h
      have z : v.length ≤ sizeLine := by rw [r1.len]; exact szOk_le h
      refine ⟨z, fun p hp => ?_⟩
      have hp0 : H p = none := by
        cases e : H p with
        | none => rfl
        | some o => rw [g1 p o (fun f => ok1.live.new hp (ok.sub p f)) e] at hp; cases hp
      refine p1 _ _ (g1.trans (Grow.new hp).pres) (ok1.src.grow (.new hp)) hp0 (.inl ⟨_, _, rfl, upd_same, z, ?_⟩)
      exact (r1.move fun b n f => f.elim (fun f => f) fun z => absurd hp (by rw [← z]; exact n)).pres (Grow.new hp).pres
    · exact p1.elim
theorem sf_if {c a b : Expr} {mc ma mb : E} {pos : Pos} (hc : PT X c (tT G W mc)) (ha : PE X a (tF G W ma)) (hb : PE X b (tF G W mb)) : PE X (.IfExp c a b pos) (tF G W (xIf mc ma mb)) :=
  (pe_ifExp hc ha hb).weak fun σ H Q ⟨F, S, ρ, s, ok, p⟩ => tT.go ok p fun k s1 H1 g1 ok1 p1 => by
    have back : ∀ a, H1 a = none → H a = none := fun a hp => by
      cases e : H a with
      | none => rfl
      | some o => rw [g1 a o (fun f => ok1.live.new hp (ok.sub a f)) e] at hp; cases hp
    cases k with
    | true => exact iteT ⟨F, S, ρ, s1, ok1, post_mono p1 fun d s' q v H' g hs n o => q v H' (g1.trans g) hs (back v n) o⟩
    | false => exact iteF ⟨F, S, ρ, s1, ok1, post_mono p1 fun d s' q v H' g hs n o => q v H' (g1.trans g) hs (back v n) o⟩
end

/-! ### the state between statements -/
/-- own lists: where they lie -/
structure Sat (G : Gx) (W : Nat → Kd) (F0 : Addr → Prop) (H0 : Hp) (L : List ((Addr → Prop) × Hp)) (F : Addr → Prop) (S : SA) (σ : L2.St) (H : Hp) (ρ : Rho) (s : Src) : Prop where
  ok : Ok G W F S σ H ρ s
  f0 : ∀ a, F0 a → F a
  ent : Pres (inS S) H0 H
  trk : ∀ i a, W i = .own → σ[i]? = some (some (.ref a)) → H a ≠ none
  nf : ∀ i a, W i = .own → σ[i]? = some (some (.ref a)) → F a → H0 a = none
  dis : ∀ i j a, i ≠ j → W i = .own → W j = .own → σ[i]? = some (some (.ref a)) → σ[j]? = some (some (.ref a)) → F a → False
  rf : ∀ r ∈ L, Pres r.1 r.2 H ∧ (∀ a, F a → r.1 a ∨ r.2 a = none) ∧ ∀ a, inS S a → r.1 a
  liv : Live F0 H0
theorem kept_some {S : SA} {H H' : Hp} {s' : Src} (g : Pres (inS S) H H') (hs : SrcOk S H' s') {a : Addr} (h : H a ≠ none) : H' a ≠ none := by
  by_cases z : inS S a
  · exact inS_live hs a z
  · cases e : H a with
    | none => exact (h e).elim
    | some o =>
      rw [g a o z e]
      exact fun e => nomatch e
theorem Sat.step {G : Gx} {W : Nat → Kd} {F0 : Addr → Prop} {H0 : Hp} {L : List ((Addr → Prop) × Hp)} {F : Addr → Prop} {S : SA} {σ : L2.St} {H H' : Hp} {ρ : Rho} {s s' : Src} (h : Sat G W F0 H0 L F S σ H ρ s) (g : Pres (inS S) H H') (hs : SrcOk S H' s') : Sat G W F0 H0 L F S σ H' ρ s' :=
  ⟨h.ok.step g hs, h.f0, h.ent.trans g, fun i a w q => kept_some g hs (h.trk i a w q), h.nf, h.dis, fun r hr => ⟨(h.rf r hr).1.trans (g.mono (h.rf r hr).2.2), (h.rf r hr).2⟩, h.liv⟩
theorem Sat.grow {G : Gx} {W : Nat → Kd} {F0 : Addr → Prop} {H0 : Hp} {L : List ((Addr → Prop) × Hp)} {F : Addr → Prop} {S : SA} {σ : L2.St} {H H' : Hp} {ρ : Rho} {s : Src} (h : Sat G W F0 H0 L F S σ H ρ s) (g : Grow H H') : Sat G W F0 H0 L F S σ H' ρ s := h.step g.pres (h.ok.src.grow g)

/-- values by kind: data, or lists of one's own, each new since H -/
inductive RpKs (Fl : Addr → Prop) (H' : Hp) : (Addr → Prop) → List Kd → List V → List D → Prop
  | nil {F : Addr → Prop} : RpKs Fl H' F [] [] []
  | dat {F : Addr → Prop} {v : V} {d : D} {ks : List Kd} {vs : List V} {ds : List D} : Rp Fl H' v d → RpKs Fl H' F ks vs ds → RpKs Fl H' F (.dat :: ks) (v :: vs) (d :: ds)
  | own {F : Addr → Prop} {a : Addr} {d : D} {ks : List Kd} {vs : List V} {ds : List D} : Fl a → ¬ F a → Own Fl H' a d → RpKs Fl H' (fun b => F b ∨ b = a) ks vs ds → RpKs Fl H' F (.own :: ks) (.ref a :: vs) (d :: ds)
/-- F grows by what is new since H -/
structure Wide (F : Addr → Prop) (H : Hp) (F' : Addr → Prop) (H' : Hp) : Prop where
  up : ∀ a, F a → F' a
  new : ∀ a, F' a → F a ∨ H a = none
  live : Live F' H'
def tKs (G : Gx) (W : Nat → Kd) (ks : List Kd) (m : Es) : TA := fun σ H Q => ∃ F S ρ s, Ok G W F S σ H ρ s ∧ post (m G.C ρ) (fun ds s' => ∀ vs H' F', Pres (inS S) H H' → SrcOk S H' s' → Wide F H F' H' → RpKs F' H' F ks vs ds → Q vs H') s
theorem Wide.move {F F' : Addr → Prop} {H H' : Hp} (w : Wide F H F' H') : ∀ a, H a ≠ none → F' a → F a := fun a n f => (w.new a f).elim (fun f => f) fun z => absurd z n
theorem Slot.wide {G : Gx} {W : Nat → Kd} {F F' : Addr → Prop} {S : SA} {H : Hp} {i : Nat} {v : V} {d : D} (h : Slot G W F S H i v d) (up : ∀ a, F a → F' a) (mv : ∀ a, H a ≠ none → F' a → F a) : Slot G W F' S H i v d := by
  unfold Slot at *
  cases w : W i with
  | dat =>
    rw [w] at h
    exact h.move mv
  | own =>
    rw [w] at h
    rcases h with ⟨a, rfl, f, n, o⟩ | ⟨c, r⟩
    · exact .inl ⟨a, rfl, up a f, n, o.move mv⟩
    · exact .inr ⟨c, r.move mv⟩
  | fn =>
    rw [w] at h
    exact h
  | src =>
    rw [w] at h
    exact h
  | cel =>
    rw [w] at h
    exact h
  | scr =>
    rw [w] at h
    exact h
theorem Ok.wide {G : Gx} {W : Nat → Kd} {F F' : Addr → Prop} {S : SA} {σ : L2.St} {H H' : Hp} {ρ : Rho} {s s' : Src} (ok : Ok G W F S σ H ρ s) (w : Wide F H F' H') (g : Pres (inS S) H H') (hs : SrcOk S H' s') : Ok G W F' S σ H' ρ s' := by
  have sub : ∀ a, inS S a → F' a := fun a q => w.up a (ok.sub a q)
  refine ⟨w.live, sub, hs, fun i d e => ?_, ok.len⟩
  obtain ⟨v, h1, h2⟩ := ok.slot i d e
  exact ⟨v, h1, (h2.wide w.up w.move).pres g sub (src_nf ok.src)⟩
theorem RpKs.pres {Fl : Addr → Prop} {H H' : Hp} {S : SA} (g : Pres (inS S) H H') (sub : ∀ a, inS S a → Fl a) : ∀ {F : Addr → Prop} {ks : List Kd} {vs : List V} {ds : List D}, (∀ a, inS S a → F a) → RpKs Fl H F ks vs ds → RpKs Fl H' F ks vs ds
  | _, _, _, _, _, .nil => .nil
  | _, _, _, _, sf, .dat r t => .dat (r.pres (g.mono sub)) (RpKs.pres g sub sf t)
  | _, _, _, _, sf, .own f n o t => .own f n (o.pres (g.mono sub) (by
      obtain ⟨o1, h1⟩ := o.some
      rw [h1]
      exact g _ _ (fun z => n (sf _ z)) h1)) (RpKs.pres g sub (fun a q => .inl (sf a q)) t)
section
variable {G : Gx} {W : Nat → Kd} {X : Cx} {a : Expr} {r : List Expr} {ma : E} {mr : Es} {ks : List Kd}
theorem sk_nil : PA X [] (tKs G W [] xNil) := pa_nil.weak fun σ H Q ⟨F, S, ρ, s, ok, p⟩ => p _ _ F (.refl _) ok.src ⟨fun _ h => h, fun _ h => .inl h, ok.live⟩ .nil
theorem sk_dat (ha : PE X a (tE G W ma)) (hr : PA X r (tKs G W ks mr)) (hs : starEach (a :: r) X.env = (false, eval a X.env) :: starEach r X.env) : PA X (a :: r) (tKs G W (.dat :: ks) (xCons ma mr)) :=
  (pa_cons ha hr hs).weak fun σ H Q ⟨F, S, ρ, s, ok, p⟩ => tE.go ok p fun d s1 v H1 g1 ok1 r1 p1 => by
    rw [post_bnd] at p1
    refine ⟨F, S, ρ, s1, ok1, post_mono p1 fun ds s2 q vs H2 F2 g2 k2 w2 r2 => ?_⟩
    refine q _ _ F2 (g1.trans g2) k2 ⟨w2.up, fun b f => (w2.new b f).elim .inl fun z => ?_, w2.live⟩ (.dat ((r1.move w2.move).pres (g2.mono fun a q => w2.up a (ok.sub a q))) r2)
    by_cases q : F b
    · exact .inl q
    · refine .inr ?_
      cases e : H b with
      | none => rfl
      | some o => rw [g1 b o (fun f => q (ok.sub b f)) e] at z; cases z
theorem sk_own (ha : PE X a (tF G W ma)) (hr : PA X r (tKs G W ks mr)) (hs : starEach (a :: r) X.env = (false, eval a X.env) :: starEach r X.env) : PA X (a :: r) (tKs G W (.own :: ks) (xCons ma mr)) :=
  (pa_cons ha hr hs).weak fun σ H Q ⟨F, S, ρ, s, ok, p⟩ => by
    unfold xCons at p
    rw [post_bnd] at p
    refine ⟨F, S, ρ, s, ok, post_mono p fun d s1 p1 b H1 g1 k1 n o => ?_⟩
    rw [post_bnd] at p1
    have nF : ¬ F b := ok.live.new n
    have l1 : Live (fun c => F c ∨ c = b) H1 := fun c f => f.elim (fun f => (ok.step g1 k1).live c f) fun z => by rw [z]; exact o.mut
    have ok1 := ok.wide (F' := fun c => F c ∨ c = b) ⟨fun c f => .inl f, fun c f => f.elim .inl fun z => .inr (by rw [z]; exact n), l1⟩ g1 k1
    refine ⟨_, S, ρ, s1, ok1, post_mono p1 fun ds s2 q vs H2 F2 g2 k2 w2 r2 => ?_⟩
    have nS : ¬ inS S b := fun f => nF (ok.sub b f)
    refine q _ _ F2 (g1.trans g2) k2 ⟨fun c f => w2.up c (.inl f), fun c f => (w2.new c f).elim (fun f => f.elim .inl fun z => .inr (by rw [z]; exact n)) fun z => ?_, w2.live⟩ (.own (w2.up b (.inr rfl)) nF ?_ r2)
    · by_cases q : F c
      · exact .inl q
      · refine .inr ?_
        cases e : H c with
        | none => rfl
        | some o => rw [g1 c o (fun f => q (ok.sub c f)) e] at z; cases z
    · obtain ⟨o1, h1⟩ := o.some
      exact (o.move w2.move).pres (g2.mono fun a q => w2.up a (.inl (ok.sub a q))) (by rw [h1]; exact g2 _ _ nS h1)
end
end BA

/-! BA10: statements -/
namespace BA
open PySem PySem.Spec
open PyProof.Rows
open L2 hiding St

section
variable {G : Gx} {W : Nat → Kd} {F0 : Addr → Prop} {H0 : Hp} {L : List ((Addr → Prop) × Hp)} {F : Addr → Prop} {S : SA} {σ : L2.St} {H : Hp} {ρ : Rho} {s : Src}
theorem Sat.less {r : (Addr → Prop) × Hp} (h : Sat G W F0 H0 (r :: L) F S σ H ρ s) : Sat G W F0 H0 L F S σ H ρ s :=
  ⟨h.ok, h.f0, h.ent, h.trk, h.nf, h.dis, fun q hq => h.rf q (List.mem_cons_of_mem _ hq), h.liv⟩
theorem Sat.more (h : Sat G W F0 H0 L F S σ H ρ s) : Sat G W F0 H0 ((F, H) :: L) F S σ H ρ s :=
  ⟨h.ok, h.f0, h.ent, h.trk, h.nf, h.dis, fun q hq => (List.mem_cons.mp hq).elim (fun e => by subst e; exact ⟨.refl _, fun a f => .inl f, h.ok.sub⟩) fun hq => h.rf q hq, h.liv⟩
/-- a new state of slots that holds the own ones as they were -/
theorem Sat.slots {σ' : L2.St} {ρ' : Rho} (h : Sat G W F0 H0 L F S σ H ρ s) (ok : Ok G W F S σ' H ρ' s) (e : ∀ i, W i = .own → σ'[i]? = σ[i]?) : Sat G W F0 H0 L F S σ' H ρ' s :=
  ⟨ok, h.f0, h.ent, fun i a w q => h.trk i a w (by rw [← e i w]; exact q), fun i a w q => h.nf i a w (by rw [← e i w]; exact q),
    fun i j a n w1 w2 q1 q2 => h.dis i j a n w1 w2 (by rw [← e i w1]; exact q1) (by rw [← e j w2]; exact q2), h.rf, h.liv⟩
theorem Sat.dat (h : Sat G W F0 H0 L F S σ H ρ s) {i : Nat} {v : V} {d : D} (w : W i = .dat) (hi : i < σ.length) (r : Rp F H v d) : Sat G W F0 H0 L F S (σ.set i (some v)) H (setV ρ i d) s :=
  h.slots (h.ok.set (by unfold Slot; rw [w]; exact r) hi) fun j wj => List.getElem?_set_ne fun e => by rw [← e, w] at wj; cases wj
theorem old_none {S : SA} {H0 H : Hp} {a : Addr} (g : Pres (inS S) H0 H) (n : ¬ inS S a) (h : H a = none) : H0 a = none := by
  cases e : H0 a with
  | none => rfl
  | some o => rw [g a o n e] at h; cases h
def setAll : L2.St → List Nat → List V → L2.St
  | σ, i :: is, v :: vs => setAll (σ.set i (some v)) is vs
  | σ, _, _ => σ
def setAllV : Rho → List Nat → List D → Rho
  | ρ, i :: is, d :: ds => setAllV (setV ρ i d) is ds
  | ρ, _, _ => ρ
def gIs : List Nat → Gs
  | [] => gNil
  | i :: is => gCons (gVar i) (gIs is)
theorem gIs_set : ∀ (is : List Nat) (ds : List D) (ρ ρ' : Rho), gIs is ds ρ = some ρ' → ρ' = setAllV ρ is ds ∧ ds.length = is.length
  | [], [], ρ, ρ', h => by cases h; exact ⟨rfl, rfl⟩
  | [], _ :: _, _, _, h => by cases h
  | _ :: _, [], _, _, h => by cases h
  | i :: is, d :: ds, ρ, ρ', h => by
    obtain ⟨a, b⟩ := gIs_set is ds (setV ρ i d) ρ' h
    exact ⟨a, congrArg (· + 1) b⟩
theorem Sat.setKs : ∀ {ks : List Kd} {vs : List V} {ds : List D} {Fc : Addr → Prop} {σ : L2.St} {ρ : Rho} (is : List Nat), Sat G W F0 H0 L F S σ H ρ s → RpKs F H Fc ks vs ds → is.map W = ks → (∀ i ∈ is, i < σ.length) →
    (∀ j b, W j = .own → σ[j]? = some (some (.ref b)) → F b → Fc b) → (∀ a, inS S a → Fc a) → (∀ a, F a → ¬ Fc a → H0 a = none) → Sat G W F0 H0 L F S (setAll σ is vs) H (setAllV ρ is ds) s
  | _, _, _, _, _, _, [], h, .nil, e, hl, hc, hs, hn => h
  | _, _, _, _, _, _, _ :: _, h, .nil, e, hl, hc, hs, hn => by cases e
  | _, _, _, _, _, _, [], h, .dat r t, e, hl, hc, hs, hn => by cases e
  | _, _, _, _, _, _, [], h, .own f n o t, e, hl, hc, hs, hn => by cases e
  | _, _, _, _, _, _, i :: is, h, .dat r t, e, hl, hc, hs, hn => by
    simp only [List.map_cons, List.cons.injEq] at e
    refine Sat.setKs is (h.dat e.1 (hl i (by simp)) r) t e.2 (fun j hj => by rw [List.length_set]; exact hl j (List.mem_cons_of_mem _ hj)) (fun j b wj q fb => ?_) hs hn
    have hne : i ≠ j := fun z => by rw [← z, e.1] at wj; cases wj
    rw [List.getElem?_set_ne hne] at q
    exact hc j b wj q fb
  | _, _, _, Fc, σ, ρ, i :: is, h, .own (a := a) (d := d) f n o t, e, hl, hc, hs, hn => by
    simp only [List.map_cons, List.cons.injEq] at e
    have hi := hl i (by simp)
    have at' : ∀ {j : Nat} {b : Addr}, (σ.set i (some (V.ref a)))[j]? = some (some (V.ref b)) → (i = j ∧ b = a) ∨ (i ≠ j ∧ σ[j]? = some (some (V.ref b))) := fun {j b} q => by
      by_cases z : i = j
      · subst z
        rw [List.getElem?_set_self hi] at q
        cases q
        exact .inl ⟨rfl, rfl⟩
      · rw [List.getElem?_set_ne z] at q
        exact .inr ⟨z, q⟩
    refine Sat.setKs is ⟨h.ok.set (v := .ref a) (d := d) ?_ hi, h.f0, h.ent, fun j b wj q => ?_, fun j b wj q fb => ?_, fun j k b hjk wj wk q1 q2 fb => ?_, h.rf, h.liv⟩ t e.2 (fun j hj => by rw [List.length_set]; exact hl j (List.mem_cons_of_mem _ hj)) (fun j b wj q fb => ?_) (fun b q => .inl (hs b q)) fun b f n => hn b f fun z => n (.inl z)
    · unfold Slot
      rw [e.1]
      exact .inl ⟨a, rfl, f, fun z => n (hs a z), o⟩
    · rcases at' q with ⟨_, rfl⟩ | ⟨_, q⟩
      · exact o.live
      · exact h.trk j b wj q
    · rcases at' q with ⟨_, rfl⟩ | ⟨_, q⟩
      · exact hn _ f n
      · exact h.nf j b wj q fb
    · rcases at' q1 with ⟨e1, e2⟩ | ⟨n1, p1⟩
      · rcases at' q2 with ⟨e3, _⟩ | ⟨_, p2⟩
        · exact hjk (e1.symm.trans e3)
        · exact n (by rw [← e2]; exact hc k _ wk p2 fb)
      · rcases at' q2 with ⟨e3, e4⟩ | ⟨_, p2⟩
        · exact n (by rw [← e4]; exact hc j _ wj p1 fb)
        · exact h.dis j k b hjk wj wk p1 p2 fb
    · rcases at' q with ⟨_, rfl⟩ | ⟨_, q⟩
      · exact .inr rfl
      · exact .inl (hc j b wj q fb)
theorem Sat.wide {F' : Addr → Prop} {H' : Hp} {s' : Src} (h : Sat G W F0 H0 L F S σ H ρ s) (w : Wide F H F' H') (g : Pres (inS S) H H') (hs : SrcOk S H' s') : Sat G W F0 H0 L F' S σ H' ρ s' :=
  ⟨h.ok.wide w g hs, fun a f => w.up a (h.f0 a f), h.ent.trans g, fun i a wi q => kept_some g hs (h.trk i a wi q), fun i a wi q f => h.nf i a wi q ((w.new a f).elim (fun f => f) fun z => absurd z (h.trk i a wi q)), fun i j a n wi wj q q' f => h.dis i j a n wi wj q q' ((w.new a f).elim (fun f => f) fun z => absurd z (h.trk i a wi q)), fun r hr => (by
    obtain ⟨p, q, t⟩ := h.rf r hr
    refine ⟨p.trans (g.mono t), fun a f => ?_, t⟩
    rcases w.new a f with f | n
    · exact q a f
    · by_cases z : r.1 a
      · exact .inl z
      · refine .inr ?_
        cases e : r.2 a with
        | none => rfl
        | some o => rw [p a o z e] at n; cases n), h.liv⟩
theorem RpKs.len {Fl : Addr → Prop} {H : Hp} : ∀ {F : Addr → Prop} {ks : List Kd} {vs : List V} {ds : List D}, RpKs Fl H F ks vs ds → vs.length = ds.length
  | _, _, _, _, .nil => rfl
  | _, _, _, _, .dat _ t => congrArg (· + 1) (RpKs.len t)
  | _, _, _, _, .own _ _ _ t => congrArg (· + 1) (RpKs.len t)
/-- behind an assignment of values by kind -/
theorem Sat.put {F' : Addr → Prop} {H' : Hp} {s' : Src} {ks : List Kd} {vs : List V} {ds : List D} {is : List Nat} (h : Sat G W F0 H0 L F S σ H ρ s) (w : Wide F H F' H') (g : Pres (inS S) H H') (hs : SrcOk S H' s') (r : RpKs F' H' F ks vs ds) (e : is.map W = ks) (hl : ∀ i ∈ is, i < σ.length) :
    Sat G W F0 H0 L F' S (setAll σ is vs) H' (setAllV ρ is ds) s' :=
  Sat.setKs (Fc := F) is (h.wide w g hs) r e hl (fun j b wj q f => (w.new b f).elim (fun f => f) fun z => absurd z (h.trk j b wj q)) h.ok.sub fun a f n => (w.new a f).elim (fun z => absurd z n) fun z => old_none h.ent (fun q => n (h.ok.sub a q)) z
/-- an own list gets other items -/
theorem upd_some {H : Hp} {a b : Addr} {u : HO} (h : H b ≠ none) : upd H a u b ≠ none := by
  by_cases z : b = a
  · rw [z, upd_same]; exact fun e => nomatch e
  · rw [upd_ne z]; exact h
theorem Sat.writeG (h : Sat G W F0 H0 L F S σ H ρ s) {i : Nat} {a : Addr} {d d' : D} {u : HO} (w : W i = .own) (hg : getV ρ i = some d) (hv : σ[i]? = some (some (.ref a))) (ha : F a) (hS : ¬ inS S a) (mu : mutO (some u)) (no : Own F (upd H a u) a d') :
    Sat G W F0 H0 L F S σ (upd H a u) (setV ρ i d') s := by
  have pr : Pres F H (upd H a u) := fun b o n e => by rw [upd_ne fun z => n (by rw [z]; exact ha)]; exact e
  have hi : i < σ.length := (List.getElem?_eq_some_iff.mp hv).1
  refine ⟨⟨fun b f => ?_, h.ok.sub, ?_, fun j e hj => ?_, by rw [setV_len]; exact h.ok.len⟩, h.f0, ?_, fun j b wj q => upd_some (h.trk j b wj q), h.nf, h.dis, fun q hq => ⟨?_, (h.rf q hq).2⟩, h.liv⟩
  · by_cases e : b = a
    · subst e; rw [upd_same]; exact mu
    · rw [upd_ne e]; exact h.ok.live b f
  · obtain ⟨v0, q1, q2⟩ := h.ok.slot i d hg
    rw [hv] at q1
    cases q1
    unfold Slot at q2
    rw [w] at q2
    rcases q2 with ⟨b, eb, _, _, o⟩ | ⟨c, r⟩
    · cases eb
      obtain ⟨o1, q3, q4⟩ := o.plain
      exact h.ok.src.upd hS q3 q4
    · cases r with
      | tup n _ _ _ => exact (n ha).elim
      | lst _ _ _ _ => cases c
      | dct _ _ _ _ _ _ _ _ => cases c
  · rcases getV_setV ρ i j _ e hj with ⟨rfl, rfl⟩ | ⟨n, hj⟩
    · refine ⟨_, hv, ?_⟩
      unfold Slot
      rw [w]
      exact .inl ⟨a, rfl, ha, hS, no⟩
    · obtain ⟨v, h1, h2⟩ := h.ok.slot j e hj
      refine ⟨v, h1, ?_⟩
      unfold Slot at *
      cases wj : W j with
      | dat => rw [wj] at h2; exact h2.pres pr
      | own =>
        rw [wj] at h2
        rcases h2 with ⟨b, rfl, f, nb, o⟩ | ⟨c, r⟩
        · exact .inl ⟨b, rfl, f, nb, o.pres pr (upd_ne fun z => h.dis i j a (Ne.symm n) w wj hv (by rw [← z]; exact h1) ha)⟩
        · exact .inr ⟨c, r.pres pr⟩
      | fn => rw [wj] at h2; exact h2
      | src => rw [wj] at h2; exact h2
      | cel => rw [wj] at h2; exact h2
      | scr =>
        rw [wj] at h2
        have mu0 := h.ok.live a ha
        exact ScrV.pres h2 fun a' o u q => by rw [upd_ne (fun z => by rw [z] at q; rw [q] at mu0; exact mu0)]; exact q
  · intro b o n e
    rw [upd_ne fun z => by rw [z, h.nf i a w hv ha] at e; cases e]
    exact h.ent b o n e
  · intro b o n e
    rw [upd_ne fun z => by
      subst z
      rcases (h.rf q hq).2.1 _ ha with k | k
      · exact n k
      · rw [k] at e; cases e]
    exact (h.rf q hq).1 b o n e
/-- an own list gets other items -/
theorem Sat.write (h : Sat G W F0 H0 L F S σ H ρ s) {i : Nat} {a : Addr} {d : D} {xs : List V} {ds : List D} (w : W i = .own) (hg : getV ρ i = some d) (hv : σ[i]? = some (some (.ref a))) (ha : F a) (hS : ¬ inS S a) (z : xs.length ≤ sizeLine) (r : Rps F H xs ds) :
    Sat G W F0 H0 L F S σ (upd H a (.lst xs)) (setV ρ i (.list ds)) s :=
  h.writeG w hg hv ha hS trivial (.inl ⟨xs, ds, rfl, upd_same, z, r.pres fun b o n e => by rw [upd_ne fun z => n (by rw [z]; exact ha)]; exact e⟩)
/-- where an own slot lies -/
theorem Sat.ownG (h : Sat G W F0 H0 L F S σ H ρ s) {i : Nat} {d : D} (w : W i = .own) (hg : getV ρ i = some d) (c : cont d = true) : ∃ a, σ[i]? = some (some (.ref a)) ∧ F a ∧ ¬ inS S a ∧ Own F H a d := by
  obtain ⟨v, h1, h2⟩ := h.ok.slot i d hg
  unfold Slot at h2
  rw [w] at h2
  rcases h2 with ⟨a, rfl, f, n, o⟩ | ⟨c0, _⟩
  · exact ⟨a, h1, f, n, o⟩
  · rw [c] at c0; cases c0
theorem Sat.own (h : Sat G W F0 H0 L F S σ H ρ s) {i : Nat} {d : D} (w : W i = .own) (hg : getV ρ i = some d) (nd : (∀ ds, d ≠ .list ds) → False) : ∃ a xs ds, d = .list ds ∧ σ[i]? = some (some (.ref a)) ∧ F a ∧ ¬ inS S a ∧ H a = some (.lst xs) ∧ xs.length ≤ sizeLine ∧ Rps F H xs ds := by
  have e : ∃ ds, d = .list ds := Classical.byContradiction fun n => nd fun ds e => n ⟨ds, e⟩
  obtain ⟨ds, rfl⟩ := e
  obtain ⟨a, h1, f, n, o⟩ := h.ownG w hg rfl
  obtain ⟨xs, h3, z, r⟩ := o.list
  exact ⟨a, xs, ds, rfl, h1, f, n, h3, z, r⟩
theorem post_dead {α β γ : Type} {m : M α} {f : α → Option β} {k : α → β → M γ} {P : γ → Src → Prop} {s : Src} (n : ∀ a, f a = none) (h : post (bnd m fun a => bnd (opt (f a)) (k a)) P s) : False := by
  rw [post_bnd] at h
  unfold post at h
  split at h
  · rename_i a s' _
    have h : post (bnd (opt (f a)) (k a)) P s' := h
    rw [n a] at h
    exact h
  · exact h
end

/-! ### readings -/
def AfS (G : Gx) (W : Nat → Kd) (F0 : Addr → Prop) (H0 : Hp) (L : List ((Addr → Prop) × Hp)) (S : SA) (D : Ends) (f : Fl) (s' : Src) : Prop := match f with
  | .next ρ' => ∀ F' σ' H', Sat G W F0 H0 L F' S σ' H' ρ' s' → D.nx σ' H'
  | .brk ρ' => ∀ F' σ' H', Sat G W F0 H0 L F' S σ' H' ρ' s' → D.bk σ' H'
  | .cont ρ' => ∀ F' σ' H', Sat G W F0 H0 L F' S σ' H' ρ' s' → D.ct σ' H'
  | .ret d => ∀ v H', Pres (inS S) H0 H' → SrcOk S H' s' → Rp F0 H' v d → D.rt v H'
def tS (G : Gx) (W : Nat → Kd) (m : BA.St) : TS := fun D σ H => ∃ F0 H0 L F S ρ s, Sat G W F0 H0 L F S σ H ρ s ∧ post (m G.C ρ) (AfS G W F0 H0 L S D) s
theorem _root_.L2.PS.weak {X : Cx} {e : Stmt} {t t' : TS} (h : PS X e t) (k : ∀ D σ H, t' D σ H → t D σ H) : PS X e t' := ⟨fun pins s σ H D I q => h.run pins s σ H D I (k D σ H q)⟩
theorem _root_.L2.PSs.weak {X : Cx} {e : List Stmt} {t t' : TS} (h : PSs X e t) (k : ∀ D σ H, t' D σ H → t D σ H) : PSs X e t' := ⟨fun pins s σ H D I q => h.run pins s σ H D I (k D σ H q)⟩

section
variable {G : Gx} {W : Nat → Kd} {X : Cx} {pos : Pos}
theorem ss_nil : PSs X [] (tS G W sNil) := pss_nil.weak fun D σ H ⟨F0, H0, L, F, S, ρ, s, sa, p⟩ => p F σ H sa
theorem ss_cons {st : Stmt} {rest : List Stmt} {a b : BA.St} (h1 : PS X st (tS G W a)) (h2 : PSs X rest (tS G W b)) : PSs X (st :: rest) (tS G W (sSeq a b)) :=
  (pss_cons h1 h2).weak fun D σ H ⟨F0, H0, L, F, S, ρ, s, sa, p⟩ => by
    unfold sSeq at p
    rw [post_bnd] at p
    refine ⟨F0, H0, L, F, S, ρ, s, sa, post_mono p fun f s' q => ?_⟩
    cases f with
    | next ρ' => exact fun F' σ' H' sa' => ⟨F0, H0, L, F', S, ρ', s', sa', q⟩
    | ret d => exact q
    | brk ρ' => exact q
    | cont ρ' => exact q
theorem ss_one {st : Stmt} {a : BA.St} (h1 : PS X st (tS G W a)) : PSs X [st] (tS G W a) := pss_one h1
theorem ss_brk : PS X (.Break pos) (tS G W sBrk) := ps_break.weak fun D σ H ⟨F0, H0, L, F, S, ρ, s, sa, p⟩ => p F σ H sa
theorem ss_cont : PS X (.Continue pos) (tS G W sCont) := ps_continue.weak fun D σ H ⟨F0, H0, L, F, S, ρ, s, sa, p⟩ => p F σ H sa
theorem ss_pass : PS X (.Pass pos) (tS G W sNil) := ps_pass.weak fun D σ H ⟨F0, H0, L, F, S, ρ, s, sa, p⟩ => p F σ H sa

/-- name = e, data -/
theorem ss_set {i : Nat} {x : Str} {e : Expr} {m : E} {pos' : Pos} (hN : X.N.Nodup) (hi : X.N[i]? = some x) (hl : i < X.N.length) (hx : Loc X.env.scope x) (hw : W i = .dat) (he : PE X e (tE G W m)) (hs : swapsWith e (some (.Name x pos')) pos.line X.env = pure false)
    (hf : X.fn x = true ∨ X.env.scope.names.lookup x = some .local) : PS X (.Assign [.Name x pos'] e pos) (tS G W (sSet i m)) :=
  ⟨fun pins s0 σ H D I ⟨F0, H0, L, F, S, ρ, s, sa, p⟩ => (ps_set hN hi hx he hs hf).run pins s0 σ H D I (tE.go sa.ok p fun d s1 v H1 g1 ok1 r1 p1 => p1 _ _ _ ((sa.step g1 ok1.src).dat hw (by rw [I.len]; exact hl) r1))⟩
/-- name = e, a list of its own -/
theorem asg_own {i : Nat} {m : E} {D : Ends} {σ : L2.St} {H : Hp} (hl : i < σ.length) (hw : W i = .own) (q : tS G W (sSet i m) D σ H) : tF G W m σ H fun x H1 => gName i x σ H1 D.nx := by
  obtain ⟨F0, H0, L, F, S, ρ, s, sa, p⟩ := q
  unfold sSet at p
  rw [post_bnd] at p
  refine ⟨F, S, ρ, s, sa.ok, post_mono p fun d s1 p1 a H1 g1 k1 n o => ?_⟩
  have w : Wide F H (fun b => F b ∨ b = a) H1 := ⟨fun c f => .inl f, fun c f => f.elim .inl fun z => .inr (by rw [z]; exact n), fun c f => f.elim (fun f => (sa.ok.step g1 k1).live c f) fun z => by rw [z]; exact o.mut⟩
  exact p1 _ _ _ (sa.put (is := [i]) (ks := [.own]) (vs := [.ref a]) (ds := [d]) w g1 k1 (.own (.inr rfl) (sa.ok.live.new n) o .nil) (by simp [hw]) (fun j hj => by rw [List.mem_singleton.mp hj]; exact hl))
theorem ss_setF {i : Nat} {x : Str} {e : Expr} {m : E} {pos' : Pos} (hN : X.N.Nodup) (hi : X.N[i]? = some x) (hl : i < X.N.length) (hx : Loc X.env.scope x) (hw : W i = .own) (he : PE X e (tF G W m)) (hs : swapsWith e (some (.Name x pos')) pos.line X.env = pure false)
    (hf : X.fn x = true ∨ X.env.scope.names.lookup x = some .local) : PS X (.Assign [.Name x pos'] e pos) (tS G W (sSet i m)) :=
  ⟨fun pins s0 σ H D I q => (ps_set hN hi hx he hs hf).run pins s0 σ H D I (asg_own (by rw [I.len]; exact hl) hw q)⟩
theorem asg_dat {i : Nat} {m : E} {D : Ends} {σ : L2.St} {H : Hp} (hl : i < σ.length) (hw : W i = .dat) (q : tS G W (sSet i m) D σ H) : tF G W m σ H fun x H1 => gName i x σ H1 D.nx := by
  obtain ⟨F0, H0, L, F, S, ρ, s, sa, p⟩ := q
  exact tF.tE (tE.go sa.ok p fun d s1 v H1 g1 ok1 r1 p1 => p1 _ _ _ ((sa.step g1 ok1.src).dat hw hl r1))
theorem asg_any {i : Nat} {m : E} {D : Ends} {σ : L2.St} {H : Hp} (hl : i < σ.length) (hw : (W i = .own ∨ W i = .dat)) (q : tS G W (sSet i m) D σ H) : tF G W m σ H fun x H1 => gName i x σ H1 D.nx := hw.elim (asg_own hl · q) (asg_dat hl · q)
/-- name = [.. for ..] on one line -/
theorem ss_setLc {i : Nat} {y : Str} {py : Pos} {elt tg iter : Expr} {ifs : List Expr} {scope : Scope} {own : List (Str × Nat)} {pos spos : Pos} {m : Es} {g : BA.G} {c : Et} {el : E} {ts : List Nat} (hc : X.calm = true) (hN : X.N.Nodup) (hy : X.N[i]? = some y) (hl : i < X.N.length) (hyl : X.env.scope.names.lookup y = some .local)
    (hw : (W i = .own ∨ W i = .dat)) (hsw : swapsWith (.ListComp elt [⟨tg, iter, ifs, 0⟩] scope pos) (some (.Name y py)) spos.line X.env = pure true) (ht : ∀ i ∈ ts, i ∈ own.map (·.2)) (hi : PI X tg iter (tI G W false m)) (ok : BlkOk X.N X.env.scope scope own)
    (hg : ∀ (s : Shared) (H : Hp) (C : Addr) (cl : List (Str × Addr)) (fp : List Addr), PG (X.blk s H scope (compEnvC scope cl C X.env) fp) tg (tG G W ts g))
    (hif : ∀ (s : Shared) (H : Hp) (C : Addr) (cl : List (Str × Addr)) (fp : List Addr), PTs (X.blk s H scope (compEnvC scope cl C X.env) fp) ifs (tC1 G W c))
    (he : ∀ (s : Shared) (H : Hp) (C : Addr) (cl : List (Str × Addr)) (fp : List Addr), PE (X.blk s H scope (compEnvC scope cl C X.env) fp) elt (tE G W el))
    (hs : ∀ x, foldedSetIterable iter X.env x = pure x) : PS X (.Assign [.Name y py] (.ListComp elt [⟨tg, iter, ifs, 0⟩] scope pos) spos) (tS G W (sSet i (xComp (own.map (·.2)) m g c el))) :=
  ⟨fun pins s0 σ H D I q => (ps_setLc hc hN hy hyl hsw hi ok hg hif he hs).run pins s0 σ H D I (lc_of ht (asg_any (by rw [I.len]; exact hl) hw q))⟩
/-- targets = e, data -/
theorem ss_asg {tg e : Expr} {m : E} {g : BA.G} {ts : List Nat} (he : PE X e (tE G W m)) (hg : PG X tg (tG G W ts g)) (ht : ∀ i ∈ ts, W i = .dat) (hs : swapsWithSole [tg] e pos.line X.env = pure false) (hw : swappedStores [tg] e X.env = pure none)
    (h1 : (assignEach [tg] X.env).map (·.2) = [assign tg X.env]) : PS X (.Assign [tg] e pos) (tS G W (sAsg g m)) :=
  (ps_asg he hg hs hw h1).weak fun D σ H ⟨F0, H0, L, F, S, ρ, s, sa, p⟩ => tE.go sa.ok p fun d s1 v H1 g1 ok1 r1 p1 => by
    rw [post_bnd] at p1
    obtain ⟨ρ', e, q⟩ := post_opt.mp p1
    exact ⟨F, S, ρ, s1, d, ρ', ok1, r1, e, fun σ' ok' t => q F σ' H1 ((sa.step g1 ok1.src).slots ok' fun i wi => t.2 i fun z => by rw [ht i z] at wi; cases wi)⟩
/-- names = values, stored from the right -/
theorem ss_par {i j : Nat} {x y : Str} {a b : Expr} {ks : List Kd} {mr : Es} {px py pt : Pos} {kt k2 pt2} (hc : X.calm = true) (hN : X.N.Nodup) (hi : X.N[i]? = some x) (hj : X.N[j]? = some y) (hij : i ≠ j) (hli : i < X.N.length) (hlj : j < X.N.length)
    (hx : X.env.scope.names.lookup x = some .local) (hy : X.env.scope.names.lookup y = some .local) (hk : [i, j].map W = ks) (ha : PA X [a, b] (tKs G W ks mr))
    (hw : swappedStores [.Tuple [.Name x px, .Name y py] kt pt] (.Tuple [a, b] k2 pt2) X.env = pure (some [x, y]))
    (hs : swapsWithSole [.Tuple [.Name x px, .Name y py] kt pt] (.Tuple [a, b] k2 pt2) pos.line X.env = pure false) :
    PS X (.Assign [.Tuple [.Name x px, .Name y py] kt pt] (.Tuple [a, b] k2 pt2) pos) (tS G W (sPar (gIs [i, j]) mr)) :=
  ⟨fun pins s0 σ H D I ⟨F0, H0, L, F, S, ρ, s, sa, p⟩ => (ps_par hc hN hi hj hij hx hy ha hw hs).run pins s0 σ H D I (by
    unfold sPar at p
    rw [post_bnd] at p
    refine ⟨F, S, ρ, s, sa.ok, post_mono p fun ds s1 p1 vs H1 F1 g1 k1 w1 r1 => ?_⟩
    rw [post_bnd] at p1
    obtain ⟨ρ', e, q⟩ := post_opt.mp p1
    obtain ⟨rfl, hlen⟩ := gIs_set _ _ _ _ e
    have sa1 := sa.put w1 g1 k1 r1 hk fun l hl => by
      rw [I.len]
      simp only [List.mem_cons, List.not_mem_nil, or_false] at hl
      rcases hl with rfl | rfl <;> assumption
    have fin := q _ _ _ sa1
    have hv : vs.length = 2 := by rw [r1.len]; exact hlen
    match vs, hv, fin with
    | [v, w], _, fin => exact ⟨v, w, rfl, fin⟩)⟩
end
end BA

/-! BA11: more statements -/
namespace BA
open PySem PySem.Spec
open PyProof.Rows
open L2 hiding St

section
variable {G : Gx} {W : Nat → Kd} {X : Cx} {pos : Pos}
theorem ss_par3 {i j l : Nat} {x y z : Str} {a b c : Expr} {ks : List Kd} {mr : Es} {px py pz pt pos : Pos} {kt k2 pt2} (hc : X.calm = true) (hN : X.N.Nodup) (hi : X.N[i]? = some x) (hj : X.N[j]? = some y) (hl : X.N[l]? = some z) (hij : i ≠ j) (hil : i ≠ l) (hjl : j ≠ l)
    (hli : i < X.N.length) (hlj : j < X.N.length) (hll : l < X.N.length)
    (hx : X.env.scope.names.lookup x = some .local) (hy : X.env.scope.names.lookup y = some .local) (hz : X.env.scope.names.lookup z = some .local) (hk : [i, j, l].map W = ks) (ha : PA X [a, b, c] (tKs G W ks mr))
    (hw : swappedStores [.Tuple [.Name x px, .Name y py, .Name z pz] kt pt] (.Tuple [a, b, c] k2 pt2) X.env = pure (some [x, y, z]))
    (hs : swapsWithSole [.Tuple [.Name x px, .Name y py, .Name z pz] kt pt] (.Tuple [a, b, c] k2 pt2) pos.line X.env = pure false) :
    PS X (.Assign [.Tuple [.Name x px, .Name y py, .Name z pz] kt pt] (.Tuple [a, b, c] k2 pt2) pos) (tS G W (sPar (gIs [i, j, l]) mr)) :=
  ⟨fun pins s0 σ H D I ⟨F0, H0, L, F, S, ρ, s, sa, p⟩ => (ps_par3 hc hN hi hj hl hij hil hjl hx hy hz ha hw hs).run pins s0 σ H D I (by
    unfold sPar at p
    rw [post_bnd] at p
    refine ⟨F, S, ρ, s, sa.ok, post_mono p fun ds s1 p1 vs H1 F1 g1 k1 w1 r1 => ?_⟩
    rw [post_bnd] at p1
    obtain ⟨ρ', e, q⟩ := post_opt.mp p1
    obtain ⟨rfl, hlen⟩ := gIs_set _ _ _ _ e
    have sa1 := sa.put w1 g1 k1 r1 hk fun l hl => by
      rw [I.len]
      simp only [List.mem_cons, List.not_mem_nil, or_false] at hl
      rcases hl with rfl | rfl | rfl <;> assumption
    have fin := q _ _ _ sa1
    have hv : vs.length = 3 := by rw [r1.len]; exact hlen
    match vs, hv, fin with
    | [v, w, u], _, fin => exact ⟨v, w, u, rfl, fin⟩)⟩
theorem ss_if {c : Expr} {a b : List Stmt} {mc : E} {ma mb : BA.St} (hc : PT X c (tT G W mc)) (ha : PSs X a (tS G W ma)) (hb : PSs X b (tS G W mb)) : PS X (.If c a b pos) (tS G W (sIf mc ma mb)) :=
  (ps_if hc ha hb).weak fun D σ H ⟨F0, H0, L, F, S, ρ, s, sa, p⟩ => tT.go sa.ok p fun k s1 H1 g1 ok1 p1 => by
    cases k with
    | true => exact iteT ⟨F0, H0, L, F, S, ρ, s1, sa.step g1 ok1.src, p1⟩
    | false => exact iteF ⟨F0, H0, L, F, S, ρ, s1, sa.step g1 ok1.src, p1⟩
theorem ss_ret {e : Expr} {m : E} (he : PE X e (tE G W m)) : PS X (.Return (some e) pos) (tS G W (sRet m)) :=
  (ps_ret he).weak fun D σ H ⟨F0, H0, L, F, S, ρ, s, sa, p⟩ => tE.go sa.ok p fun d s1 v H1 g1 ok1 r1 p1 => p1 v H1 (sa.ent.trans g1) ok1.src (r1.move fun a _ f => sa.f0 a f)
theorem ss_retO {i : Nat} {x : Str} {p0 : Pos} (hN : X.N[i]? = some x) (hv : Vis X.env.scope x) (hd : (x == ("__debug__" : Str)) = false) (hcd : (x == ("__classdict__" : Str)) = false) (hw : W i = .own) : PS X (.Return (some (.Name x p0)) pos) (tS G W (sRet (xVar i))) :=
  (ps_ret (pe_var hN hv hd hcd)).weak fun D σ H ⟨F0, H0, L, F, S, ρ, s, sa, p⟩ => by
    unfold sRet xVar at p
    rw [post_bnd] at p
    obtain ⟨d, e, q⟩ := post_opt.mp p
    by_cases hc : cont d = true
    case neg =>
      obtain ⟨v, h1, h2⟩ := sa.ok.slot i d e
      unfold Slot at h2
      rw [hw] at h2
      rcases h2 with ⟨a, rfl, f, n, o⟩ | ⟨_, r⟩
      · rcases o.is with ⟨_, rfl⟩ | ⟨_, rfl⟩ <;> exact (hc rfl).elim
      · exact ⟨v, h1, q _ H sa.ent sa.ok.src (r.move fun b _ f => sa.f0 b f)⟩
    obtain ⟨a, h1, f, n, o⟩ := sa.ownG hw e hc
    have n0 := sa.liv.new (sa.nf i a hw h1 f)
    rcases o with ⟨xs, ds, rfl, h2, z, r⟩ | ⟨ks, vs, ds, es, rfl, h2, z, r, r', k, l⟩
    · exact ⟨_, h1, q _ H sa.ent sa.ok.src (.lst n0 h2 z (r.move fun b _ f => sa.f0 b f))⟩
    · exact ⟨_, h1, q _ H sa.ent sa.ok.src (.dct n0 h2 z (r.move fun b _ f => sa.f0 b f) (r'.move fun b _ f => sa.f0 b f) k rfl l)⟩
theorem ss_retN : PS X (.Return none pos) (tS G W (sRet (xCon .none))) := ps_retN.weak fun D σ H ⟨F0, H0, L, F, S, ρ, s, sa, p⟩ => p .non H sa.ent sa.ok.src .non
theorem ss_while {c : Expr} {body : List Stmt} {mc : E} {mb : BA.St} (hp : PassesOwn (model X.prog X.w) X.A X.env X.xe) (hc : PT X c (tT G W mc)) (hb : PSs X body (tS G W mb)) : PS X (.While c body [] pos) (tS G W (sWhile mc mb)) :=
  (ps_while hp hc hb).weak fun D σ H ⟨F0, H0, L, F, S, ρ, s, sa, p⟩ => by
    refine ⟨fun m σ H => ∃ F ρ s, Sat G W F0 H0 L F S σ H ρ s ∧ post (whileM (mc G.C) (mb G.C) m ρ) (AfS G W F0 H0 L S D) s, ⟨fuelW, F, ρ, s, sa, p⟩, ?_⟩
    clear p sa
    rintro m σ H ⟨F, ρ, s, sa, p⟩
    cases m with
    | zero => exact p.elim
    | succ n =>
      unfold whileM at p
      refine tT.go sa.ok p fun k s1 H1 g1 ok1 p1 => ?_
      have sa1 := sa.step g1 ok1.src
      cases k with
      | false => exact iteF (p1 F σ H1 sa1)
      | true =>
        refine iteT ⟨_, fun σ' H' h => ⟨n, Nat.lt_succ_self n, h⟩, F0, H0, L, F, S, ρ, s1, sa1, ?_⟩
        rw [if_pos rfl, post_bnd] at p1
        refine post_mono p1 fun f s' q => ?_
        cases f with
        | next ρ' => exact fun F' σ' H' sa' => ⟨F', ρ', s', sa', q⟩
        | cont ρ' => exact fun F' σ' H' sa' => ⟨F', ρ', s', sa', q⟩
        | brk ρ' => exact q
        | ret d => exact q
theorem ss_for {tg iter : Expr} {body : List Stmt} {m : Es} {g : BA.G} {mb : BA.St} {ts : List Nat} (hp : PassesOwn (model X.prog X.w) X.A X.env X.xe) (hc : X.calm = true) (hi : PI X tg iter (tI G W true m)) (hg : PG X tg (tG G W ts g)) (ht : ∀ i ∈ ts, W i = .dat) (hb : PSs X body (tS G W mb))
    (hs : ∀ x, foldedSetIterable iter X.env x = pure x) : PS X (.For tg iter body [] pos) (tS G W (sFor g m mb)) :=
  (ps_for hp hc hi hg hb hs).weak fun D σ H ⟨F0, H0, L, F, S, ρ, s, sa, p⟩ => by
    unfold sFor at p
    rw [post_bnd] at p
    refine ⟨F, S, ρ, s, sa.ok, post_mono p fun ds s1 p1 J H1 g1 k1 Y => ?_⟩
    have Y : Yl F F H1 J ds := Y
    have sa1 := (sa.step g1 k1).more
    refine ⟨fun i m σ' H' => m = ds.length - i ∧ i ≤ ds.length ∧ ∃ F' ρ' s', Sat G W F0 H0 ((F, H1) :: L) F' S σ' H' ρ' s' ∧ post (forM g (mb G.C) (ds.drop i) ρ') (AfS G W F0 H0 L S D) s', ⟨ds.length, by simp, Nat.zero_le _, F, ρ, s1, sa1, by rw [List.drop_zero]; exact p1⟩, ?_⟩
    clear sa1 p1 p
    rintro i m σ2 H2 ⟨rfl, hi, F2, ρ2, s2, sa2, p2⟩
    obtain ⟨pr, nw, _⟩ := sa2.rf (F, H1) List.mem_cons_self
    by_cases hlt : i < ds.length
    · refine .inr ⟨Y.go i hlt H2 pr, fun σ' H' => i + 1 ≤ ds.length ∧ ∃ F' ρ' s', Sat G W F0 H0 ((F, H1) :: L) F' S σ' H' ρ' s' ∧ post (forM g (mb G.C) (ds.drop (i + 1)) ρ') (AfS G W F0 H0 L S D) s', fun σ' H' h => ⟨ds.length - (i + 1), by omega, rfl, h.1, h.2⟩, fun x H3 y => ?_⟩
      rw [List.drop_eq_getElem_cons hlt] at p2
      unfold forM at p2
      rw [post_bnd] at p2
      obtain ⟨ρ3, e3, p3⟩ := post_opt.mp p2
      obtain ⟨gr, rx⟩ := Y.yld i ds[i] (List.getElem?_eq_getElem hlt) F2 H2 x H3 pr pr (fun a n f => (nw a f).elim (fun f => f) fun z => absurd z n) sa2.ok.live y
      have sa3 := sa2.grow gr
      refine ⟨F2, S, ρ2, s2, _, ρ3, sa3.ok, rx, e3, fun σ4 ok4 t4 => ?_⟩
      have sa4 := sa3.slots ok4 fun j wj => t4.2 j fun z => by rw [ht j z] at wj; cases wj
      rw [post_bnd] at p3
      refine ⟨F0, H0, (F, H1) :: L, F2, S, ρ3, s2, sa4, post_mono p3 fun f s' q => ?_⟩
      cases f with
      | next ρ' => exact fun F' σ' H' sa' => ⟨hlt, F', ρ', s', sa', q⟩
      | cont ρ' => exact fun F' σ' H' sa' => ⟨hlt, F', ρ', s', sa', q⟩
      | brk ρ' => exact fun F' σ' H' sa' => q F' σ' H' sa'.less
      | ret d => exact q
    · have e : i = ds.length := by omega
      subst e
      rw [List.drop_length] at p2
      exact .inl ⟨Y.stop H2 pr, p2 F2 σ2 H2 sa2.less⟩

/-! own lists changed -/
variable {x : Str} {i : Nat} {p0 apos cpos : Pos}
theorem storeD_some {x k v d : D} (h : storeD x k v = some d) : ∃ xs i j, x = .list xs ∧ k = .int i ∧ ixN xs.length i = some j ∧ d = .list (xs.set j v) := by
  unfold storeD at h
  split at h
  · split at h
    · rename_i j e
      cases h
      exact ⟨_, _, j, rfl, rfl, e, rfl⟩
    · cases h
  · cases h
theorem ss_store {e k : Expr} {m mk : E} {tpos : Pos} (hN : X.N[i]? = some x) (hv : Vis X.env.scope x) (hd : (x == ("__debug__" : Str)) = false) (hcd : (x == ("__classdict__" : Str)) = false) (hw : W i = .own) (he : PE X e (tE G W m)) (hk : PE X k (tB G W mk))
    (ha : ∀ v, assign (.Subscript (.Name x p0) k tpos) X.env v = (do
      let ov ← holding [v] (eval (.Name x p0) X.env)
      let iv ← holding [v, ov] (eval k X.env)
      standAt tpos
      holding [v, ov, iv] (setItem ov iv v)
      release [v, ov, iv] []))
    (hs : swapsWithSole [.Subscript (.Name x p0) k tpos] e pos.line X.env = pure false) (hsw : swappedStores [.Subscript (.Name x p0) k tpos] e X.env = pure none)
    (h1 : (assignEach [.Subscript (.Name x p0) k tpos] X.env).map (·.2) = [assign (.Subscript (.Name x p0) k tpos) X.env]) : PS X (.Assign [.Subscript (.Name x p0) k tpos] e pos) (tS G W (sStore i mk m)) :=
  (ps_asg he (pg_sub (pe_var hN hv hd hcd) hk set_list ha) hs hsw h1).weak fun D σ H ⟨F0, H0, L, F, S, ρ, s, sa, p⟩ => tE.go sa.ok p fun d s1 v H1 g1 ok1 r1 p1 => by
    rw [post_bnd] at p1
    obtain ⟨dl, eg, p2⟩ := post_opt.mp p1
    have sa1 := sa.step g1 ok1.src
    obtain ⟨a, xs, ds, rfl, hσ, f, n, hH, z, r⟩ := sa1.own hw eg fun n => post_dead (fun _ => by cases dl <;> first | rfl | exact (n _ rfl).elim) p2
    refine ⟨_, hσ, tB.go ok1 p2 fun dk s2 w H2 g2 ok2 r2 p3 => ?_⟩
    rw [post_bnd] at p3
    obtain ⟨d', es, q⟩ := post_opt.mp p3
    obtain ⟨xs', k', j, e1, rfl, ej, rfl⟩ := storeD_some es
    cases e1
    have sa2 := sa1.step g2 ok2.src
    have hsub : ∀ a, inS S a → F a := ok1.sub
    refine ⟨a, xs, k', j, rfl, r2.b.int, g2 _ _ n hH, by rw [r.len]; exact ej, ?_⟩
    exact q _ _ _ (sa2.write hw eg hσ f n (by rw [List.length_set]; exact z) ((r.pres (g2.mono hsub)).set (r1.pres (g2.mono hsub)) j))
theorem ss_append {e : Expr} {m : E} (hN : X.N[i]? = some x) (hv : Vis X.env.scope x) (hd : (x == ("__debug__" : Str)) = false) (hcd : (x == ("__classdict__" : Str)) = false) (hw : W i = .own) (he : PE X e (tE G W m))
    (hst : starEach [e] X.env = [(false, eval e X.env)])
    (hbase : attributeBase (.Name x p0) "append" X.env (eval (.Name x p0) X.env) = eval (.Name x p0) X.env)
    (hfew : ((backTo cpos (starEach [e] X.env)).all (fun x => !x.1) && (backToKw cpos (keywordEach [] X.env)).all (fun x => x.1.isSome)
      && decide ([e].length + ([] : List Keyword).length + (if ([] : List Keyword).isEmpty then 0 else 1) < 30)) = true)
    (hline : (apos.endLine == cpos.line) = true) (hs : swapsWith (.Call (.Attribute (.Name x p0) "append" apos) [e] [] cpos) none pos.line X.env = pure false) :
    PS X (.Expr (.Call (.Attribute (.Name x p0) "append" apos) [e] [] cpos) pos) (tS G W (sAppend i m)) :=
  (ps_expr (pe_bm PySem.F.plainAttrs_list PySem.F.slot_list_append PySem.F.type_list_append mt_append (pe_var hN hv hd hcd) (pa_one he hst) hbase hfew hline hst rfl) hs).weak fun D σ H ⟨F0, H0, L, F, S, ρ, s, sa, p⟩ => by
    unfold sAppend at p
    rw [post_bnd] at p
    obtain ⟨dl, eg, p2⟩ := post_opt.mp (show post (opt (getV ρ i)) _ s from p)
    obtain ⟨a, xs, ds, rfl, hσ, f, n, hH, z, r⟩ := sa.own hw eg fun n => post_dead (fun _ => by cases dl <;> first | rfl | exact (n _ rfl).elim) p2
    refine ⟨_, hσ, .inl ⟨rfl, _, SqL.of hH⟩, tE.go sa.ok p2 fun d s1 v H1 g1 ok1 r1 p1 => ?_⟩
    rw [post_bnd] at p1
    obtain ⟨d', es, q⟩ := post_opt.mp p1
    unfold appendD at es
    simp only at es
    split at es
    · rename_i hz
      cases es
      have hlt : xs.length < sizeLine := by
        rw [r.len, sizeLine_eq]
        simpa using hz
      refine ⟨a, xs, v, rfl, rfl, g1 _ _ n hH, hlt, ?_⟩
      exact q _ _ _ ((sa.step g1 ok1.src).write hw eg hσ f n (by rw [List.length_append]; exact hlt) ((r.pres (g1.mono sa.ok.sub)).app (.cons r1 .nil)))
    · cases es
theorem ss_extend {e : Expr} {m : E} (hN : X.N[i]? = some x) (hv : Vis X.env.scope x) (hd : (x == ("__debug__" : Str)) = false) (hcd : (x == ("__classdict__" : Str)) = false) (hw : W i = .own) (he : PE X e (tB G W m))
    (hst : starEach [e] X.env = [(false, eval e X.env)])
    (hbase : attributeBase (.Name x p0) "extend" X.env (eval (.Name x p0) X.env) = eval (.Name x p0) X.env)
    (hfew : ((backTo cpos (starEach [e] X.env)).all (fun x => !x.1) && (backToKw cpos (keywordEach [] X.env)).all (fun x => x.1.isSome)
      && decide ([e].length + ([] : List Keyword).length + (if ([] : List Keyword).isEmpty then 0 else 1) < 30)) = true)
    (hline : (apos.endLine == cpos.line) = true) (hs : swapsWith (.Call (.Attribute (.Name x p0) "extend" apos) [e] [] cpos) none pos.line X.env = pure false) :
    PS X (.Expr (.Call (.Attribute (.Name x p0) "extend" apos) [e] [] cpos) pos) (tS G W (sExtend i m)) :=
  (ps_expr (pe_bm PySem.F.plainAttrs_list PySem.F.slot_list_extend PySem.F.type_list_extend mt_extend (pe_var hN hv hd hcd) (pa_one he hst) hbase hfew hline hst rfl) hs).weak fun D σ H ⟨F0, H0, L, F, S, ρ, s, sa, p⟩ => by
    unfold sExtend at p
    rw [post_bnd] at p
    obtain ⟨dl, eg, p2⟩ := post_opt.mp (show post (opt (getV ρ i)) _ s from p)
    obtain ⟨a, xs, ds, rfl, hσ, f, n, hH, z, r⟩ := sa.own hw eg fun n => post_dead (fun _ => by cases dl <;> first | rfl | exact (n _ rfl).elim) p2
    refine ⟨_, hσ, .inl ⟨rfl, _, SqL.of hH⟩, tB.go sa.ok p2 fun d s1 v H1 g1 ok1 r1 p1 => ?_⟩
    rw [post_bnd] at p1
    obtain ⟨d', es, q⟩ := post_opt.mp p1
    unfold extendD at es
    simp only at es
    split at es
    · split at es
      · rename_i hz
        cases es
        obtain ⟨b, ys, rfl, hB, zb, rb⟩ := r1.b.list
        have hlt : xs.length + ys.length ≤ sizeLine := by
          rw [r.len, rb.len]
          exact szOk_le hz
        refine ⟨a, b, xs, ys, rfl, rfl, g1 _ _ n hH, hB, hlt, ?_⟩
        exact q _ _ _ ((sa.step g1 ok1.src).write hw eg hσ f n (by rw [List.length_append]; exact hlt) ((r.pres (g1.mono sa.ok.sub)).app rb))
      · cases es
    · cases es
theorem popD_some {x : D} {p : D × D} (h : popD x = some p) : ∃ xs y, x = .list xs ∧ xs[xs.length - 1]? = some y ∧ p = (y, .list xs.dropLast) := by
  unfold popD at h
  split at h
  · split at h
    · rename_i y e
      cases h
      exact ⟨_, y, rfl, e, rfl⟩
    · cases h
  · cases h
theorem ss_pop {tg : Expr} {g : BA.G} {ts : List Nat} (hN : X.N[i]? = some x) (hv : Vis X.env.scope x) (hd : (x == ("__debug__" : Str)) = false) (hcd : (x == ("__classdict__" : Str)) = false) (hw : W i = .own) (hg : PG X tg (tG G W ts g)) (ht : ∀ i ∈ ts, W i = .dat)
    (hbase : attributeBase (.Name x p0) "pop" X.env (eval (.Name x p0) X.env) = eval (.Name x p0) X.env) (hline : (apos.endLine == cpos.line) = true)
    (hs : swapsWithSole [tg] (.Call (.Attribute (.Name x p0) "pop" apos) [] [] cpos) pos.line X.env = pure false) (hsw : swappedStores [tg] (.Call (.Attribute (.Name x p0) "pop" apos) [] [] cpos) X.env = pure none)
    (h1 : (assignEach [tg] X.env).map (·.2) = [assign tg X.env]) : PS X (.Assign [tg] (.Call (.Attribute (.Name x p0) "pop" apos) [] [] cpos) pos) (tS G W (sPop g i)) :=
  (ps_asg (pe_bm0 PySem.F.plainAttrs_list PySem.F.slot_list_pop PySem.F.type_list_pop mt_pop (pe_var hN hv hd hcd) hbase hline) hg hs hsw h1).weak fun D σ H ⟨F0, H0, L, F, S, ρ, s, sa, p⟩ => by
    unfold sPop at p
    rw [post_bnd] at p
    obtain ⟨dl, eg, p2⟩ := post_opt.mp p
    rw [post_bnd] at p2
    obtain ⟨pr, ep, p3⟩ := post_opt.mp p2
    rw [post_bnd] at p3
    obtain ⟨ρ', er, q⟩ := post_opt.mp p3
    clear p p2 p3
    obtain ⟨a, xs, ds, rfl, hσ, f, n, hH, z, r⟩ := sa.own hw eg fun n => by
      obtain ⟨ds', y, e1, hy, rfl⟩ := popD_some ep
      exact n _ e1
    obtain ⟨ds', y, e1, hy, rfl⟩ := popD_some ep
    cases e1
    obtain ⟨v, hvx, rv⟩ := r.get hy
    have sa1 := sa.write (xs := xs.dropLast) (ds := ds.dropLast) hw eg hσ f n (by rw [List.length_dropLast]; omega) r.dropLast
    have pr : Pres F H (upd H a (.lst xs.dropLast)) := fun b o n e => by rw [upd_ne fun z => n (by rw [z]; exact f)]; exact e
    refine ⟨_, hσ, .inl ⟨rfl, _, SqL.of hH⟩, a, xs, v, rfl, rfl, hH, by rw [r.len]; exact hvx, F, S, _, s, y, ρ', sa1.ok, rv.pres pr, er, fun σ' ok' t => q F σ' _ (sa1.slots ok' fun i wi => t.2 i fun z => by rw [ht i z] at wi; cases wi)⟩
/-- name op= e, numbers -/
theorem ss_aug {e : Expr} {m : E} {o : Operator} (hN : X.N.Nodup) (hi : X.N[i]? = some x) (hl : i < X.N.length) (hx : Loc X.env.scope x) (hw : W i = .dat) (ho : o = .Add ∨ o = .Sub) (he : PE X e (tE G W m)) (hf : X.fn x = true ∨ X.env.scope.names.lookup x = some .local) :
    PS X (.AugAssign (.Name x p0) o e pos) (tS G W (sAug i o m)) := by
  have main : ∀ {f : Int → Int → Int}, (∀ a b, augI o a b = some (.int (f a b))) → PIp X o (ipI f) → PS X (.AugAssign (.Name x p0) o e pos) (tS G W (sAug i o m)) := fun {f} hf2 hp =>
    ⟨fun pins s0 σ H D I ⟨F0, H0, L, F, S, ρ, s, sa, p⟩ => (ps_aug hN hi hx he hp hf).run pins s0 σ H D I (by
      unfold sAug at p
      rw [post_bnd] at p
      obtain ⟨dl, eg, p2⟩ := post_opt.mp (show post (opt (getV ρ i)) _ s from p)
      obtain ⟨v, h1, h2⟩ := sa.ok.slot i dl eg
      unfold Slot at h2
      rw [hw] at h2
      refine ⟨v, h1, tE.go sa.ok p2 fun d s1 w H1 g1 ok1 r1 p1 => ?_⟩
      rw [post_bnd] at p1
      obtain ⟨a, ea, p1⟩ := post_opt.mp p1
      rw [post_bnd] at p1
      obtain ⟨b, eb, p1⟩ := post_opt.mp p1
      rw [post_bnd] at p1
      obtain ⟨c, ec, q⟩ := post_opt.mp p1
      clear p1
      have e1 := asI_some ea
      have e2 := asI_some eb
      subst e1 e2
      rw [hf2] at ec
      cases ec
      cases h2
      cases r1
      exact ⟨a, b, rfl, rfl, q _ _ _ ((sa.step g1 ok1.src).dat hw (by rw [I.len]; exact hl) (.int _))⟩)⟩
  rcases ho with rfl | rfl
  · exact main (fun _ _ => rfl) ip_add
  · exact main (fun _ _ => rfl) ip_sub
end
end BA

/-! BA12: calls -/
namespace BA
open PySem PySem.Spec
open PyProof.Rows
open L2 hiding St

/-! ### promises of defs -/
def RpKd (G : Gx) (κ : Kd) (F : Addr → Prop) (S : SA) (H : Hp) (v : V) (d : D) : Prop := match κ with
  | .dat => Rp F H v d
  | .own => False
  | .fn => FnV G v d
  | .src => ∃ p q, v = .ref p ∧ S.src = some (p, q) ∧ d = .none
  | .cel => False
  | .scr => ScrV G.K S H v d
inductive ArgR (G : Gx) (F : Addr → Prop) (S : SA) (H : Hp) : List Kd → List V → List D → Prop
  | nil : ArgR G F S H [] [] []
  | cons {κ : Kd} {κs : List Kd} {v : V} {vs : List V} {d : D} {ds : List D} : RpKd G κ F S H v d → ArgR G F S H κs vs ds → ArgR G F S H (κ :: κs) (v :: vs) (d :: ds)
theorem ArgR.len {G : Gx} {F : Addr → Prop} {S : SA} {H : Hp} : ∀ {κs : List Kd} {vs : List V} {ds : List D}, ArgR G F S H κs vs ds → vs.length = κs.length ∧ ds.length = κs.length
  | _, _, _, .nil => ⟨rfl, rfl⟩
  | _, _, _, .cons _ t => ⟨congrArg (· + 1) (ArgR.len t).1, congrArg (· + 1) (ArgR.len t).2⟩
/-- of the def with the number f -/
def spOf (G : Gx) (κs : List Kd) (f : Nat) : Sp := fun vs H Q _ => ∃ F S ds s, Live F H ∧ (∀ a, inS S a → F a) ∧ (SrcOk S H s ∧ ∀ x ∈ G.T, x ∈ S.tab) ∧ ArgR G F S H κs vs ds ∧ post (G.C f ds) (fun d s' => ∀ v H', Pres (inS S) H H' → SrcOk S H' s' → Rp F H' v d → Q v H') s
theorem spOf_len {G : Gx} {κs : List Kd} {f : Nat} {ps : List Str} (e : κs.length = ps.length) : ∀ vs H Q E, spOf G κs f vs H Q E → vs.length = ps.length := fun vs H Q E ⟨F, S, ds, s, _, _, _, r, _⟩ => r.len.1.trans e

/-- argument lists by kind -/
def tAs (G : Gx) (W : Nat → Kd) (κs : List Kd) (m : Es) : TA := fun σ H Q => ∃ F S ρ s, Ok G W F S σ H ρ s ∧ post (m G.C ρ) (fun ds s' => ∀ vs H', Pres (inS S) H H' → SrcOk S H' s' → ArgR G F S H' κs vs ds → Q vs H') s
theorem tAs.go {G : Gx} {W : Nat → Kd} {F : Addr → Prop} {S : SA} {σ : L2.St} {H : Hp} {ρ : Rho} {s : Src} {β : Type} {κs : List Kd} {m : Es} {f : List D → M β} {P : β → Src → Prop} {Q : List V → Hp → Prop} (ok : Ok G W F S σ H ρ s) (h : post (bnd (m G.C ρ) f) P s)
    (k : ∀ d s' v H', Pres (inS S) H H' → Ok G W F S σ H' ρ s' → ArgR G F S H' κs v d → post (f d) P s' → Q v H') : tAs G W κs m σ H Q := by
  rw [post_bnd] at h
  exact ⟨F, S, ρ, s, ok, post_mono h fun d s' p v H' g hs r => k d s' v H' g (ok.step g hs) r p⟩
section
variable {G : Gx} {W : Nat → Kd} {X : Cx} {a : Expr} {r : List Expr} {ma : E} {mr : Es} {κs : List Kd} {pos p : Pos}
theorem sp_nil : PA X [] (tAs G W [] xNil) := pa_nil.weak fun σ H Q ⟨F, S, ρ, s, ok, p⟩ => p _ _ (.refl _) ok.src .nil
theorem sp_dat (ha : PE X a (tE G W ma)) (hr : PA X r (tAs G W κs mr)) (hs : starEach (a :: r) X.env = (false, eval a X.env) :: starEach r X.env) : PA X (a :: r) (tAs G W (.dat :: κs) (xCons ma mr)) :=
  (pa_cons ha hr hs).weak fun σ H Q ⟨F, S, ρ, s, ok, p⟩ => tE.go ok p fun d s1 v H1 g1 ok1 r1 p1 => tAs.go ok1 p1 fun d2 s2 v2 H2 g2 ok2 r2 p2 => p2 _ _ (g1.trans g2) ok2.src (.cons (r1.pres (g2.mono ok.sub)) r2)
theorem sp_src {i : Nat} {x : Str} (hN : X.N[i]? = some x) (hv : Vis X.env.scope x) (hd : (x == ("__debug__" : Str)) = false) (hcd : (x == ("__classdict__" : Str)) = false) (hw : W i = .src) (hr : PA X r (tAs G W κs mr)) (hs : starEach (.Name x p :: r) X.env = (false, eval (.Name x p) X.env) :: starEach r X.env) :
    PA X (.Name x p :: r) (tAs G W (.src :: κs) (xCons (xVar i) mr)) :=
  (pa_cons (pe_var hN hv hd hcd) hr hs).weak fun σ H Q ⟨F, S, ρ, s, ok, p⟩ => by
    unfold xCons xVar at p
    rw [post_bnd] at p
    obtain ⟨d, e, p⟩ := post_opt.mp p
    obtain ⟨v, h1, h2⟩ := ok.slot i d e
    unfold Slot at h2
    rw [hw] at h2
    exact ⟨v, h1, tAs.go ok p fun d2 s2 v2 H2 g2 ok2 r2 p2 => p2 _ _ g2 ok2.src (.cons h2 r2)⟩
theorem sp_fnl {i : Nat} {x : Str} (hN : X.N[i]? = some x) (hv : Vis X.env.scope x) (hd : (x == ("__debug__" : Str)) = false) (hcd : (x == ("__classdict__" : Str)) = false) (hw : W i = .fn) (hr : PA X r (tAs G W κs mr)) (hs : starEach (.Name x p :: r) X.env = (false, eval (.Name x p) X.env) :: starEach r X.env) :
    PA X (.Name x p :: r) (tAs G W (.fn :: κs) (xCons (xVar i) mr)) :=
  (pa_cons (pe_var hN hv hd hcd) hr hs).weak fun σ H Q ⟨F, S, ρ, s, ok, p⟩ => by
    unfold xCons xVar at p
    rw [post_bnd] at p
    obtain ⟨d, e, p⟩ := post_opt.mp p
    obtain ⟨v, h1, h2⟩ := ok.slot i d e
    unfold Slot at h2
    rw [hw] at h2
    exact ⟨v, h1, tAs.go ok p fun d2 s2 v2 H2 g2 ok2 r2 p2 => p2 _ _ g2 ok2.src (.cons h2 r2)⟩
variable {CX : CXT} {k : Nat} {fa : Addr} {fd : FuncData} {ps : List Str} {x : Str} {e : Expr} {es : List Expr} {f : Nat}
theorem se_call (F : FnG X.prog X.w X.K X.mg X.base CX0 k fa fd ps (spOf G κs f)) (hr : GRoom k X.A) (hg : Gl X x) (hm : X.mg x = some (.ref fa)) (hk : PySem.W.keepIn X.K (.ref fa) = true) (hb : Binds X.K fd ps [])
    (ha : PA X (e :: es) (tAs G W κs mr)) (hdb : (x == ("__debug__" : Str)) = false) (he : starEach (e :: es) X.env = (false, eval e X.env) :: starEach es X.env) (hpl : (backTo pos (starEach es X.env)).any (·.1) = false) :
    PE X (.Call (.Name x p) (e :: es) [] pos) (tE G W (xCall f mr)) :=
  (pe_callG (E := E0) F hr hg hm hk hb pass0 ha hdb he hpl).weak fun σ H Q ⟨F, S, ρ, s, ok, p⟩ => tAs.go ok p fun ds s1 vs H1 g1 ok1 r1 p1 => by
    show spOf G κs f (vs ++ []) H1 Q E0
    rw [List.append_nil]
    exact ⟨F, S, ds, s1, ok1.live, ok1.sub, ⟨ok1.src, ok1.len.2⟩, r1, post_mono p1 fun d s' q v H' g hs rv => q v H' (g1.trans g) hs rv⟩
theorem se_call0 (F : FnG X.prog X.w X.K X.mg X.base CX0 k fa fd ps (spOf G [] f)) (hr : GRoom k X.A) (hg : Gl X x) (hm : X.mg x = some (.ref fa)) (hk : PySem.W.keepIn X.K (.ref fa) = true) (hb : Binds X.K fd ps [])
    (hdb : (x == ("__debug__" : Str)) = false) : PE X (.Call (.Name x p) [] [] pos) (tE G W (xCall f xNil)) :=
  (pe_callG0 (E := E0) F hr hg hm hk hb pass0 hdb).weak fun σ H Q ⟨F, S, ρ, s, ok, p⟩ => by
    unfold xCall xNil at p
    exact ⟨F, S, [], s, ok.live, ok.sub, ⟨ok.src, ok.len.2⟩, .nil, p⟩
/-- built-in functions -/
theorem tCB_of {q : Pm} {σ : L2.St} {H : Hp} {Q : VK} (h : tE G W (xPrim q mr) σ H Q) : tCB (RC (prim q)) (tBs G W mr) σ H Q := by
  obtain ⟨F, S, ρ, s, ok, p⟩ := h
  refine tBs.go ok p fun ds s1 vs H1 g1 ok1 r1 p1 => ?_
  obtain ⟨d, e, q⟩ := post_opt.mp p1
  exact ⟨F, ds, d, ok1.live, r1.b, e, fun v H' g rv => q v H' (g1.trans g.pres) (ok1.src.grow g) rv⟩
theorem se_primB {q : Pm} {id : String} (hc : CallR X (.builtin id) (RC (prim q))) (hg : Gl X x) (hm : X.mg x = none) (hv : bootBuiltins x = some (.builtin id)) (ha : PA X (e :: es) (tBs G W mr)) (hn : x ≠ "__name__") (hdb : (x == ("__debug__" : Str)) = false)
    (he : starEach (e :: es) X.env = (false, eval e X.env) :: starEach es X.env) (hpl : (backTo pos (starEach es X.env)).any (·.1) = false) : PE X (.Call (.Name x p) (e :: es) [] pos) (tE G W (xPrim q mr)) :=
  (pe_callB hc hg hm hv ha hn hdb he hpl).weak fun σ H Q h => tCB_of h
theorem se_primT {q : Pm} {id : String} (hc : CallR X (.type id) (RC (prim q))) (hg : Gl X x) (hm : X.mg x = none) (hv : bootBuiltins x = some (.type id)) (ha : PA X (e :: es) (tBs G W mr)) (hn : x ≠ "__name__") (hdb : (x == ("__debug__" : Str)) = false)
    (he : starEach (e :: es) X.env = (false, eval e X.env) :: starEach es X.env) (hpl : (backTo pos (starEach es X.env)).any (·.1) = false) : PE X (.Call (.Name x p) (e :: es) [] pos) (tE G W (xPrim q mr)) :=
  (pe_callTy hc hg hm hv ha hn hdb he hpl).weak fun σ H Q h => tCB_of h
/-- list(..), a list of one's own -/
theorem sf_list (hg : Gl X "list") (hm : X.mg "list" = none) (hv : bootBuiltins "list" = some (.type "list")) (ha : PA X [e] (tBs G W mr)) 
    (he : starEach [e] X.env = [(false, eval e X.env)]) : PE X (.Call (.Name "list" p) [e] [] pos) (tF G W (xPrim .list mr)) :=
  (pe_callTy call_list_of hg hm hv ha (by decide) rfl he rfl).weak fun σ H Q ⟨F, S, ρ, s, ok, p⟩ => tBs.go ok p fun ds s1 vs H1 g1 ok1 r1 p1 => by
    obtain ⟨d, e, q⟩ := post_opt.mp p1
    simp only [prim] at e
    obtain ⟨y, rfl, e⟩ := one_of e
    obtain ⟨v, rfl, rx⟩ := r1.b.one
    obtain ⟨ys, hy, rfl⟩ := Option.map_eq_some_iff.mp e
    obtain ⟨b, xs, rfl, h, z, ra⟩ := rx.seq hy
    refine ⟨b, xs, rfl, h.elim (fun h => .inl (SqL.of h.1)) (fun h => .inr (SqT.of h.1)), fun p hp => ?_⟩
    have hp0 : H p = none := by
      cases e : H p with
      | none => rfl
      | some o => rw [g1 p o (fun f => ok1.live.new hp (ok.sub p f)) e] at hp; cases hp
    refine q _ _ (g1.trans (Grow.new hp).pres) (ok1.src.grow (.new hp)) hp0 (.inl ⟨_, _, rfl, upd_same, z, ?_⟩)
    exact (ra.move fun b n f => f.elim (fun f => f) fun z => absurd hp (by rw [← z]; exact n)).pres (Grow.new hp).pres
end
end BA

/-! BA13: repr, defs -/
namespace BA
open PySem PySem.Spec
open PyProof.Rows
open L2 hiding St

/-! ### repr -/
mutual
def rok : D → Bool
  | .int i => decide (i.natAbs.log2 < 1920)
  | .str x => PyData.strOk x
  | .list xs => rokA xs
  | .tuple xs => rokA xs
  | .dict _ => false
  | _ => true
def rokA : List D → Bool
  | [] => true
  | x :: xs => rok x && rokA xs
end
mutual
def wt : D → Nat
  | .int _ => 2000
  | .str x => 10 * x.length + 2
  | .list xs => 2 + wtA xs
  | .tuple xs => 3 + wtA xs
  | _ => 6
def wtA : List D → Nat
  | [] => 0
  | x :: xs => wt x + 2 + wtA xs
end
theorem textFrom_le : ∀ (ts : List Str) (k : Nat) (acc : Str), (textFrom k acc ts).length ≤ acc.length + piled ts
  | [], k, acc => by
    unfold textFrom
    omega
  | t :: r, k, acc => by
    have ih := textFrom_le r (k + 1) (acc ++ (if k > 0 then ", " else "" : String) ++ t)
    rw [piled_cons]
    rw [show textFrom k acc (t :: r) = textFrom (k + 1) (acc ++ (if k > 0 then ", " else "" : String) ++ t) r from rfl]
    rw [Str.length_append, Str.length_append] at ih
    have h2 : (Str.ofString (if k > 0 then ", " else "" : String)).length ≤ 2 := by split <;> decide
    omega
theorem join_le (ts : List Str) : (Str.join ", " ts).length ≤ piled ts := by
  cases ts with
  | nil => exact Nat.zero_le _
  | cons t r =>
    have := join_length_add (t :: r) (by simp)
    omega
mutual
theorem rok_ok : ∀ {d : D}, rok d = true → d.showable = true ∧ d.shown.length ≤ wt d
  | .none, _ => ⟨rfl, by simp only [PyData.shown, wt]; decide⟩
  | .bool b, _ => ⟨rfl, by simp only [PyData.shown, wt]; cases b <;> decide⟩
  | .int i, h => by
    simp only [rok] at h
    refine ⟨h, ?_⟩
    have e := int_text_length_le (k := 1920) (by decide) (of_decide_eq_true h)
    simp only [PyData.shown, wt]
    show (Str.ofString (toString i)).length ≤ _
    rw [PySem.ofString_length]
    omega
  | .str x, h => by
    simp only [rok, PyData.strOk, Array.all_eq_true'] at h
    refine ⟨rfl, ?_⟩
    simp only [PyData.shown, wt]
    refine StrLaws.reprText_len x fun c hc => ?_
    have := h c (by simpa using hc)
    simp only [decide_eq_true_eq] at this
    have : (16:Nat) ^ 8 = 4294967296 := by decide
    omega
  | .list xs, h => by
    simp only [rok] at h
    obtain ⟨a, b⟩ := rokA_ok h
    simp only [PyData.showable, PyData.shown, wt]
    refine ⟨a, ?_⟩
    unfold listText
    have := textFrom_le (PyData.shownAll xs) 0 "["
    have e1 : (Str.ofString "[").length = 1 := by decide
    have e2 : (Str.ofString "]").length = 1 := by decide
    rw [Str.length_append]
    omega
  | .tuple xs, h => by
    simp only [rok] at h
    obtain ⟨a, b⟩ := rokA_ok h
    simp only [PyData.showable, PyData.shown, wt]
    refine ⟨a, ?_⟩
    unfold tupleText
    have := join_le (PyData.shownAll xs)
    have e1 : (Str.ofString "(").length = 1 := by decide
    have e2 : (Str.ofString (if (PyData.shownAll xs).length == 1 then ",)" else ")" : String)).length ≤ 2 := by split <;> decide
    rw [Str.length_append, Str.length_append]
    omega
  | .dict _, h => by cases h
theorem rokA_ok : ∀ {ds : List D}, rokA ds = true → PyData.showableAll ds = true ∧ piled (PyData.shownAll ds) ≤ wtA ds
  | [], _ => ⟨rfl, Nat.zero_le _⟩
  | x :: xs, h => by
    simp only [rokA, Bool.and_eq_true] at h
    obtain ⟨a, b⟩ := rok_ok h.1
    obtain ⟨c, d⟩ := rokA_ok h.2
    simp only [PyData.showableAll, PyData.shownAll, wtA, Bool.and_eq_true]
    refine ⟨⟨a, c⟩, ?_⟩
    rw [piled_cons]
    omega
end
mutual
theorem rok_noD : ∀ {d : D}, rok d = true → d.hasDict = false
  | .none, _ => rfl
  | .bool _, _ => rfl
  | .int _, _ => rfl
  | .str _, _ => rfl
  | .list xs, h => by simp only [rok] at h; simp only [PyData.hasDict]; exact rokA_noD h
  | .tuple xs, h => by simp only [rok] at h; simp only [PyData.hasDict]; exact rokA_noD h
  | .dict _, h => by cases h
theorem rokA_noD : ∀ {ds : List D}, rokA ds = true → PyData.hasDictAll ds = false
  | [], _ => rfl
  | x :: xs, h => by
    simp only [rokA, Bool.and_eq_true] at h
    simp only [PyData.hasDictAll, rok_noD h.1, rokA_noD h.2, Bool.or_self]
end
def repOk (x : D) : Bool := rok x && decide (x.depth ≤ 64) && Nat.ble (wt x) 16777216
theorem repOk_ok {x : D} (h : repOk x = true) : x.showable = true ∧ x.depth ≤ 64 ∧ x.shown.length ≤ sizeLine := by
  unfold repOk at h
  simp only [Bool.and_eq_true, decide_eq_true_eq] at h
  obtain ⟨a, b⟩ := rok_ok h.1.1
  exact ⟨a, h.1.2, by rw [sizeLine_eq]; exact Nat.le_trans b (Nat.le_of_ble_eq_true h.2)⟩
def reprD (xs : List D) : Option D := match xs with
  | [x] => if repOk x then some (.str x.shown) else none
  | _ => none
section
variable {X : Cx}
theorem pr_repr (hu : X.A.units + 65 < cLine) (hg : X.A.guards = some []) : CallR X (.builtin "repr") (RC reprD) := by
  intro pins s σ H vs us Q I r ⟨F, ds, d, l, rs, e, q⟩
  unfold reprD at e
  obtain ⟨x, rfl, e⟩ := one_of e
  obtain ⟨v, rfl, rx⟩ := rs.one
  have e : (if repOk x = true then some (PyData.str x.shown) else none) = some d := e
  by_cases ho : repOk x = true
  · rw [if_pos ho] at e
    cases e
    obtain ⟨hs, hd, hz⟩ := repOk_ok ho
    obtain ⟨u, rfl, ru⟩ := r.one
    have nd : x.hasDict = false := by
      unfold repOk at ho
      simp only [Bool.and_eq_true] at ho
      exact rok_noD ho.1.1
    obtain ⟨as, rd⟩ := Dp.reads I x v u (rx.dp (K := X.K) nd) ru
    have fin : ∀ (h' : Heap) (t : Tok) (tk : Nat), (∀ b o, s.heap.get? b = some o → h'.get? b = some o) → EP X pins σ Q (.str x.shown t) { s with heap := h', toks := tk } := fun h' t tk hk =>
      ⟨.str x.shown, H, I.kept (t' := tk) hk, ⟨_, rfl⟩, q _ _ (.refl _) (.str _)⟩
    rcases hcase : u with _ | _ | _ | _ | _ | _ | _ | _ | _
    all_goals subst hcase
    all_goals first
      | (cases rd; exact P.repr_of_none (fin _ _ _ fun _ _ h => h))
      | (cases rd; exact P.repr_of_bool (fin _ _ _ fun _ _ h => h))
      | (cases rd; exact P.repr_of_int (by simpa [PyData.showable] using hs) (fin _ _ _ fun _ _ h => h))
      | (cases rd; exact P.repr_of_str (fin _ _ _ fun _ _ h => h) hz)
      | exact repr_of_reads' rd hs (fun h => by rw [nd] at h; cases h) hg (by omega) (fun _ _ h => h) (fun h' t tk hk => fin h' t tk hk) hz
      | (cases rd; done)
  · rw [if_neg ho] at e
    cases e
end
end BA

/-! BA14: repr against repr; defs -/
namespace BA
open PySem PySem.Spec
open PyProof.Rows
open L2 hiding St

mutual
def sameD : D → D → Bool
  | .none, .none => true
  | .bool a, .bool b => a == b
  | .int a, .int b => decide (a = b)
  | .str a, .str b => decide (a = b)
  | .list xs, .list ys => sameA xs ys
  | .tuple xs, .tuple ys => sameA xs ys
  | _, _ => false
def sameA : List D → List D → Bool
  | [], [] => true
  | x :: xs, y :: ys => sameD x y && sameA xs ys
  | _, _ => false
end
mutual
theorem sameD_eq : ∀ {x y : D}, sameD x y = true → x = y
  | .none, .none, _ => rfl
  | .bool a, .bool b, h => by simp only [sameD, beq_iff_eq] at h; rw [h]
  | .int a, .int b, h => by simp only [sameD, decide_eq_true_eq] at h; rw [h]
  | .str a, .str b, h => by simp only [sameD, decide_eq_true_eq] at h; rw [h]
  | .list xs, .list ys, h => by simp only [sameD] at h; rw [sameA_eq h]
  | .tuple xs, .tuple ys, h => by simp only [sameD] at h; rw [sameA_eq h]
  | .none, .bool _, h | .none, .int _, h | .none, .str _, h | .none, .list _, h | .none, .tuple _, h | .none, .dict _, h => by simp [sameD] at h
  | .bool _, .none, h | .bool _, .int _, h | .bool _, .str _, h | .bool _, .list _, h | .bool _, .tuple _, h | .bool _, .dict _, h => by simp [sameD] at h
  | .int _, .none, h | .int _, .bool _, h | .int _, .str _, h | .int _, .list _, h | .int _, .tuple _, h | .int _, .dict _, h => by simp [sameD] at h
  | .str _, .none, h | .str _, .bool _, h | .str _, .int _, h | .str _, .list _, h | .str _, .tuple _, h | .str _, .dict _, h => by simp [sameD] at h
  | .list _, .none, h | .list _, .bool _, h | .list _, .int _, h | .list _, .str _, h | .list _, .tuple _, h | .list _, .dict _, h => by simp [sameD] at h
  | .tuple _, .none, h | .tuple _, .bool _, h | .tuple _, .int _, h | .tuple _, .str _, h | .tuple _, .list _, h | .tuple _, .dict _, h => by simp [sameD] at h
  | .dict _, .none, h | .dict _, .bool _, h | .dict _, .int _, h | .dict _, .str _, h | .dict _, .list _, h | .dict _, .tuple _, h | .dict _, .dict _, h => by simp [sameD] at h
theorem sameA_eq : ∀ {x y : List D}, sameA x y = true → x = y
  | [], [], _ => rfl
  | x :: xs, y :: ys, h => by
    simp only [sameA, Bool.and_eq_true] at h
    rw [sameD_eq h.1, sameA_eq h.2]
  | [], _ :: _, h => by simp [sameA] at h
  | _ :: _, [], h => by simp [sameA] at h
end
def xRepr (a : E) : E := fun C ρ => bnd (a C ρ) fun x => if repOk x then pur (.str x.shown) else bad
def isEqOp : CmpOp → Bool
  | .Eq => true
  | _ => false
/-- repr(a) against repr(b), where they are alike -/
def xReprC (o : CmpOp) (a b : E) : E := fun C ρ => bnd (a C ρ) fun x => if repOk x then bnd (b C ρ) fun y => if sameD x y then pur (.bool (isEqOp o)) else bad else bad
section
variable {G : Gx} {W : Nat → Kd} {X : Cx} {pos p : Pos}
theorem se_reprCall {e : Expr} {m : E} (hu : X.A.units + 65 < cLine) (hG : X.A.guards = some []) (hg : Gl X "repr") (hm : X.mg "repr" = none) (hv : bootBuiltins "repr" = some (.builtin "repr")) (ha : PE X e (tB G W m))
    (he : starEach [e] X.env = [(false, eval e X.env)]) : PE X (.Call (.Name "repr" p) [e] [] pos) (tE G W (xRepr m)) :=
  (pe_callB (pr_repr hu hG) hg hm hv (pa_one ha he) (by decide) rfl he rfl).weak fun σ H Q ⟨F, S, ρ, s, ok, p⟩ => tB.go ok p fun d s1 v H1 g1 ok1 r1 p1 => by
    by_cases h : repOk d = true
    · rw [if_pos h] at p1
      refine ⟨F, [d], .str d.shown, ok1.live, .cons r1.b .nil, if_pos h, fun w H' g rv => p1 w H' (g1.trans g.pres) (ok1.src.grow g) rv⟩
    · rw [if_neg h] at p1
      exact p1.elim
/-- both sides -/
theorem repr_two {ma mb : E} {o : CmpOp} {F : Addr → Prop} {S : SA} {σ : L2.St} {H : Hp} {ρ : Rho} {s : Src} {P : D → Src → Prop} {Q : V → V → Hp → Prop} (ok : Ok G W F S σ H ρ s) (h : post (xReprC o ma mb G.C ρ) P s)
    (k : ∀ (x : Str) s' H', Pres (inS S) H H' → SrcOk S H' s' → P (.bool (isEqOp o)) s' → Q (.str x) (.str x) H') : tE G W (xRepr ma) σ H fun v H1 => tE G W (xRepr mb) σ H1 fun w H2 => Q v w H2 := by
  unfold xReprC at h
  rw [post_bnd] at h
  refine ⟨F, S, ρ, s, ok, ?_⟩
  unfold xRepr
  rw [post_bnd]
  refine post_mono h fun d s1 p1 => ?_
  by_cases h1 : repOk d = true
  · rw [if_pos h1] at p1 ⊢
    intro v H1 g1 k1 r1
    cases r1
    rw [post_bnd] at p1
    refine ⟨F, S, ρ, s1, ok.step g1 k1, ?_⟩
    rw [post_bnd]
    refine post_mono p1 fun e s2 p2 => ?_
    by_cases h2 : sameD d e = true
    · rw [if_pos h2] at p2
      have := sameD_eq h2
      subst this
      rw [if_pos h1]
      intro w H2 g2 k2 r2
      cases r2
      exact k _ _ _ (g1.trans g2) k2 p2
    · rw [if_neg h2] at p2
      exact p2.elim
  · rw [if_neg h1] at p1
    exact p1.elim
theorem se_reprEq {a b : Expr} {ma mb : E} (ha : PE X a (tE G W (xRepr ma))) (hb : PE X b (tE G W (xRepr mb))) (hm : behindInMarks .Eq b = false) : PE X (.Compare a [.Eq] [b] pos) (tE G W (xReprC .Eq ma mb)) :=
  (pe_cmpR op_eq ha hb hm).weak fun σ H Q ⟨F, S, ρ, s, ok, p⟩ => repr_two ok p fun x s' H' g k q => ⟨rfl, by rw [decide_eq_true rfl]; exact q _ _ g k (.bl _)⟩
theorem se_reprNe {a b : Expr} {ma mb : E} (ha : PE X a (tE G W (xRepr ma))) (hb : PE X b (tE G W (xRepr mb))) (hm : behindInMarks .NotEq b = false) : PE X (.Compare a [.NotEq] [b] pos) (tE G W (xReprC .NotEq ma mb)) :=
  (pe_cmpR op_ne ha hb hm).weak fun σ H Q ⟨F, S, ρ, s, ok, p⟩ => repr_two ok p fun x s' H' g k q => ⟨rfl, by rw [decide_eq_true rfl]; exact q _ _ g k (.bl _)⟩
theorem st_reprEq {a b : Expr} {ma mb : E} (ha : PE X a (tE G W (xRepr ma))) (hb : PE X b (tE G W (xRepr mb))) (hm : behindInMarks .Eq b = false) : PT X (.Compare a [.Eq] [b] pos) (tT G W (xReprC .Eq ma mb)) :=
  (pt_cmpR op_eq ha hb hm).weak fun σ H Q ⟨F, S, ρ, s, ok, p⟩ => by
    rw [post_bnd] at p
    refine repr_two ok p fun x s' H' g k q => ⟨rfl, _, rfl, by rw [decide_eq_true rfl]; exact q _ g k⟩
theorem st_reprNe {a b : Expr} {ma mb : E} (ha : PE X a (tE G W (xRepr ma))) (hb : PE X b (tE G W (xRepr mb))) (hm : behindInMarks .NotEq b = false) : PT X (.Compare a [.NotEq] [b] pos) (tT G W (xReprC .NotEq ma mb)) :=
  (pt_cmpR op_ne ha hb hm).weak fun σ H Q ⟨F, S, ρ, s, ok, p⟩ => by
    rw [post_bnd] at p
    refine repr_two ok p fun x s' H' g k q => ⟨rfl, _, rfl, by rw [decide_eq_true rfl]; exact q _ g k⟩
end

/-! ### defs -/
/-- of a text: its table of defs, its sources of picks -/
def gx (P : Program) (w : World) (K : PySem.W.Frag) (mg : Str → Option Value) (base : Heap) (fa : Nat → Option Addr) (T : Nat → Option Def) (sp : Nat → Option (List D → M D)) (n : Nat) (TT : List (Addr × Str) := []) : Gx := ⟨P, w, K, mg, base, [], callD T sp n, 0, fa, TT⟩
theorem ArgR.get {G : Gx} {F : Addr → Prop} {S : SA} {H : Hp} : ∀ {κs : List Kd} {vs : List V} {ds : List D}, ArgR G F S H κs vs ds → ∀ (i : Nat) (d : D), ds[i]? = some d → ∃ v κ, vs[i]? = some v ∧ κs[i]? = some κ ∧ RpKd G κ F S H v d
  | _, _, _, .nil, i, d, h => by simp at h
  | _, _, _, .cons r t, 0, d, h => by
    simp at h
    subst h
    exact ⟨_, _, rfl, rfl, r⟩
  | _, _, _, .cons r t, i + 1, d, h => by
    obtain ⟨v, κ, a, b, c⟩ := ArgR.get t i d (by simpa using h)
    exact ⟨v, κ, by simpa using a, by simpa using b, c⟩
theorem ArgR.kind {G : Gx} {F : Addr → Prop} {S : SA} {H : Hp} : ∀ {κs : List Kd} {vs : List V} {ds : List D}, ArgR G F S H κs vs ds → ∀ (i : Nat), κs[i]? ≠ some .own
  | _, _, _, .nil, i, h => by simp at h
  | _, _, _, .cons r t, 0, h => by
    simp at h
    subst h
    exact r
  | _, _, _, .cons r t, i + 1, h => ArgR.kind t i (by simpa using h)
theorem ArgR.to {G G' : Gx} {F : Addr → Prop} {S : SA} {H : Hp} (e : G.fa = G'.fa) (e2 : G.K = G'.K) : ∀ {κs : List Kd} {vs : List V} {ds : List D}, ArgR G F S H κs vs ds → ArgR G' F S H κs vs ds
  | _, _, _, .nil => .nil
  | κ :: _, _, _, .cons r t => .cons (by
      cases κ with
      | fn =>
        obtain ⟨i, f, a, b, c⟩ := r
        exact ⟨i, f, a, by rw [← e]; exact b, c⟩
      | dat => exact r
      | own => exact r
      | cel => exact r
      | scr => obtain ⟨a, ns, h1, h2, h3, h4⟩ := r; exact ⟨a, ns, h1, h2, h3, by rw [← e2]; exact h4⟩
      | src => exact r) (ArgR.to e e2 t)
theorem getV_start : ∀ (ds : List D) (m i : Nat) (d : D), getV (ds.map some ++ List.replicate m none) i = some d → ds[i]? = some d
  | [], 0, i, d, h => by cases h
  | [], m + 1, 0, d, h => by cases h
  | [], m + 1, i + 1, d, h => by
    rw [List.replicate_succ] at h
    have := getV_start [] m i d h
    simp at this
  | x :: xs, m, 0, d, h => by
    simp at h
    simp [h]
  | x :: xs, m, i + 1, d, h => by
    have := getV_start xs m i d (by simpa using h)
    simpa using this
theorem sat_start {G : Gx} {W : Nat → Kd} {F : Addr → Prop} {S : SA} {H : Hp} {s : Src} {κs : List Kd} {vs : List V} {ds : List D} {N : List Str} (l : Live F H) (sub : ∀ a, inS S a → F a) (k : SrcOk S H s ∧ ∀ x ∈ G.T, x ∈ S.tab) (r : ArgR G F S H κs vs ds) (hW : (List.range κs.length).map W = κs) (hN : κs.length ≤ N.length) :
    Sat G W F H [] F S (L2.start N vs) H (startD N.length ds) s := by
  have lv := r.len.1
  have ld := r.len.2
  have wAt : ∀ i κ, κs[i]? = some κ → W i = κ := fun i κ h => by
    rw [← hW] at h
    rw [List.getElem?_map] at h
    cases e : (List.range κs.length)[i]? with
    | none => rw [e] at h; cases h
    | some j =>
      rw [e] at h
      have := List.getElem?_eq_some_iff.mp e
      obtain ⟨h1, h2⟩ := this
      rw [List.getElem_range] at h2
      subst h2
      simpa using h
  have atV : ∀ i, i < vs.length → (L2.start N vs)[i]? = (vs[i]?).map some := fun i h => by
    unfold L2.start
    rw [List.getElem?_append_left (by rw [List.length_map]; exact h), List.getElem?_map]
  have ownN : ∀ i a, W i = .own → (L2.start N vs)[i]? = some (some (.ref a)) → False := fun i a w e => by
    by_cases h : i < vs.length
    · have h2 : i < κs.length := by omega
      have := wAt i _ (List.getElem?_eq_getElem h2)
      exact r.kind i (by rw [List.getElem?_eq_getElem h2, ← this, w])
    · unfold L2.start at e
      rw [List.getElem?_append_right (by rw [List.length_map]; omega)] at e
      rw [List.getElem?_replicate] at e
      split at e <;> cases e
  refine ⟨⟨l, sub, k.1, fun i d h => ?_, ?_, k.2⟩, fun a f => f, .refl _, fun i a w e => (ownN i a w e).elim, fun i a w e => (ownN i a w e).elim, fun i j a _ w _ e _ => (ownN i a w e).elim, fun q hq => (by cases hq), l⟩
  · have h := getV_start _ _ _ _ (show getV (ds.map some ++ List.replicate (N.length - ds.length) none) i = some d from h)
    obtain ⟨v, κ, h1, h2, h3⟩ := r.get i d h
    have hi := (List.getElem?_eq_some_iff.mp h1).1
    refine ⟨v, by rw [atV i hi, h1]; rfl, ?_⟩
    have w := wAt i κ h2
    unfold Slot
    rw [w]
    cases κ with
    | dat => exact h3
    | own => exact h3.elim
    | fn => exact h3
    | src => exact h3
    | cel => exact h3.elim
    | scr => exact h3
  · unfold startD L2.start
    simp only [List.length_append, List.length_map, List.length_replicate]
    omega
theorem fn_def {P : Program} {w : World} {K : PySem.W.Frag} {mg : Str → Option Value} {base : Heap} {fa : Nat → Option Addr} {T : Nat → Option Def} {sp : Nat → Option (List D → M D)} {n idx : Nat} {TT : List (Addr × Str)} {d : Def} {name qual : Str} {st : Stmt} {f : Addr} {fd : FuncData} {N ps : List Str} {κs : List Kd} {W : Nat → Kd}
    (F : Fun K name qual st f fd) (SC : FnScope N ps (defScope st)) (hT : T idx = some d) (hsp : sp idx = none) (hlen : κs.length = ps.length) (hsl : d.slots = N.length) (hle : κs.length ≤ N.length) (hW : (List.range κs.length).map W = κs)
    (hbody : ∀ (cdv : Value) (A : Around) (outer : List PySem.Env) (s : Shared) (H : Hp) (E : XK), GRoom n (A.deeper (envOfC qual (defScope st) s.heap.objs.size f cdv)) →
      PSs (cxOf CX0 P w K mg base N qual (defScope st) f cdv A outer s H E).nox (defBody st) (tS (gx P w K mg base fa T sp n TT) W d.body)) :
    FnG P w K mg base CX0 (n + 1) f fd ps (spOf (gx P w K mg base fa T sp (n + 1) TT) κs idx) := by
  obtain ⟨oc, od, kV, doc, pm, an, cdv, ct, osl, rfl, lk, hcd⟩ := F.ex
  refine fn_ofG lk hcd SC (spOf_len hlen) fun A outer s H vs Q E hr hsp2 => ?_
  obtain ⟨F0, S, ds, s0, l, sub, k, r, p⟩ := hsp2
  refine ⟨_, (hbody cdv A outer s H E hr).nox, F0, H, [], F0, S, _, s0, sat_start (N := N) (G := gx P w K mg base fa T sp n TT) l sub k (ArgR.to (show (gx P w K mg base fa T sp (n + 1) TT).fa = (gx P w K mg base fa T sp n TT).fa from rfl) (show (gx P w K mg base fa T sp (n + 1) TT).K = (gx P w K mg base fa T sp n TT).K from rfl) r) hW hle, ?_⟩
  have p : post (callD T sp (n + 1) idx ds) _ s0 := p
  unfold callD at p
  simp only [hsp, hT] at p
  unfold runDef at p
  split at p
  · rw [post_bnd, hsl] at p
    refine post_mono p fun fl s' q => ?_
    cases fl with
    | next ρ' => exact fun F' σ' H' sa => q .non H' sa.ent sa.ok.src .non
    | ret v => exact q
    | brk ρ' => exact q.elim
    | cont ρ' => exact q.elim
  · exact p.elim
theorem fn_zero {P : Program} {w : World} {K : PySem.W.Frag} {mg : Str → Option Value} {base : Heap} {fa : Nat → Option Addr} {T : Nat → Option Def} {sp : Nat → Option (List D → M D)} {idx : Nat} {TT : List (Addr × Str)} {f : Addr} {fd : FuncData} {ps : List Str} {κs : List Kd} (hlen : κs.length = ps.length) :
    FnG P w K mg base CX0 0 f fd ps (spOf (gx P w K mg base fa T sp 0 TT) κs idx) := by
  refine ⟨spOf_len hlen, fun A out s H args us vs Q X _ _ _ _ h => ?_⟩
  obtain ⟨F0, S, ds, s0, l, sub, k, r, p⟩ := h
  exact p.elim
end BA

/-! BA15: the source of picks -/
namespace BA
open PySem PySem.Spec
open PyProof.Rows
open L2 hiding St

inductive SF where
  | left | mixed | turn
def SF.name : SF → String
  | .left => "left"
  | .mixed => "mixed"
  | .turn => "turn"
def sget : SF → Src → Int
  | .left, s => s.left
  | .mixed, s => s.mixed
  | .turn, s => s.turn
def sput : SF → Int → Src → Src
  | .left, i, s => { s with left := i }
  | .mixed, i, s => { s with mixed := i }
  | .turn, i, s => { s with turn := i }
def xGet (f : SF) : E := fun _ _ s => .ok (.int (sget f s)) s
def xCelLen : E := fun _ _ s => .ok (.int s.cells.length) s
def putM (f : SF) (i : Int) (ρ : Rho) : M Fl := fun s => .ok (.next ρ) (sput f i s)
def sPut (f : SF) (e : E) : BA.St := fun C ρ => bnd (e C ρ) fun d => bnd (opt (asI d)) fun i => putM f i ρ
def sPopLeft : BA.St := fun _ ρ s => match s.cells[s.cells.length - 1]? with
  | some c => .ok (.next ρ) { s with cells := s.cells.dropLast, left := c }
  | none => .bad
def sCel (i : Nat) : BA.St := fun _ ρ => pur (.next (setV ρ i .none))
/-- at the source's slot -/
theorem src_at {G : Gx} {W : Nat → Kd} {F : Addr → Prop} {S : SA} {σ : L2.St} {H : Hp} {ρ : Rho} {s : Src} (ok : Ok G W F S σ H ρ s) {i : Nat} {d : D} (w : W i = .src) (e : getV ρ i = some d) : ∃ p q, S.src = some (p, q) ∧ σ[i]? = some (some (.ref p)) ∧ p ≠ q ∧ H p = some (.dK (srcD q s)) ∧ H q = some (.lst (s.cells.map V.int)) := by
  obtain ⟨v, h1, h2⟩ := ok.slot i d e
  unfold Slot at h2
  rw [w] at h2
  obtain ⟨p, q, rfl, e2, rfl⟩ := h2
  have k := ok.src.p
  rw [e2] at k
  obtain ⟨a, b, c⟩ := k
  exact ⟨p, q, e2, h1, a, b, c⟩
theorem cel_at {G : Gx} {W : Nat → Kd} {F : Addr → Prop} {S : SA} {σ : L2.St} {H : Hp} {ρ : Rho} {s : Src} (ok : Ok G W F S σ H ρ s) {i : Nat} {d : D} (w : W i = .cel) (e : getV ρ i = some d) : ∃ p q, S.src = some (p, q) ∧ σ[i]? = some (some (.ref q)) ∧ p ≠ q ∧ H p = some (.dK (srcD q s)) ∧ H q = some (.lst (s.cells.map V.int)) := by
  obtain ⟨v, h1, h2⟩ := ok.slot i d e
  unfold Slot at h2
  rw [w] at h2
  obtain ⟨p, q, rfl, e2, rfl⟩ := h2
  have k := ok.src.p
  rw [e2] at k
  obtain ⟨a, b, c⟩ := k
  exact ⟨p, q, e2, h1, a, b, c⟩
theorem nk1 : ¬ skey "cells" = skey "left" := by decide
theorem nk2 : ¬ skey "cells" = skey "mixed" := by decide
theorem nk3 : ¬ skey "cells" = skey "turn" := by decide
theorem nk4 : ¬ skey "left" = skey "mixed" := by decide
theorem nk5 : ¬ skey "left" = skey "turn" := by decide
theorem nk6 : ¬ skey "mixed" = skey "turn" := by decide
theorem srcD_get (q : Addr) (s : Src) (f : SF) : valV (srcD q s) (skey f.name) = some (.int (sget f s)) := by
  unfold srcD
  cases f
  · exact (valV_neg nk1).trans (valV_pos rfl)
  · exact (valV_neg nk2).trans ((valV_neg nk4).trans (valV_pos rfl))
  · exact (valV_neg nk3).trans ((valV_neg nk5).trans ((valV_neg nk6).trans (valV_pos rfl)))
theorem srcD_cells (q : Addr) (s : Src) : valV (srcD q s) (skey "cells") = some (.ref q) := valV_pos rfl
theorem srcD_put (q : Addr) (s : Src) (f : SF) (i : Int) : putK (srcD q s) (skey f.name) (.int i) = srcD q (sput f i s) := by
  have e : ((srcD q s).any fun kv => decide (kv.1 = skey f.name)) = true := by
    have := valV_any (skey f.name) (srcD q s)
    rw [this, srcD_get]
    rfl
  unfold putK
  rw [if_pos e]
  unfold srcD
  simp only [List.map_cons, List.map_nil]
  cases f
  · show [if skey "cells" = skey "left" then _ else _, if skey "left" = skey "left" then _ else _, if skey "mixed" = skey "left" then _ else _, if skey "turn" = skey "left" then _ else _] = _
    rw [if_neg nk1, if_pos rfl, if_neg (Ne.symm nk4), if_neg (Ne.symm nk5)]; rfl
  · show [if skey "cells" = skey "mixed" then _ else _, if skey "left" = skey "mixed" then _ else _, if skey "mixed" = skey "mixed" then _ else _, if skey "turn" = skey "mixed" then _ else _] = _
    rw [if_neg nk2, if_neg nk4, if_pos rfl, if_neg (Ne.symm nk6)]; rfl
  · show [if skey "cells" = skey "turn" then _ else _, if skey "left" = skey "turn" then _ else _, if skey "mixed" = skey "turn" then _ else _, if skey "turn" = skey "turn" then _ else _] = _
    rw [if_neg nk3, if_neg nk5, if_neg nk6, if_pos rfl]; rfl

section
variable {G : Gx} {W : Nat → Kd} {X : Cx} {i : Nat} {x : Str} {pos p0 p1 p2 : Pos} {k0 : Nat}
/-- the slot is there -/
def xSrc (i : Nat) (m : E) : E := fun C ρ => bnd (opt (getV ρ i)) fun _ => m C ρ
def sSrc (i : Nat) (m : BA.St) : BA.St := fun C ρ => bnd (opt (getV ρ i)) fun _ => m C ρ
theorem se_get {f : SF} {k : Str} (hu : X.A.units + 1 < cLine) (hN : X.N[i]? = some x) (hv : Vis X.env.scope x) (hd : (x == ("__debug__" : Str)) = false) (hcd : (x == ("__classdict__" : Str)) = false) (hw : W i = .src) (hk : k = Str.ofString f.name) {jj} :
    PE X (.Subscript (.Name x p0) (.Constant (.str k) jj p1) pos) (tE G W (xSrc i (xGet f))) :=
  (pe_dget hu (pe_var hN hv hd hcd) pe_str (fun _ _ => rfl)).weak fun σ H Q ⟨F, S, ρ, s, ok, p⟩ => by
    unfold xSrc at p
    rw [post_bnd] at p
    obtain ⟨d, e, q⟩ := post_opt.mp p
    obtain ⟨pp, qq, eS, h1, n, hp, hq⟩ := src_at ok hw e
    subst hk
    refine ⟨_, h1, pp, .int (sget f s), rfl, ?_, q _ H (.refl _) ok.src (.int _)⟩
    have := DGet.k (k := skey f.name) hp
    rw [srcD_get] at this
    exact this
theorem pe_cells {k : Str} {jj} (hu : X.A.units + 1 < cLine) (hN : X.N[i]? = some x) (hv : Vis X.env.scope x) (hd : (x == ("__debug__" : Str)) = false) (hcd : (x == ("__classdict__" : Str)) = false) (hk : k = Str.ofString "cells") :
    PE X (.Subscript (.Name x p0) (.Constant (.str k) jj p1) pos) (fun σ H Q => ∃ p q s, σ[i]? = some (some (.ref p)) ∧ H p = some (.dK (srcD q s)) ∧ Q (.ref q) H) :=
  (pe_dget hu (pe_var hN hv hd hcd) pe_str (fun _ _ => rfl)).weak fun σ H Q ⟨p, q, s, h1, hp, r⟩ => by
    subst hk
    refine ⟨_, h1, p, .ref q, rfl, ?_, r⟩
    have := DGet.k (k := skey "cells") hp
    rw [srcD_cells] at this
    exact this
variable {p : Pos}
/-- len(source['cells']) -/
theorem se_celLen {k : Str} {jj} (hu : X.A.units + 1 < cLine) (hN : X.N[i]? = some x) (hv : Vis X.env.scope x) (hd : (x == ("__debug__" : Str)) = false) (hcd : (x == ("__classdict__" : Str)) = false) (hw : W i = .src) (hk : k = Str.ofString "cells")
    (hg : Gl X "len") (hm : X.mg "len" = none) (he : starEach [.Subscript (.Name x p0) (.Constant (.str k) jj p1) p2] X.env = [(false, eval (.Subscript (.Name x p0) (.Constant (.str k) jj p1) p2) X.env)]) :
    PE X (.Call (.Name "len" p) [.Subscript (.Name x p0) (.Constant (.str k) jj p1) p2] [] pos) (tE G W (xSrc i xCelLen)) :=
  (pe_callB call_len_seq hg hm PySem.boot_len (pa_one (pe_cells hu hN hv hd hcd hk) he) (by decide) rfl he rfl).weak fun σ H Q ⟨F, S, ρ, s, ok, p⟩ => by
    unfold xSrc at p
    rw [post_bnd] at p
    obtain ⟨d, e, q⟩ := post_opt.mp p
    obtain ⟨pp, qq, eS, h1, n, hp, hq⟩ := src_at ok hw e
    refine ⟨pp, qq, s, h1, hp, qq, s.cells.map V.int, rfl, .inl (SqL.of hq), ?_⟩
    rw [List.length_map]
    exact q _ H (.refl _) ok.src (.int _)
theorem se_celLen2 (hN : X.N[i]? = some x) (hv : Vis X.env.scope x) (hd : (x == ("__debug__" : Str)) = false) (hcd : (x == ("__classdict__" : Str)) = false) (hw : W i = .cel)
    (hg : Gl X "len") (hm : X.mg "len" = none) (he : starEach [.Name x p0] X.env = [(false, eval (.Name x p0) X.env)]) :
    PE X (.Call (.Name "len" p) [.Name x p0] [] pos) (tE G W (xSrc i xCelLen)) :=
  (pe_callB call_len_seq hg hm PySem.boot_len (pa_one (pe_var hN hv hd hcd) he) (by decide) rfl he rfl).weak fun σ H Q ⟨F, S, ρ, s, ok, p⟩ => by
    unfold xSrc at p
    rw [post_bnd] at p
    obtain ⟨d, e, q⟩ := post_opt.mp p
    obtain ⟨pp, qq, eS, h1, n, hp, hq⟩ := cel_at ok hw e
    refine ⟨_, h1, qq, s.cells.map V.int, rfl, .inl (SqL.of hq), ?_⟩
    rw [List.length_map]
    exact q _ H (.refl _) ok.src (.int _)
theorem src_put {S : SA} {H : Hp} {s s0 : Src} {pp qq : Addr} {f : SF} {k : Int} (k0 : SrcOk S H s0) (eS : S.src = some (pp, qq)) (n : pp ≠ qq) (hp : H pp = some (.dK (srcD qq s))) (hq : H qq = some (.lst (s.cells.map V.int))) : SrcOk S (upd H pp (.dK (putK (srcD qq s) (skey f.name) (.int k)))) (sput f k s) := by
  refine ⟨?_, tabs_upd k0.t (fun q z => ?_) hp trivial, k0.u⟩
  · rw [eS]
    refine ⟨n, by rw [upd_same, srcD_put], ?_⟩
    rw [upd_ne (Ne.symm n), hq]
    cases f <;> rfl
  · obtain ⟨ps, h1, _⟩ := k0.t _ z
    have h1 : H pp = some (.tbl ps) := h1
    rw [hp] at h1
    cases h1
theorem ss_put {f : SF} {k : Str} {jj} {e : Expr} {m : E} (hu : X.A.units + 1 < cLine) (hN : X.N[i]? = some x) (hv : Vis X.env.scope x) (hd : (x == ("__debug__" : Str)) = false) (hcd : (x == ("__classdict__" : Str)) = false) (hw : W i = .src) (hk : k = Str.ofString f.name)
    (he : PE X e (tE G W m)) (hs : swapsWith e (some (.Subscript (.Name x p0) (.Constant (.str k) jj p1) p2)) pos.line X.env = pure false) :
    PS X (.Assign [.Subscript (.Name x p0) (.Constant (.str k) jj p1) p2] e pos) (tS G W (sSrc i (sPut f m))) :=
  (ps_dput hu (pe_var hN hv hd hcd) pe_str he hs).weak fun D σ H ⟨F0, H0, L, F, S, ρ, s, sa, p⟩ => by
    unfold sSrc at p
    rw [post_bnd] at p
    obtain ⟨d0, e0, p⟩ := post_opt.mp p
    refine tE.go sa.ok p fun d s1 v H1 g1 ok1 r1 p1 => ?_
    rw [post_bnd] at p1
    obtain ⟨k0, ek, q⟩ := post_opt.mp p1
    have := asI_some ek
    subst this
    cases r1
    obtain ⟨pp, qq, eS, h1, n, hp, hq⟩ := src_at ok1 hw e0
    subst hk
    refine ⟨_, h1, pp, _, rfl, DPut.k (k := skey f.name) hp (by show (4 : Nat) < sizeLine; decide), ?_⟩
    have q : AfS G W F0 H0 L S D (.next ρ) (sput f k0 s1) := q
    refine q F σ _ ((sa.step g1 ok1.src).step (fun b o nb eb => ?_) (src_put ok1.src eS n hp hq))
    rw [upd_ne fun z => nb (.inl (by rw [eS]; exact .inl z))]
    exact eb
/-- source['left'] = <cells>.pop() -/
theorem pop_put {F0 : Addr → Prop} {H0 : Hp} {L : List ((Addr → Prop) × Hp)} {F : Addr → Prop} {S : SA} {pp qq : Addr} {σ : L2.St} {H : Hp} {ρ : Rho} {s : Src} {D : Ends} (sa : Sat G W F0 H0 L F S σ H ρ s) (eS : S.src = some (pp, qq)) (n : pp ≠ qq) (hp : H pp = some (.dK (srcD qq s))) (hq : H qq = some (.lst (s.cells.map V.int)))
    (p : post (sPopLeft G.C ρ) (AfS G W F0 H0 L S D) s) (hs : σ[i]? = some (some (.ref pp))) :
    ∃ l xs y, V.ref qq = .ref l ∧ ([] : List V) = [] ∧ H l = some (.lst xs) ∧ xs[xs.length - 1]? = some y ∧ ∃ v, σ[i]? = some (some v) ∧ ∃ a H4, v = .ref a ∧ DPut (upd H l (.lst xs.dropLast)) a (.str (Str.ofString "left")) y H4 ∧ D.nx σ H4 := by
  unfold sPopLeft post at p
  cases e : s.cells[s.cells.length - 1]? with
  | none => simp only [e] at p
  | some c =>
    simp only [e] at p
    have q : ∀ F' σ' H', Sat G W F0 H0 L F' S σ' H' ρ { s with cells := s.cells.dropLast, left := c } → D.nx σ' H' := p
    refine ⟨qq, s.cells.map V.int, .int c, rfl, rfl, hq, by rw [List.length_map, List.getElem?_map, e]; rfl, _, hs, pp, _, rfl, DPut.k (k := skey "left") (kvs := srcD qq s) (by rw [upd_ne n]; exact hp) (by show (4 : Nat) < sizeLine; decide), ?_⟩
    have t1 : LamX.Tabs S.tab (upd H qq (.lst (s.cells.map V.int).dropLast)) := tabs_upd sa.ok.src.t (fun q z => by
      obtain ⟨ps, h1, _⟩ := sa.ok.src.t _ z
      have h1 : H qq = some (.tbl ps) := h1
      rw [hq] at h1
      cases h1) hq trivial
    have hp1 : upd H qq (.lst (s.cells.map V.int).dropLast) pp = some (.dK (srcD qq s)) := by rw [upd_ne n]; exact hp
    refine q F σ _ (sa.step (fun b o nb eb => ?_) ⟨?_, tabs_upd t1 (fun q z => by
      obtain ⟨ps, h1, _⟩ := sa.ok.src.t _ z
      have h1 : H pp = some (.tbl ps) := h1
      rw [hp] at h1
      cases h1) hp1 trivial, sa.ok.src.u⟩)
    · rw [upd_ne fun z => nb (.inl (by rw [eS]; exact .inl z)), upd_ne fun z => nb (.inl (by rw [eS]; exact .inr z))]
      exact eb
    rw [eS]
    refine ⟨n, ?_, ?_⟩
    · rw [upd_same]
      exact congrArg (fun z => some (HO.dK z)) (srcD_put qq s .left c)
    · rw [upd_ne (Ne.symm n), upd_same, List.map_dropLast]
variable {k : Str} {apos cpos p3 p4 p5 : Pos} {y : Str} {j : Nat}
theorem ss_popL {k2 : Str} {j1 j2} (hu : X.A.units + 1 < cLine) (hN : X.N[i]? = some x) (hv : Vis X.env.scope x) (hd : (x == ("__debug__" : Str)) = false) (hcd : (x == ("__classdict__" : Str)) = false) (hw : W i = .src) (hk : k = Str.ofString "left") (hk2 : k2 = Str.ofString "cells")
    (hbase : attributeBase (.Subscript (.Name x p3) (.Constant (.str k2) j2 p4) p5) "pop" X.env (eval (.Subscript (.Name x p3) (.Constant (.str k2) j2 p4) p5) X.env) = eval (.Subscript (.Name x p3) (.Constant (.str k2) j2 p4) p5) X.env) (hline : (apos.endLine == cpos.line) = true)
    (hs : swapsWith (.Call (.Attribute (.Subscript (.Name x p3) (.Constant (.str k2) j2 p4) p5) "pop" apos) [] [] cpos) (some (.Subscript (.Name x p0) (.Constant (.str k) j1 p1) p2)) pos.line X.env = pure false) :
    PS X (.Assign [.Subscript (.Name x p0) (.Constant (.str k) j1 p1) p2] (.Call (.Attribute (.Subscript (.Name x p3) (.Constant (.str k2) j2 p4) p5) "pop" apos) [] [] cpos) pos) (tS G W (sSrc i sPopLeft)) :=
  (ps_dput hu (pe_var hN hv hd hcd) pe_str (pe_bm0 PySem.F.plainAttrs_list PySem.F.slot_list_pop PySem.F.type_list_pop mt_pop (pe_cells hu hN hv hd hcd hk2) hbase hline) hs).weak fun D σ H ⟨F0, H0, L, F, S, ρ, s, sa, p⟩ => by
    unfold sSrc at p
    rw [post_bnd] at p
    obtain ⟨d0, e0, p⟩ := post_opt.mp p
    obtain ⟨pp, qq, eS, h1, n, hp, hq⟩ := src_at sa.ok hw e0
    subst hk
    obtain ⟨l, xs, z, e1, e2, h3, h4, v, h5, a, H4, e6, h7, h8⟩ := pop_put (i := i) sa eS n hp hq p h1
    exact ⟨pp, qq, s, h1, hp, .inl ⟨rfl, _, SqL.of hq⟩, l, xs, z, e1, e2, h3, h4, v, h5, a, H4, e6, h7, h8⟩
theorem ss_popC {j1} (hu : X.A.units + 1 < cLine) (hN : X.N[i]? = some x) (hv : Vis X.env.scope x) (hd : (x == ("__debug__" : Str)) = false) (hcd : (x == ("__classdict__" : Str)) = false) (hw : W i = .src) (hk : k = Str.ofString "left")
    (hN2 : X.N[j]? = some y) (hv2 : Vis X.env.scope y) (hd2 : (y == ("__debug__" : Str)) = false) (hcd2 : (y == ("__classdict__" : Str)) = false) (hw2 : W j = .cel)
    (hbase : attributeBase (.Name y p3) "pop" X.env (eval (.Name y p3) X.env) = eval (.Name y p3) X.env) (hline : (apos.endLine == cpos.line) = true)
    (hs : swapsWith (.Call (.Attribute (.Name y p3) "pop" apos) [] [] cpos) (some (.Subscript (.Name x p0) (.Constant (.str k) j1 p1) p2)) pos.line X.env = pure false) :
    PS X (.Assign [.Subscript (.Name x p0) (.Constant (.str k) j1 p1) p2] (.Call (.Attribute (.Name y p3) "pop" apos) [] [] cpos) pos) (tS G W (sSrc j (sSrc i sPopLeft))) :=
  (ps_dput hu (pe_var hN hv hd hcd) pe_str (pe_bm0 PySem.F.plainAttrs_list PySem.F.slot_list_pop PySem.F.type_list_pop mt_pop (pe_var hN2 hv2 hd2 hcd2) hbase hline) hs).weak fun D σ H ⟨F0, H0, L, F, S, ρ, s, sa, p⟩ => by
    unfold sSrc at p
    rw [post_bnd] at p
    obtain ⟨d1, e1, p⟩ := post_opt.mp p
    rw [post_bnd] at p
    obtain ⟨d0, e0, p⟩ := post_opt.mp p
    obtain ⟨pp, qq, eS, h1, n, hp, hq⟩ := src_at sa.ok hw e0
    obtain ⟨p', q', es, h2, _⟩ := cel_at sa.ok hw2 e1
    rw [eS] at es
    cases es
    subst hk
    obtain ⟨l, xs, z, e1, e2, h3, h4, v, h5, a, H4, e6, h7, h8⟩ := pop_put (i := i) sa eS n hp hq p h1
    exact ⟨_, h2, .inl ⟨rfl, _, SqL.of hq⟩, l, xs, z, e1, e2, h3, h4, v, h5, a, H4, e6, h7, h8⟩
/-- cells = source['cells'] -/
theorem ss_cel {j1} (hu : X.A.units + 1 < cLine) (hN : X.N[i]? = some x) (hv : Vis X.env.scope x) (hd : (x == ("__debug__" : Str)) = false) (hcd : (x == ("__classdict__" : Str)) = false) (hw : W i = .src) (hk : k = Str.ofString "cells")
    (hNd : X.N.Nodup) (hN2 : X.N[j]? = some y) (hl : j < X.N.length) (hx : Loc X.env.scope y) (hw2 : W j = .cel) (hs : swapsWith (.Subscript (.Name x p0) (.Constant (.str k) j1 p1) p2) (some (.Name y p3)) pos.line X.env = pure false)
    (hf : X.fn y = true ∨ X.env.scope.names.lookup y = some .local) :
    PS X (.Assign [.Name y p3] (.Subscript (.Name x p0) (.Constant (.str k) j1 p1) p2) pos) (tS G W (sSrc i (sCel j))) :=
  ⟨fun pins s0 σ H D I ⟨F0, H0, L, F, S, ρ, s, sa, p⟩ => (ps_set hNd hN2 hx (pe_cells hu hN hv hd hcd hk) hs hf).run pins s0 σ H D I (by
    unfold sSrc at p
    rw [post_bnd] at p
    obtain ⟨d0, e0, p⟩ := post_opt.mp p
    obtain ⟨pp, qq, eS, h1, n, hp, hq⟩ := src_at sa.ok hw e0
    refine ⟨pp, qq, s, h1, hp, p F _ H (sa.slots (sa.ok.set (v := .ref qq) (d := .none) ?_ (by rw [I.len]; exact hl)) fun l wl => List.getElem?_set_ne fun z => by rw [← z, hw2] at wl; cases wl)⟩
    unfold Slot
    rw [hw2]
    exact ⟨pp, qq, rfl, eS, rfl⟩)⟩
end
end BA

/-! BA16: the head of a law, its source -/
namespace BA
open PySem PySem.Spec
open PyProof.Rows
open L2 hiding St

/-! ### the head -/
/-- the script alone is tracked, unless the module knows it -/
def scrH (K : PySem.W.Frag) (a : Addr) (u : HO) : Hp := fun b => match K.lookup a with
  | some _ => none
  | none => if b = a then some u else none
theorem scrH_none {K : PySem.W.Frag} {a b : Addr} {u : HO} (h : b ≠ a) : scrH K a u b = none := by
  unfold scrH
  split
  · rfl
  · exact if_neg h
theorem scrH_known {K : PySem.W.Frag} {a b : Addr} {u : HO} {o : Obj} (h : K.lookup a = some o) : scrH K a u b = none := by
  unfold scrH
  rw [h]
theorem scrH_some {K : PySem.W.Frag} {a b : Addr} {u v : HO} (h : scrH K a u b = some v) : b = a ∧ v = u ∧ K.lookup a = none := by
  unfold scrH at h
  split at h
  · cases h
  · rename_i e
    by_cases z : b = a
    · rw [if_pos z] at h
      cases h
      exact ⟨z, rfl, e⟩
    · rw [if_neg z] at h
      cases h
theorem head_run {P : Program} {w : World} {K : PySem.W.Frag} {mg mb : Str → Option Value} {k : Nat} {fa a : Addr} {fd : FuncData} {x : Str} {sp : Sp} {t : Shared} {vs : List Value} {ns : List Int} (kin : K.In t.heap) (glo : t.heap.Ns mainGlobals mg)
    (blt : t.heap.Ns builtinsNs mb) (same : ∀ y : Str, y ≠ "__name__" → mb y = bootBuiltins y) (lim : t.heap.NoLimit) (gen : t.gens = #[]) (at_ : t.heap.get? a = some { cls := .type "list", data := .seq vs.toArray }) (hints : IntsAre vs ns) (few : ns.length ≤ sizeLine)
    (room : GRoom k callerA) (F : ∀ base : Heap, K.In base → base.Ns mainGlobals mg → FnG P w K mg base CX0 k fa fd [x] sp) (bd : ∀ (s : Shared) (u : Value), BindsTo s fd ⟨[u], []⟩ [(x, u)])
    (go : ∀ H : Hp, ScrV K .nil H (.ref a) (.list (ns.map PyData.int)) → (∀ b o, H b = some o → b = a) → sp [.ref a] H (fun v _ => v = .bl true) fun _ _ _ => False) :
    codeAny (model P w) callerA (.call (.ref fa) ⟨[.ref a], []⟩) (fun r u => r = .ok (.ret (.bool true)) ∧ OldK t.heap u.heap ∧ u.os = t.os ∧ AllBare u.gens) t := by
  have rel : Vals (ns.map V.int) vs := vals_ints hints
  have many := hints.length
  generalize hu : HO.frz { cls := .type "list", data := .seq vs.toArray } (.lst (ns.map V.int)) = u
  have track : ∀ b v, scrH K a u b = some v → b = a ∧ v = u ∧ K.lookup a = none := fun b v e => scrH_some e
  have still : ∀ {b : Addr} {o : Obj}, t.heap.get? b = some o → (b = a → K.lookup a ≠ none) → (hidT t.heap (scrH K a u)).get? b = some o := fun {b o} e z => hidT_get e (by
    cases q : scrH K a u b with
    | none => rfl
    | some v => exact absurd (track b v q).2.2 (z (track b v q).1))
  have part : ∀ {b : Addr} {m : Str → Option Value}, t.heap.Ns b m → (hidT t.heap (scrH K a u)).Ns b m := fun {b m} ⟨o, es, n, e, d, r⟩ => ⟨o, es, n, still e (fun z => by
    subst z
    rw [at_] at e
    cases e
    cases d), d, r⟩
  have kin2 : K.In (hidT t.heap (scrH K a u)) := fun b o e => still (kin b o e) fun z => by rw [← z, e]; simp
  obtain ⟨mc, l1, l2⟩ := lim
  have ok : HOk P w (scrH K a u) t.heap := fun b v e => by
    obtain ⟨rfl, rfl, _⟩ := track b v e
    rw [← hu]
    exact ⟨at_, by rw [List.length_map]; exact few, vs, _, rel, at_⟩
  have env : Env0 P w K mg (hidT t.heap (scrH K a u)) callerA [] t (scrH K a u) := {
    frames := rfl
    mod := ⟨kin2, part glo, ⟨mb, part blt, same⟩, ⟨mc, part l1, l2⟩⟩
    bs := fun b o e => of_hidT e
    bsz := Nat.le_of_eq (hidT_size _ _)
    funs := trivial
    frf := fun b z => by cases z
    hok := ok
    bare := .of_eq gen }
  have scr : ScrV K .nil (scrH K a u) (.ref a) (.list (ns.map PyData.int)) := by
    refine ⟨a, ns, rfl, rfl, few, ?_⟩
    cases e : K.lookup a with
    | none =>
      refine .inr ⟨{ cls := .type "list", data := .seq vs.toArray }, ?_⟩
      unfold scrH
      rw [e, hu]
      exact if_pos rfl
    | some o =>
      have q := kin a o e
      rw [at_] at q
      cases q
      exact .inl fun H' => .inr ⟨_, vs.toArray, _, e, rfl, rfl, rfl, by rw [List.size_toArray, many]; exact few, by simpa using rel⟩
  refine codeAny_mono ((F _ kin2 (part glo)).run callerA [] t (scrH K a u) ⟨[.ref a], []⟩ [.ref a] [.ref a] _ _ room env (bd t (.ref a)) (.cons rfl .nil) (go _ scr fun b o e => (track b o e).1)) fun r s2 h => ?_
  match r, h with
  | .error e, h => exact h.elim
  | .ok .next, h => exact False.elim h
  | .ok .brk, h => exact False.elim h
  | .ok .cont, h => exact False.elim h
  | .ok (.ret z), ⟨v, H2, os, bare, un, ok2, rv, q⟩ =>
    have q : v = .bl true := q
    subst q
    cases (show z = Value.bool true from rv)
    refine ⟨rfl, OldK.of_keep fun b o e => ?_, os, bare⟩
    cases c : scrH K a u b with
    | none => exact un.keep b o e c (fun z => by cases z) (fun z => by cases z)
    | some v =>
      obtain ⟨e1, e2, _⟩ := track b v c
      subst e1
      have c2 := un.frzs b { cls := .type "list", data := .seq vs.toArray } (.lst (ns.map V.int)) (by rw [c, e2, hu])
      obtain ⟨g2, _⟩ := ok2 b _ c2
      rw [at_] at e
      cases e
      exact g2
theorem walkG {l : PySem.W.OpenLaw} {n k : Nat} {q : Program} {loose : List Str} {XP : (Str → Option Value) → Heap → Prop} {YP : World → Heap → Prop} {d : DefRec} {K : Params → PySem.W.Frag} {sp : World → Sp} {x : Str}
    (hn : l.most = some n) (hn2 : n ≤ sizeLine) (hdf : d.params.defaults = []) (hr : GRoom k callerA) (hY : ∀ (w : World) (h : Heap), YP w h → (K w.params).In h)
    (F : ∀ (w : World) (mg : Str → Option Value) (fa : Addr) (h : Heap), (K w.params).In h → h.Ns mainGlobals mg → mg d.name = some (.ref fa) →
      ∃ fd : FuncData, (∀ (s : Shared) (u : Value), BindsTo s fd ⟨[u], []⟩ [(x, u)]) ∧ ∀ base : Heap, (K w.params).In base → base.Ns mainGlobals mg → FnG l.prog w (K w.params) mg base CX0 k fa fd [x] (sp w))
    (go : ∀ (w : World) (H : Hp) (a : Addr) (ns : List Int), ns.length ≤ n → ScrV (K w.params) .nil H (.ref a) (.list (ns.map PyData.int)) → (∀ b o, H b = some o → b = a) → sp w [.ref a] H (fun v _ => v = .bl true) fun _ _ _ => False) :
    PySem.W.WalkO q loose XP YP l.row.toRowW d [] (fun f vs => PySem.call f vs) :=
  Att.attach_call hn hdf fun w s0 s1 mg mb fa o pm cd doc a vs ns Gr Y _ _ _ hmg hobj hints hlen hgen => by
    obtain ⟨fd, hb, hF⟩ := F w mg fa _ (hY w _ Y) Gr.T.g hmg
    exact head_run (hY w _ Y) Gr.T.g Gr.T.b Gr.T.builtins Gr.T.nolimit hgen hobj hints (Nat.le_trans hlen hn2) hr hF hb fun H h1 h2 => go w H a ns hlen h1 h2
theorem groom {k : Nat} (h : Room k callerA) : GRoom k callerA := ⟨h, rfl⟩

/-! ### the law's own def -/
/-- a statement, then slots forgotten, then the rest -/
def sSeqF (a : BA.St) (ks : List Nat) (b : BA.St) : BA.St := fun C ρ => bnd (a C ρ) fun f => match f with
  | .next ρ' => b C (BA.blank ρ' ks)
  | .ret d => pur (.ret d)
  | .brk ρ' => pur (.brk ρ')
  | .cont ρ' => pur (.cont ρ')
section
variable {G : Gx} {W : Nat → Kd} {F0 : Addr → Prop} {H0 : Hp} {L : List ((Addr → Prop) × Hp)} {F : Addr → Prop} {S : SA} {σ : L2.St} {H : Hp} {ρ : Rho} {s : Src} {X : Cx}
theorem Sat.forget (h : Sat G W F0 H0 L F S σ H ρ s) (ks : List Nat) : Sat G W F0 H0 L F S σ H (BA.blank ρ ks) s :=
  h.slots ⟨h.ok.live, h.ok.sub, h.ok.src, fun i d e => h.ok.slot i d (getV_blank ρ i d ks e).2, by rw [blank_len]; exact h.ok.len⟩ fun _ _ => rfl
theorem ss_consF {st : Stmt} {rest : List Stmt} {a b : BA.St} {ks : List Nat} (h1 : PS X st (tS G W a)) (h2 : PSs X rest (tS G W b)) : PSs X (st :: rest) (tS G W (sSeqF a ks b)) :=
  (pss_cons h1 h2).weak fun D σ H ⟨F0, H0, L, F, S, ρ, s, sa, p⟩ => by
    unfold sSeqF at p
    rw [post_bnd] at p
    refine ⟨F0, H0, L, F, S, ρ, s, sa, post_mono p fun f s' q => ?_⟩
    cases f with
    | next ρ' => exact fun F' σ' H' sa' => ⟨F0, H0, L, F', S, _, s', sa'.forget ks, q⟩
    | ret d => exact q
    | brk ρ' => exact q
    | cont ρ' => exact q
end
/-- what a source is at first -/
structure Fresh (s : Src) : Prop where
  mixed : 0 ≤ s.mixed ∧ s.mixed < 2147483629
  turn : s.turn = 0
  left : s.left = 1
  cells : ∀ c ∈ s.cells, 0 ≤ c
  len : s.cells.length ≤ 16777216
/-- the promise of the def that makes the source -/
def spNew (K : PySem.W.Frag) : Sp := fun vs H Q _ => ∃ v d, vs = [v] ∧ ScrV K .nil H v d ∧ ∀ s p q H', Fresh s → Grow H H' → p ≠ q → H p = none → H q = none → H' p = some (.dK (srcD q s)) → H' q = some (.lst (s.cells.map V.int)) → Q (.ref p) H'
def spLaw (K : PySem.W.Frag) (TT : List (Addr × Str) := []) : Sp := fun vs H Q _ => ∃ v d, vs = [v] ∧ ScrV K .nil H v d ∧ (LamX.Tabs TT H ∧ ∀ x y, x ∈ TT → y ∈ TT → x.1 = y.1 → x = y) ∧ ∀ H', Q (.bl true) H'
/-- the slots of a law at its start: its source alone -/
def lawRho (n i : Nat) : Rho := setV (List.replicate n none) i .none
theorem getV_rep : ∀ (n i : Nat) (d : D), getV (List.replicate n none) i = some d → False
  | 0, _, _, h => by cases h
  | n + 1, 0, _, h => by cases h
  | n + 1, i + 1, d, h => getV_rep n i d (by rw [List.replicate_succ] at h; exact h)
section
variable {P : Program} {w : World} {K : PySem.W.Frag} {mg : Str → Option Value} {base : Heap} {G : Gx} {W : Nat → Kd} {X : Cx} {i : Nat} {D : Ends} {σ : L2.St} {H H' : Hp} {s : Src} {m : BA.St}
theorem law_start {p q : Addr} {n : Nat} {TT : List (Addr × Str)} (hTT : ∀ x ∈ G.T, x ∈ TT) (tt : LamX.Tabs TT H) (tu : ∀ x y, x ∈ TT → y ∈ TT → x.1 = y.1 → x = y) (hσ : σ.length = n) (hi : i < n) (hw : W i = .src) (own : ∀ j, W j = .own → σ[j]? = some none ∨ σ[j]? = none) (hne : p ≠ q) (hp : H p = some (.dK (srcD q s))) (hq : H q = some (.lst (s.cells.map V.int)))
    (k : post (m G.C (lawRho n i)) (fun f _ => f = .ret (.bool true)) s) (hD : ∀ H', D.rt (.bl true) H') : tS G W m D (σ.set i (some (.ref p))) H := by
  have so : SrcOk ⟨some (p, q), TT⟩ H s := ⟨⟨hne, hp, hq⟩, tt, tu⟩
  refine ⟨inS ⟨some (p, q), TT⟩, H, [], inS ⟨some (p, q), TT⟩, ⟨some (p, q), TT⟩, lawRho n i, s, ⟨⟨inS_mut so, fun a h => h, so, fun j d e => ?_, ?_, hTT⟩, fun a h => h, .refl _, ?_, ?_, ?_, fun r hr => (by cases hr), inS_mut so⟩, post_mono k fun f s' e => ?_⟩
  · rcases getV_setV _ i j _ d e with ⟨rfl, rfl⟩ | ⟨_, e⟩
    · refine ⟨.ref p, by rw [List.getElem?_set_self (by rw [hσ]; exact hi)], ?_⟩
      unfold Slot
      rw [hw]
      exact ⟨p, q, rfl, rfl, rfl⟩
    · exact (getV_rep _ _ _ e).elim
  · unfold lawRho
    rw [setV_len, List.length_replicate, List.length_set, hσ]
  · intro j a wj e
    have : i ≠ j := fun z => by rw [← z, hw] at wj; cases wj
    rw [List.getElem?_set_ne this] at e
    rcases own j wj with o | o <;> rw [o] at e <;> cases e
  · intro j a wj e
    have : i ≠ j := fun z => by rw [← z, hw] at wj; cases wj
    rw [List.getElem?_set_ne this] at e
    rcases own j wj with o | o <;> rw [o] at e <;> cases e
  · intro j l a _ wj _ e _
    have : i ≠ j := fun z => by rw [← z, hw] at wj; cases wj
    rw [List.getElem?_set_ne this] at e
    rcases own j wj with o | o <;> rw [o] at e <;> cases e
  · subst e
    intro v H' _ _ r
    cases r
    exact hD H'
end
end BA

/-! BA17: the defs that make the source; a law's end -/
namespace BA
open PySem PySem.Spec
open PyProof.Rows
open L2 hiding St

theorem intsD_map : ∀ ns : List Int, intsD (ns.map PyData.int) = some ns
  | [] => rfl
  | n :: r => by
    simp only [List.map_cons, intsD, asI]
    rw [intsD_map r]
    rfl
theorem ints_get {ns : List Int} {i : Nat} (h : i < ns.length) : (ns.map V.int)[i]? = some (.int ns[i]) := by
  rw [List.getElem?_map, List.getElem?_eq_getElem h]
  rfl
theorem yl_ints {P F : Addr → Prop} {H1 : Hp} {K : PySem.W.Frag} {a : Addr} {ns : List Int} (h : ∀ H, Pres P H1 H → SqL K H a (ns.map V.int)) (z : ns.length ≤ sizeLine) : Yl P F H1 (Itl K a) (ns.map PyData.int) := by
  refine ⟨by rw [List.length_map]; exact z, fun i hi H g => ?_, fun i d hd F' H x H' g gf m l y => ?_, fun H g => ⟨_, h H g, by rw [List.length_map, List.length_map]; exact Nat.le_refl _⟩⟩
  · rw [List.length_map] at hi
    exact ⟨_, _, h H g, ints_get hi⟩
  · rw [List.getElem?_map] at hd
    cases e : ns[i]? with
    | none => rw [e] at hd; cases hd
    | some n =>
      rw [e] at hd
      cases hd
      obtain ⟨e1, y⟩ := y
      subst e1
      have := y _ (h H' g)
      rw [List.getElem?_map, e] at this
      cases this
      exact ⟨.refl _, .int _⟩
theorem ScrV.held {K : PySem.W.Frag} {S : SA} {H : Hp} {F : Addr → Prop} {v : V} {d : D} (h : ScrV K S H v d) (l : Live F H) : ∃ (a : Addr) (ns : List Int), v = .ref a ∧ d = .list (ns.map PyData.int) ∧ ns.length ≤ sizeLine ∧ ∀ H', Pres F H H' → SqL K H' a (ns.map V.int) := by
  obtain ⟨a, ns, e1, e2, z, h⟩ := h
  refine ⟨a, ns, e1, e2, z, fun H' g => ?_⟩
  rcases h with h | ⟨o, h⟩
  · exact h H'
  · refine .inl (.inr ⟨o, g _ _ (fun f => ?_) h⟩)
    have := l a f
    rw [h] at this
    exact this
section
variable {G : Gx} {W : Nat → Kd} {X : Cx} {i : Nat} {x : Str} {pos p0 p1 p2 p3 p4 : Pos} {tg : Expr}
theorem si_scr {st : Bool} (hK : X.K = G.K) (hN : X.N[i]? = some x) (hv : Vis X.env.scope x) (hd : (x == ("__debug__" : Str)) = false) (hcd : (x == ("__classdict__" : Str)) = false) (hw : W i = .scr) : PI X tg (.Name x p0) (tI G W st (iVal (xVar i))) :=
  PI.weak (pi_list (pe_var hN hv hd hcd)) fun σ H Q ⟨F, S, ρ, s, ok, p⟩ => by
    unfold iVal xVar at p
    rw [post_bnd] at p
    obtain ⟨d, e, p⟩ := post_opt.mp p
    obtain ⟨ds, e2, q⟩ := post_opt.mp p
    obtain ⟨v, h1, h2⟩ := ok.slot i d e
    unfold Slot at h2
    rw [hw] at h2
    obtain ⟨a, ns, rfl, rfl, z, h⟩ := ScrV.held h2 ok.live
    cases e2
    refine ⟨_, h1, a, rfl, ⟨_, by rw [hK]; exact h H (.refl _)⟩, q _ H (.refl _) ok.src ?_⟩
    rw [hK]
    refine yl_ints (fun H' g => h H' (g.mono fun a q => ?_)) z
    split at q
    · exact q
    · exact ok.sub a q
theorem sf_rev {a : Expr} {ma : E} {k : Nat} (ha : PE X a (tB G W ma)) : PE X (.Subscript a (.Slice none none (some (.UnaryOp .USub (.Constant (.int 1) k p3) p4)) p2) pos) (tF G W (xRev ma)) :=
  (pe_revL ha).weak fun σ H Q ⟨F, S, ρ, s, ok, p⟩ => tB.go ok p fun d s1 v H1 g1 ok1 r1 p1 => by
    obtain ⟨k, e, q⟩ := post_opt.mp p1
    unfold revD at e
    split at e
    · cases e
      obtain ⟨ad, xs, rfl, h, z, ra⟩ := r1.b.list
      refine ⟨ad, xs, rfl, SqL.of h, fun p hp => ?_⟩
      have hp0 : H p = none := by
        cases e : H p with
        | none => rfl
        | some o => rw [g1 p o (fun f => ok1.live.new hp (ok.sub p f)) e] at hp; cases hp
      refine q _ _ (g1.trans (Grow.new hp).pres) (ok1.src.grow (.new hp)) hp0 (.inl ⟨_, _, rfl, upd_same, by rw [List.length_reverse]; exact z, ?_⟩)
      exact (ra.rev.move fun b n f => f.elim (fun f => f) fun z => absurd hp (by rw [← z]; exact n)).pres (Grow.new hp).pres
    · cases e
/-- return {'cells': .., 'left': 1, 'mixed': .., 'turn': 0} -/
def tNew (G : Gx) (W : Nat → Kd) (m1 m2 : E) : TS := fun D σ H => ∃ F0 H0 L F ρ s, Sat G W F0 H0 L F .nil σ H ρ s ∧
  post (bnd (m1 G.C ρ) fun d => bnd (m2 G.C ρ) fun e => pur (d, e)) (fun r _ => ∃ (ns : List Int) (k : Int), r = (.list (ns.map PyData.int), .int k) ∧ ∀ p q H', Grow H H' → p ≠ q → H p = none → H q = none → H' p = some (.dK (srcD q ⟨ns, 1, k, 0⟩)) → H' q = some (.lst (ns.map V.int)) → D.rt (.ref p) H') s
theorem merge_src (q : Addr) (s : Src) : mergeK [] (srcD q s) = srcD q s := by
  unfold mergeK srcD
  simp only [List.foldl_cons, List.foldl_nil]
  rw [putK_new _ (valV_nil), List.nil_append, putK_new (kvs := [(skey "cells", _)]) _ ((valV_neg nk1).trans valV_nil), List.cons_append, List.nil_append,
    putK_new (kvs := [(skey "cells", _), (skey "left", _)]) _ ((valV_neg nk2).trans ((valV_neg nk4).trans valV_nil)), List.cons_append, List.cons_append, List.nil_append,
    putK_new (kvs := [(skey "cells", _), (skey "left", _), (skey "mixed", _)]) _ ((valV_neg nk3).trans ((valV_neg nk5).trans ((valV_neg nk6).trans valV_nil)))]
  rfl
theorem pres_none {H H' : Hp} (g : Pres (inS .nil) H H') : Grow H H' := fun b o e => g b o (fun z => z.elim (fun z => z) fun ⟨_, z⟩ => by cases z) e
theorem ss_new {k1 k2 k3 k4 : Str} {j1 j2 j3 j4 j5 j6 : Nat} {q1 q2 q3 q4 q5 q6 qd : Pos} {e1 e2 : Expr} {m1 m2 : E} (h1 : k1 = Str.ofString "cells") (h2 : k2 = Str.ofString "left") (h3 : k3 = Str.ofString "mixed") (h4 : k4 = Str.ofString "turn")
    (he1 : PE X e1 (tF G W m1)) (he2 : PE X e2 (tE G W m2)) :
    PS X (.Return (some (.Dict [some (.Constant (.str k1) j1 q1), some (.Constant (.str k2) j2 q2), some (.Constant (.str k3) j3 q3), some (.Constant (.str k4) j4 q4)] [e1, .Constant (.int 1) j5 q5, e2, .Constant (.int 0) j6 q6] qd)) pos) (tNew G W m1 m2) :=
  (ps_ret (pe_disp (pps_cons pe_str he1 (pps_cons pe_str pe_int (pps_cons pe_str he2 (pps_cons pe_str pe_int pps_nil)))) rfl rfl (by simp) (by show 4 ≤ 15; decide))).weak fun D σ H ⟨F0, H0, L, F, ρ, s, sa, p⟩ => by
    subst h1 h2 h3 h4
    intro pp hpp
    have sa1 := sa.grow (Grow.new (o := .dK []) hpp)
    rw [post_bnd] at p
    refine ⟨F, .nil, ρ, s, sa1.ok, post_mono p fun d s1 p1 qq H1 g1 k1 nq o => ?_⟩
    rw [post_bnd] at p1
    have sa2 := sa1.step g1 k1
    refine ⟨F, .nil, ρ, s1, sa2.ok, post_mono p1 fun e s2 p2 v H2 g2 k2 r2 => ?_⟩
    obtain ⟨ns, k, er, go⟩ := p2
    cases er
    cases r2
    obtain ⟨xs, hq, z, ra⟩ := o.list
    have exs : xs = ns.map V.int := by
      exact ra.ints (intsD_map ns)
    subst exs
    have hne : pp ≠ qq := fun z => by
      rw [← z, upd_same] at nq
      cases nq
    have hq0 : H qq = none := by
      rw [upd_ne (Ne.symm hne)] at nq
      exact nq
    have gp : H2 pp = some (.dK []) := pres_none g2 _ _ (pres_none g1 _ _ upd_same)
    refine ⟨gp, srcD qq ⟨ns, 1, k, 0⟩, rfl, by show 4 ≤ 15; decide, ?_⟩
    rw [merge_src]
    refine go pp qq _ (fun b o e => ?_) hne hpp hq0 upd_same ?_
    · have hb : b ≠ pp := fun z => by rw [z, hpp] at e; cases e
      rw [upd_ne hb]
      exact pres_none g2 _ _ (pres_none g1 _ _ (by rw [upd_ne hb]; exact e))
    · rw [upd_ne (Ne.symm hne)]
      exact pres_none g2 _ _ hq
end
end BA

/-! BA18: the rules in short; the law's def -/
namespace BA
open PySem PySem.Spec
open PyProof.Rows
open L2 hiding St

theorem hu65 {k : Nat} {A : Around} (h : GRoom k A) : A.units + 65 < cLine := by have := h.room.un; omega
theorem hu1 {k : Nat} {A : Around} (h : GRoom k A) : A.units + 1 < cLine := by have := h.room.un; omega
theorem ltN {N : List Str} {i : Nat} {x : Str} (h : N[i]? = some x) : i < N.length := (List.getElem?_eq_some_iff.mp h).1
def topOf (P : Program) (i : Nat) : Stmt := P.main.body.getD i (.Pass ⟨0, 0, 0, 0⟩)
def kindOf (ws : List Kd) (i : Nat) : Kd := ws.getD i .dat
def nth (ds : List Def) (i : Nat) : Option Def := match ds, i with
  | [], _ => none
  | d :: _, 0 => some d
  | _ :: r, i + 1 => nth r i

section
variable {G : Gx} {W : Nat → Kd} {X : Cx} {pos p p0 p1 p2 p3 : Pos}
theorem v_ (i : Nat) {x : Str} (hN : X.N[i]? = some x := by rfl) (hv : Vis X.env.scope x := by first | exact Or.inl rfl | exact Or.inr (Or.inl rfl) | exact Or.inr (Or.inr rfl)) (hk : W i = .dat := by rfl)
    (hd : (x == ("__debug__" : Str)) = false := by decide) (hcd : (x == ("__classdict__" : Str)) = false := by decide) : PE X (.Name x pos) (tE G W (xVar i)) := se_var hN hv hd hcd hk
theorem o_ (i : Nat) {x : Str} (hN : X.N[i]? = some x := by rfl) (hv : Vis X.env.scope x := by first | exact Or.inl rfl | exact Or.inr (Or.inl rfl) | exact Or.inr (Or.inr rfl)) (hk : W i = .own := by rfl)
    (hd : (x == ("__debug__" : Str)) = false := by decide) (hcd : (x == ("__classdict__" : Str)) = false := by decide) : PE X (.Name x pos) (tB G W (xVar i)) := sb_own hN hv hd hcd hk
theorem g_ (i : Nat) {x : Str} (hN : X.N.Nodup) (hi : X.N[i]? = some x := by rfl) (hx : Loc X.env.scope x := by first | exact Or.inl rfl | exact Or.inr rfl) (hf : X.fn x = true ∨ X.env.scope.names.lookup x = some .local := by first | exact .inl rfl | exact .inr rfl) (hw : W i = .dat := by rfl) :
    PG X (.Name x pos) (tG G W [i] (gVar i)) := sg_name hN hi hx hf hw
theorem gc_ {e : Expr} {es : List Expr} {vs : List Nat} {g : BA.G} {gs : Gs} (h1 : PG X e (tG G W vs g)) (h2 : PGs X es (tGs G W vs gs)) (hs : (assignEach (e :: es) X.env).map (·.2) = assign e X.env :: (assignEach es X.env).map (·.2) := by rfl) : PGs X (e :: es) (tGs G W vs (gCons g gs)) := sg_cons h1 h2 hs
theorem gt_ {es : List Expr} {k : Nat} {vs : List Nat} {gs : Gs} (n : Nat) (h : PGs X es (tGs G W vs gs)) (hl : lenG gs n) (hc : X.calm = true := by rfl) (hn : (assignEach es X.env).length = n := by rfl) (hst : (assignEach es X.env).findIdx? (·.1) = none := by rfl) :
    PG X (.Tuple es k pos) (tG G W vs (gTup gs)) := sg_tup hc h hl hn hst
variable {a b c e : Expr} {r es : List Expr} {ma mb mc m : E} {mr : Es}
theorem cmp_ {o : CmpOp} (hu : X.A.units + 65 < cLine) (ha : PE X a (tB G W ma)) (hb : PE X b (tB G W mb)) (hm : behindInMarks o b = false := by rfl) : PE X (.Compare a [o] [b] pos) (tE G W (xCmp o ma mb)) := se_cmp hu ha hb hm
theorem tcmp_ {o : CmpOp} (hu : X.A.units + 65 < cLine) (ha : PE X a (tB G W ma)) (hb : PE X b (tB G W mb)) (hm : behindInMarks o b = false := by rfl) : PT X (.Compare a [o] [b] pos) (tT G W (xCmp o ma mb)) := st_cmp hu ha hb hm
theorem cmp2_ {o o2 : CmpOp} (hu : X.A.units + 65 < cLine) (ha : PE X a (tB G W ma)) (hb : PE X b (tB G W mb)) (hc : PE X c (tB G W mc)) (hm : lastMarks [o, o2] [b, c] = false := by rfl) : PE X (.Compare a [o, o2] [b, c] pos) (tE G W (xCmp2 o o2 ma mb mc)) := se_cmp2 hu ha hb hc hm
theorem tcmp2_ {o o2 : CmpOp} (hu : X.A.units + 65 < cLine) (ha : PE X a (tB G W ma)) (hb : PE X b (tB G W mb)) (hc : PE X c (tB G W mc)) (hm : lastMarks [o, o2] [b, c] = false := by rfl) : PT X (.Compare a [o, o2] [b, c] pos) (tT G W (xCmp2 o o2 ma mb mc)) := st_cmp2 hu ha hb hc hm
theorem op_ {o : Operator} (ha : PE X a (tB G W ma)) (hb : PE X b (tB G W mb)) (ho : opKnown o = true := by rfl) : PE X (.BinOp a o b pos) (tE G W (xOp o ma mb)) := se_op ho ha hb
theorem val_ (h : PE X e (tE G W m)) (he : ∀ whole, isTrue e X.env whole = (do let v ← whole; standAt e.pos; holding [v] (truthy v)) := by intro _; rfl) : PT X e (tT G W m) := st_val h he
theorem ca_ (ha : PE X a (tE G W ma)) (hr : PA X r (tEs G W mr)) (hs : starEach (a :: r) X.env = (false, eval a X.env) :: starEach r X.env := by rfl) : PA X (a :: r) (tEs G W (xCons ma mr)) := sa_cons ha hr hs
theorem cb_ (ha : PE X a (tB G W ma)) (hr : PA X r (tBs G W mr)) (hs : starEach (a :: r) X.env = (false, eval a X.env) :: starEach r X.env := by rfl) : PA X (a :: r) (tBs G W (xCons ma mr)) := sc_cons ha hr hs
theorem cs_ (ha : PE X a (tB G W ma)) (hr : PA X r (tEs G W mr)) (hs : starEach (.Starred a p :: r) X.env = (true, eval a X.env) :: starEach r X.env := by rfl) : PA X (.Starred a p :: r) (tEs G W (xStar ma mr)) := sa_star ha hr hs
theorem ck_ {ks : List Kd} (ha : PE X a (tE G W ma)) (hr : PA X r (tKs G W ks mr)) (hs : starEach (a :: r) X.env = (false, eval a X.env) :: starEach r X.env := by rfl) : PA X (a :: r) (tKs G W (.dat :: ks) (xCons ma mr)) := sk_dat ha hr hs
theorem co_ {ks : List Kd} (ha : PE X a (tF G W ma)) (hr : PA X r (tKs G W ks mr)) (hs : starEach (a :: r) X.env = (false, eval a X.env) :: starEach r X.env := by rfl) : PA X (a :: r) (tKs G W (.own :: ks) (xCons ma mr)) := sk_own ha hr hs
theorem cp_ {κs : List Kd} (ha : PE X a (tE G W ma)) (hr : PA X r (tAs G W κs mr)) (hs : starEach (a :: r) X.env = (false, eval a X.env) :: starEach r X.env := by rfl) : PA X (a :: r) (tAs G W (.dat :: κs) (xCons ma mr)) := sp_dat ha hr hs
theorem cps_ {κs : List Kd} (i : Nat) {x : Str} (hr : PA X r (tAs G W κs mr)) (hN : X.N[i]? = some x := by rfl) (hv : Vis X.env.scope x := by first | exact Or.inl rfl | exact Or.inr (Or.inl rfl) | exact Or.inr (Or.inr rfl)) (hk : W i = .src := by rfl)
    (hd : (x == ("__debug__" : Str)) = false := by decide) (hcd : (x == ("__classdict__" : Str)) = false := by decide) (hs : starEach (.Name x p :: r) X.env = (false, eval (.Name x p) X.env) :: starEach r X.env := by rfl) : PA X (.Name x p :: r) (tAs G W (.src :: κs) (xCons (xVar i) mr)) := sp_src hN hv hd hcd hk hr hs
theorem sub_ (ha : PE X a (tB G W ma)) (hb : PE X b (tB G W mb)) (hs : PlainIx b := by intro _ _; rfl) : PE X (.Subscript a b pos) (tE G W (xSub ma mb)) := se_sub ha hb hs
theorem call_ {k : Nat} {fa : Addr} {fd : FuncData} {ps : List Str} {x : Str} {f : Nat} {κs : List Kd} (F : FnG X.prog X.w X.K X.mg X.base CX0 k fa fd ps (spOf G κs f)) (hr : GRoom k X.A) (hm : X.mg x = some (.ref fa)) (hk : PySem.W.keepIn X.K (.ref fa) = true) (hb : Binds X.K fd ps [])
    (ha : PA X (e :: es) (tAs G W κs mr)) (hg : Gl X x := by rfl) (hdb : (x == ("__debug__" : Str)) = false := by decide) (he : starEach (e :: es) X.env = (false, eval e X.env) :: starEach es X.env := by rfl) (hpl : (backTo pos (starEach es X.env)).any (·.1) = false := by rfl) :
    PE X (.Call (.Name x p) (e :: es) [] pos) (tE G W (xCall f mr)) := se_call F hr hg hm hk hb ha hdb he hpl
theorem call0_ {k : Nat} {fa : Addr} {fd : FuncData} {ps : List Str} {x : Str} {f : Nat} (F : FnG X.prog X.w X.K X.mg X.base CX0 k fa fd ps (spOf G [] f)) (hr : GRoom k X.A) (hm : X.mg x = some (.ref fa)) (hk : PySem.W.keepIn X.K (.ref fa) = true) (hb : Binds X.K fd ps [])
    (hg : Gl X x := by rfl) (hdb : (x == ("__debug__" : Str)) = false := by decide) : PE X (.Call (.Name x p) [] [] pos) (tE G W (xCall f xNil)) := se_call0 F hr hg hm hk hb hdb
theorem pb_ {q : Pm} {id : String} {x : Str} (hc : CallR X (.builtin id) (RC (prim q))) (hm : X.mg x = none) (ha : PA X (e :: es) (tBs G W mr)) (hg : Gl X x := by rfl) (hv : bootBuiltins x = some (.builtin id) := by decide +kernel) (hn : x ≠ "__name__" := by decide) (hdb : (x == ("__debug__" : Str)) = false := by decide)
    (he : starEach (e :: es) X.env = (false, eval e X.env) :: starEach es X.env := by rfl) (hpl : (backTo pos (starEach es X.env)).any (·.1) = false := by rfl) : PE X (.Call (.Name x p) (e :: es) [] pos) (tE G W (xPrim q mr)) := se_primB hc hg hm hv ha hn hdb he hpl
theorem pt_ {q : Pm} {id : String} {x : Str} (hc : CallR X (.type id) (RC (prim q))) (hm : X.mg x = none) (ha : PA X (e :: es) (tBs G W mr)) (hg : Gl X x := by rfl) (hv : bootBuiltins x = some (.type id) := by decide +kernel) (hn : x ≠ "__name__" := by decide) (hdb : (x == ("__debug__" : Str)) = false := by decide)
    (he : starEach (e :: es) X.env = (false, eval e X.env) :: starEach es X.env := by rfl) (hpl : (backTo pos (starEach es X.env)).any (·.1) = false := by rfl) : PE X (.Call (.Name x p) (e :: es) [] pos) (tE G W (xPrim q mr)) := se_primT hc hg hm hv ha hn hdb he hpl
theorem lf_ (hm : X.mg "list" = none) (ha : PA X [e] (tBs G W mr)) (hg : Gl X "list" := by rfl) (hv : bootBuiltins "list" = some (.type "list") := by decide +kernel) (he : starEach [e] X.env = [(false, eval e X.env)] := by rfl) : PE X (.Call (.Name "list" p) [e] [] pos) (tF G W (xPrim .list mr)) := sf_list hg hm hv ha he
theorem rp_ (hu : X.A.units + 65 < cLine) (hG : X.A.guards = some []) (hm : X.mg "repr" = none) (ha : PE X e (tB G W m)) (hg : Gl X "repr" := by rfl) (hv : bootBuiltins "repr" = some (.builtin "repr") := by decide +kernel) (he : starEach [e] X.env = [(false, eval e X.env)] := by rfl) :
    PE X (.Call (.Name "repr" p) [e] [] pos) (tE G W (xRepr m)) := se_reprCall hu hG hg hm hv ha he
variable {elt tg iter : Expr} {ifs : List Expr} {scope : Scope} {me : Es} {g : BA.G} {ct : Et} {el : E} {ts : List Nat}
theorem lc_ (own : List (Str × Nat)) (hN : X.N.Nodup) (hi : PI X tg iter (tI G W false me)) 
    (hg : ∀ (s : Shared) (H : Hp) (C : Addr) (cl : List (Str × Addr)) (fp : List Addr), PG (X.blk s H scope (compEnvC scope cl C X.env) fp) tg (tG G W ts g))
    (hif : ∀ (s : Shared) (H : Hp) (C : Addr) (cl : List (Str × Addr)) (fp : List Addr), PTs (X.blk s H scope (compEnvC scope cl C X.env) fp) ifs (tC1 G W ct))
    (he : ∀ (s : Shared) (H : Hp) (C : Addr) (cl : List (Str × Addr)) (fp : List Addr), PE (X.blk s H scope (compEnvC scope cl C X.env) fp) elt (tE G W el))
    (hc : X.calm = true := by rfl) (ht : ∀ i ∈ ts, i ∈ own.map (·.2) := by decide) (ok : blkC X.N X.env.scope scope own = true := by rfl) (hs : ∀ x, foldedSetIterable iter X.env x = pure x := by intro _; rfl) :
    PE X (.ListComp elt [⟨tg, iter, ifs, 0⟩] scope pos) (tF G W (xComp (own.map (·.2)) me g ct el)) := sf_comp hc hN ht hi (blkOk_by ok) hg hif he hs
/-! what is walked -/
theorem ib_ {st : Bool} (h : PE X a (tBx G W st ma)) : PI X tg a (tI G W st (iVal ma)) := si_val h
theorem ir_ {st : Bool} (hm : X.mg "range" = none) (ha : PE X a (tB G W ma)) (hg : Gl X "range" := by rfl) (hs : starEach [a] X.env = [(false, eval a X.env)] := by rfl) : PI X tg (.Call (.Name "range" p) [a] [] pos) (tI G W st (iRange ma)) := si_range hg hm ha hs
theorem ir2_ {st : Bool} (hm : X.mg "range" = none) (ha : PE X a (tB G W ma)) (hb : PE X b (tB G W mb)) (hg : Gl X "range" := by rfl) (hs : starEach [a, b] X.env = [(false, eval a X.env), (false, eval b X.env)] := by rfl) (hs2 : starEach [b] X.env = [(false, eval b X.env)] := by rfl) :
    PI X tg (.Call (.Name "range" p) [a, b] [] pos) (tI G W st (iRange2 ma mb)) := si_range2 hg hm ha hb hs hs2
theorem ie_ {st : Bool} {elts : List Expr} {kk : Nat} (hm : X.mg "enumerate" = none) (ha : PE X a (tBx G W st ma)) (hg : Gl X "enumerate" := by rfl) (hs : starEach [a] X.env = [(false, eval a X.env)] := by rfl) :
    PI X (.Tuple elts kk p0) (.Call (.Name "enumerate" p) [a] [] pos) (tI G W st (iEnum ma)) := si_enum hg hm ha hs
theorem iz_ {st : Bool} {elts : List Expr} {kk : Nat} (hm : X.mg "zip" = none) (ha : PE X a (tBx G W st ma)) (hb : PE X b (tBx G W st mb)) (hg : Gl X "zip" := by rfl) (hs : starEach [a, b] X.env = [(false, eval a X.env), (false, eval b X.env)] := by rfl) (hs2 : starEach [b] X.env = [(false, eval b X.env)] := by rfl) :
    PI X (.Tuple elts kk p0) (.Call (.Name "zip" p) [a, b] [] pos) (tI G W st (iZip ma mb)) := si_zip hg hm ha hb hs hs2
theorem izs_ {st : Bool} {elts : List Expr} {kk j : Nat} {p3 kp : Pos} (hm : X.mg "zip" = none) (ha : PE X a (tBx G W st ma)) (hb : PE X b (tBx G W st mb)) (hg : Gl X "zip" := by rfl) (hs : starEach [a, b] X.env = [(false, eval a X.env), (false, eval b X.env)] := by rfl) (hs2 : starEach [b] X.env = [(false, eval b X.env)] := by rfl) :
    PI X (.Tuple elts kk p0) (.Call (.Name "zip" p) [a, b] [⟨some "strict", .Constant (.bool true) j p3, kp⟩] pos) (tI G W st (iZipS ma mb)) := si_zipS hg hm ha hb hs hs2
theorem ic_ {st : Bool} (i : Nat) {x : Str} (hK : X.K = G.K := by rfl) (hN : X.N[i]? = some x := by rfl) (hv : Vis X.env.scope x := by first | exact Or.inl rfl | exact Or.inr (Or.inl rfl) | exact Or.inr (Or.inr rfl)) (hk : W i = .scr := by rfl)
    (hd : (x == ("__debug__" : Str)) = false := by decide) (hcd : (x == ("__classdict__" : Str)) = false := by decide) : PI X tg (.Name x p0) (tI G W st (iVal (xVar i))) := si_scr hK hN hv hd hcd hk
/-! statements -/
variable {x y z : Str}
theorem set_ (i : Nat) (hN : X.N.Nodup) (he : PE X e (tE G W m)) (hi : X.N[i]? = some x := by rfl) (hx : Loc X.env.scope x := by first | exact Or.inl rfl | exact Or.inr rfl) (hw : W i = .dat := by rfl) (hs : swapsWith e (some (.Name x p)) pos.line X.env = pure false := by rfl)
    (hf : X.fn x = true ∨ X.env.scope.names.lookup x = some .local := by first | exact .inl rfl | exact .inr rfl) : PS X (.Assign [.Name x p] e pos) (tS G W (sSet i m)) := ss_set hN hi (ltN hi) hx hw he hs hf
theorem setF_ (i : Nat) (hN : X.N.Nodup) (he : PE X e (tF G W m)) (hi : X.N[i]? = some x := by rfl) (hx : Loc X.env.scope x := by first | exact Or.inl rfl | exact Or.inr rfl) (hw : W i = .own := by rfl) (hs : swapsWith e (some (.Name x p)) pos.line X.env = pure false := by rfl)
    (hf : X.fn x = true ∨ X.env.scope.names.lookup x = some .local := by first | exact .inl rfl | exact .inr rfl) : PS X (.Assign [.Name x p] e pos) (tS G W (sSet i m)) := ss_setF hN hi (ltN hi) hx hw he hs hf
theorem setL_ (i : Nat) (own : List (Str × Nat)) (hN : X.N.Nodup) (hi : PI X tg iter (tI G W false me)) 
    (hg : ∀ (s : Shared) (H : Hp) (C : Addr) (cl : List (Str × Addr)) (fp : List Addr), PG (X.blk s H scope (compEnvC scope cl C X.env) fp) tg (tG G W ts g))
    (hif : ∀ (s : Shared) (H : Hp) (C : Addr) (cl : List (Str × Addr)) (fp : List Addr), PTs (X.blk s H scope (compEnvC scope cl C X.env) fp) ifs (tC1 G W ct))
    (he : ∀ (s : Shared) (H : Hp) (C : Addr) (cl : List (Str × Addr)) (fp : List Addr), PE (X.blk s H scope (compEnvC scope cl C X.env) fp) elt (tE G W el))
    (hy : X.N[i]? = some y := by rfl) (hyl : X.env.scope.names.lookup y = some .local := by rfl) (hw : (W i = .own ∨ W i = .dat) := by first | exact .inl rfl | exact .inr rfl)
    (hsw : swapsWith (.ListComp elt [⟨tg, iter, ifs, 0⟩] scope p) (some (.Name y p1)) pos.line X.env = pure true := by exact sw_true rfl rfl rfl rfl)
    (hc : X.calm = true := by rfl) (ht : ∀ i ∈ ts, i ∈ own.map (·.2) := by decide) (ok : blkC X.N X.env.scope scope own = true := by rfl) (hs : ∀ x, foldedSetIterable iter X.env x = pure x := by intro _; rfl) :
    PS X (.Assign [.Name y p1] (.ListComp elt [⟨tg, iter, ifs, 0⟩] scope p) pos) (tS G W (sSet i (xComp (own.map (·.2)) me g ct el))) := ss_setLc hc hN hy (ltN hy) hyl hw hsw ht hi (blkOk_by ok) hg hif he hs
theorem asg_ (he : PE X e (tE G W m)) (hg : PG X tg (tG G W ts g)) (ht : ∀ i ∈ ts, W i = .dat := by decide) (hs : swapsWithSole [tg] e pos.line X.env = pure false := by rfl) (hw : swappedStores [tg] e X.env = pure none := by rfl)
    (h1 : (assignEach [tg] X.env).map (·.2) = [assign tg X.env] := by rfl) : PS X (.Assign [tg] e pos) (tS G W (sAsg g m)) := ss_asg he hg ht hs hw h1
theorem par_ (i j : Nat) {ks : List Kd} {kt k2 : Nat} {pt2 pt : Pos} (hN : X.N.Nodup) (ha : PA X [a, b] (tKs G W ks mr)) (hi : X.N[i]? = some x := by rfl) (hj : X.N[j]? = some y := by rfl) (hij : i ≠ j := by decide)
    (hx : X.env.scope.names.lookup x = some .local := by rfl) (hy : X.env.scope.names.lookup y = some .local := by rfl) (hk : [i, j].map W = ks := by rfl)
    (hw : swappedStores [.Tuple [.Name x p, .Name y p1] kt pt] (.Tuple [a, b] k2 pt2) X.env = pure (some [x, y]) := by rfl) (hs : swapsWithSole [.Tuple [.Name x p, .Name y p1] kt pt] (.Tuple [a, b] k2 pt2) pos.line X.env = pure false := by rfl) (hc : X.calm = true := by rfl) :
    PS X (.Assign [.Tuple [.Name x p, .Name y p1] kt pt] (.Tuple [a, b] k2 pt2) pos) (tS G W (sPar (gIs [i, j]) mr)) := ss_par hc hN hi hj hij (ltN hi) (ltN hj) hx hy hk ha hw hs
theorem par3_ (i j l : Nat) {ks : List Kd} {kt k2 : Nat} {pt2 pt : Pos} (hN : X.N.Nodup) (ha : PA X [a, b, c] (tKs G W ks mr)) (hi : X.N[i]? = some x := by rfl) (hj : X.N[j]? = some y := by rfl) (hl : X.N[l]? = some z := by rfl) (hij : i ≠ j := by decide) (hil : i ≠ l := by decide) (hjl : j ≠ l := by decide)
   
    (hx : X.env.scope.names.lookup x = some .local := by rfl) (hy : X.env.scope.names.lookup y = some .local := by rfl) (hz : X.env.scope.names.lookup z = some .local := by rfl) (hk : [i, j, l].map W = ks := by rfl)
    (hw : swappedStores [.Tuple [.Name x p, .Name y p1, .Name z p2] kt pt] (.Tuple [a, b, c] k2 pt2) X.env = pure (some [x, y, z]) := by rfl) (hs : swapsWithSole [.Tuple [.Name x p, .Name y p1, .Name z p2] kt pt] (.Tuple [a, b, c] k2 pt2) pos.line X.env = pure false := by rfl) (hc : X.calm = true := by rfl) :
    PS X (.Assign [.Tuple [.Name x p, .Name y p1, .Name z p2] kt pt] (.Tuple [a, b, c] k2 pt2) pos) (tS G W (sPar (gIs [i, j, l]) mr)) := ss_par3 hc hN hi hj hl hij hil hjl (ltN hi) (ltN hj) (ltN hl) hx hy hz hk ha hw hs
theorem retO_ (i : Nat) (hN : X.N[i]? = some x := by rfl) (hv : Vis X.env.scope x := by first | exact Or.inl rfl | exact Or.inr (Or.inl rfl) | exact Or.inr (Or.inr rfl)) (hw : W i = .own := by rfl) (hd : (x == ("__debug__" : Str)) = false := by decide) (hcd : (x == ("__classdict__" : Str)) = false := by decide) :
    PS X (.Return (some (.Name x p)) pos) (tS G W (sRet (xVar i))) := ss_retO hN hv hd hcd hw
variable {body : List Stmt} {sb : BA.St}
theorem while_ (hp : PassesOwn (model X.prog X.w) X.A X.env X.xe) (hc : PT X c (tT G W mc)) (hb : PSs X body (tS G W sb)) : PS X (.While c body [] pos) (tS G W (sWhile mc sb)) := ss_while hp hc hb
theorem for_ (hp : PassesOwn (model X.prog X.w) X.A X.env X.xe) (hi : PI X tg iter (tI G W true me)) (hg : PG X tg (tG G W ts g)) (hb : PSs X body (tS G W sb)) (ht : ∀ i ∈ ts, W i = .dat := by decide) (hc : X.calm = true := by rfl) (hs : ∀ x, foldedSetIterable iter X.env x = pure x := by intro _; rfl) :
    PS X (.For tg iter body [] pos) (tS G W (sFor g me sb)) := ss_for hp hc hi hg ht hb hs
theorem store_ (i : Nat) {k : Expr} {mk : E} (he : PE X e (tE G W m)) (hk : PE X k (tB G W mk)) (hN : X.N[i]? = some x := by rfl) (hv : Vis X.env.scope x := by first | exact Or.inl rfl | exact Or.inr (Or.inl rfl) | exact Or.inr (Or.inr rfl)) (hw : W i = .own := by rfl)
    (ha : ∀ v, assign (.Subscript (.Name x p) k p1) X.env v = (do
      let ov ← holding [v] (eval (.Name x p) X.env)
      let iv ← holding [v, ov] (eval k X.env)
      standAt p1
      holding [v, ov, iv] (setItem ov iv v)
      release [v, ov, iv] []) := by intro _; rfl)
    (hs : swapsWithSole [.Subscript (.Name x p) k p1] e pos.line X.env = pure false := by rfl) (hsw : swappedStores [.Subscript (.Name x p) k p1] e X.env = pure none := by rfl)
    (h1 : (assignEach [.Subscript (.Name x p) k p1] X.env).map (·.2) = [assign (.Subscript (.Name x p) k p1) X.env] := by rfl) (hd : (x == ("__debug__" : Str)) = false := by decide) (hcd : (x == ("__classdict__" : Str)) = false := by decide) :
    PS X (.Assign [.Subscript (.Name x p) k p1] e pos) (tS G W (sStore i mk m)) := ss_store hN hv hd hcd hw he hk ha hs hsw h1
variable {apos cpos : Pos}
theorem app_ (i : Nat) (he : PE X e (tE G W m)) (hN : X.N[i]? = some x := by rfl) (hv : Vis X.env.scope x := by first | exact Or.inl rfl | exact Or.inr (Or.inl rfl) | exact Or.inr (Or.inr rfl)) (hw : W i = .own := by rfl) (hst : starEach [e] X.env = [(false, eval e X.env)] := by rfl)
    (hbase : attributeBase (.Name x p0) "append" X.env (eval (.Name x p0) X.env) = eval (.Name x p0) X.env := by rfl)
    (hfew : ((backTo cpos (starEach [e] X.env)).all (fun x => !x.1) && (backToKw cpos (keywordEach [] X.env)).all (fun x => x.1.isSome) && decide ([e].length + ([] : List Keyword).length + (if ([] : List Keyword).isEmpty then 0 else 1) < 30)) = true := by rfl)
    (hline : (apos.endLine == cpos.line) = true := by rfl) (hs : swapsWith (.Call (.Attribute (.Name x p0) "append" apos) [e] [] cpos) none pos.line X.env = pure false := by rfl) (hd : (x == ("__debug__" : Str)) = false := by decide) (hcd : (x == ("__classdict__" : Str)) = false := by decide) :
    PS X (.Expr (.Call (.Attribute (.Name x p0) "append" apos) [e] [] cpos) pos) (tS G W (sAppend i m)) := ss_append hN hv hd hcd hw he hst hbase hfew hline hs
theorem ext_ (i : Nat) (he : PE X e (tB G W m)) (hN : X.N[i]? = some x := by rfl) (hv : Vis X.env.scope x := by first | exact Or.inl rfl | exact Or.inr (Or.inl rfl) | exact Or.inr (Or.inr rfl)) (hw : W i = .own := by rfl) (hst : starEach [e] X.env = [(false, eval e X.env)] := by rfl)
    (hbase : attributeBase (.Name x p0) "extend" X.env (eval (.Name x p0) X.env) = eval (.Name x p0) X.env := by rfl)
    (hfew : ((backTo cpos (starEach [e] X.env)).all (fun x => !x.1) && (backToKw cpos (keywordEach [] X.env)).all (fun x => x.1.isSome) && decide ([e].length + ([] : List Keyword).length + (if ([] : List Keyword).isEmpty then 0 else 1) < 30)) = true := by rfl)
    (hline : (apos.endLine == cpos.line) = true := by rfl) (hs : swapsWith (.Call (.Attribute (.Name x p0) "extend" apos) [e] [] cpos) none pos.line X.env = pure false := by rfl) (hd : (x == ("__debug__" : Str)) = false := by decide) (hcd : (x == ("__classdict__" : Str)) = false := by decide) :
    PS X (.Expr (.Call (.Attribute (.Name x p0) "extend" apos) [e] [] cpos) pos) (tS G W (sExtend i m)) := ss_extend hN hv hd hcd hw he hst hbase hfew hline hs
theorem pop_ (i : Nat) (hg : PG X tg (tG G W ts g)) (hN : X.N[i]? = some x := by rfl) (hv : Vis X.env.scope x := by first | exact Or.inl rfl | exact Or.inr (Or.inl rfl) | exact Or.inr (Or.inr rfl)) (hw : W i = .own := by rfl) (ht : ∀ i ∈ ts, W i = .dat := by decide)
    (hbase : attributeBase (.Name x p0) "pop" X.env (eval (.Name x p0) X.env) = eval (.Name x p0) X.env := by rfl) (hline : (apos.endLine == cpos.line) = true := by rfl)
    (hs : swapsWithSole [tg] (.Call (.Attribute (.Name x p0) "pop" apos) [] [] cpos) pos.line X.env = pure false := by rfl) (hsw : swappedStores [tg] (.Call (.Attribute (.Name x p0) "pop" apos) [] [] cpos) X.env = pure none := by rfl)
    (h1 : (assignEach [tg] X.env).map (·.2) = [assign tg X.env] := by rfl) (hd : (x == ("__debug__" : Str)) = false := by decide) (hcd : (x == ("__classdict__" : Str)) = false := by decide) : PS X (.Assign [tg] (.Call (.Attribute (.Name x p0) "pop" apos) [] [] cpos) pos) (tS G W (sPop g i)) := ss_pop hN hv hd hcd hw hg ht hbase hline hs hsw h1
theorem aug_ (i : Nat) {o : Operator} (hN : X.N.Nodup) (he : PE X e (tE G W m)) (ho : o = .Add ∨ o = .Sub := by first | exact .inl rfl | exact .inr rfl) (hi : X.N[i]? = some x := by rfl) (hx : Loc X.env.scope x := by first | exact Or.inl rfl | exact Or.inr rfl) (hw : W i = .dat := by rfl)
    (hf : X.fn x = true ∨ X.env.scope.names.lookup x = some .local := by first | exact .inl rfl | exact .inr rfl) : PS X (.AugAssign (.Name x p0) o e pos) (tS G W (sAug i o m)) := ss_aug hN hi (ltN hi) hx hw ho he hf
/-! the source -/
variable {k : Str} {jj : Nat}
theorem get_ (i : Nat) (f : SF) (hu : X.A.units + 1 < cLine) (hN : X.N[i]? = some x := by rfl) (hv : Vis X.env.scope x := by first | exact Or.inl rfl | exact Or.inr (Or.inl rfl) | exact Or.inr (Or.inr rfl)) (hw : W i = .src := by rfl) (hk : k = Str.ofString f.name := by rfl) (hd : (x == ("__debug__" : Str)) = false := by decide) (hcd : (x == ("__classdict__" : Str)) = false := by decide) :
    PE X (.Subscript (.Name x p0) (.Constant (.str k) jj p1) pos) (tE G W (xSrc i (xGet f))) := se_get hu hN hv hd hcd hw hk
theorem celn_ (i : Nat) (hu : X.A.units + 1 < cLine) (hm : X.mg "len" = none) (hN : X.N[i]? = some x := by rfl) (hv : Vis X.env.scope x := by first | exact Or.inl rfl | exact Or.inr (Or.inl rfl) | exact Or.inr (Or.inr rfl)) (hw : W i = .src := by rfl) (hk : k = Str.ofString "cells" := by rfl)
    (hg : Gl X "len" := by rfl) (he : starEach [.Subscript (.Name x p0) (.Constant (.str k) jj p1) p2] X.env = [(false, eval (.Subscript (.Name x p0) (.Constant (.str k) jj p1) p2) X.env)] := by rfl) (hd : (x == ("__debug__" : Str)) = false := by decide) (hcd : (x == ("__classdict__" : Str)) = false := by decide) :
    PE X (.Call (.Name "len" p) [.Subscript (.Name x p0) (.Constant (.str k) jj p1) p2] [] pos) (tE G W (xSrc i xCelLen)) := se_celLen hu hN hv hd hcd hw hk hg hm he
theorem cel2_ (i : Nat) (hm : X.mg "len" = none) (hN : X.N[i]? = some x := by rfl) (hv : Vis X.env.scope x := by first | exact Or.inl rfl | exact Or.inr (Or.inl rfl) | exact Or.inr (Or.inr rfl)) (hw : W i = .cel := by rfl)
    (hg : Gl X "len" := by rfl) (he : starEach [.Name x p0] X.env = [(false, eval (.Name x p0) X.env)] := by rfl) (hd : (x == ("__debug__" : Str)) = false := by decide) (hcd : (x == ("__classdict__" : Str)) = false := by decide) :
    PE X (.Call (.Name "len" p) [.Name x p0] [] pos) (tE G W (xSrc i xCelLen)) := se_celLen2 hN hv hd hcd hw hg hm he
theorem put_ (i : Nat) (f : SF) (hu : X.A.units + 1 < cLine) (he : PE X e (tE G W m)) (hN : X.N[i]? = some x := by rfl) (hv : Vis X.env.scope x := by first | exact Or.inl rfl | exact Or.inr (Or.inl rfl) | exact Or.inr (Or.inr rfl)) (hw : W i = .src := by rfl) (hk : k = Str.ofString f.name := by rfl)
    (hs : swapsWith e (some (.Subscript (.Name x p0) (.Constant (.str k) jj p1) p2)) pos.line X.env = pure false := by rfl) (hd : (x == ("__debug__" : Str)) = false := by decide) (hcd : (x == ("__classdict__" : Str)) = false := by decide) :
    PS X (.Assign [.Subscript (.Name x p0) (.Constant (.str k) jj p1) p2] e pos) (tS G W (sSrc i (sPut f m))) := ss_put hu hN hv hd hcd hw hk he hs
variable {p4 p5 : Pos} {k2 : Str} {j2 : Nat}
theorem popL_ (i : Nat) (hu : X.A.units + 1 < cLine) (hN : X.N[i]? = some x := by rfl) (hv : Vis X.env.scope x := by first | exact Or.inl rfl | exact Or.inr (Or.inl rfl) | exact Or.inr (Or.inr rfl)) (hw : W i = .src := by rfl) (hk : k = Str.ofString "left" := by rfl) (hk2 : k2 = Str.ofString "cells" := by rfl)
    (hbase : attributeBase (.Subscript (.Name x p3) (.Constant (.str k2) j2 p4) p5) "pop" X.env (eval (.Subscript (.Name x p3) (.Constant (.str k2) j2 p4) p5) X.env) = eval (.Subscript (.Name x p3) (.Constant (.str k2) j2 p4) p5) X.env := by rfl) (hline : (apos.endLine == cpos.line) = true := by rfl)
    (hs : swapsWith (.Call (.Attribute (.Subscript (.Name x p3) (.Constant (.str k2) j2 p4) p5) "pop" apos) [] [] cpos) (some (.Subscript (.Name x p0) (.Constant (.str k) jj p1) p2)) pos.line X.env = pure false := by rfl) (hd : (x == ("__debug__" : Str)) = false := by decide) (hcd : (x == ("__classdict__" : Str)) = false := by decide) :
    PS X (.Assign [.Subscript (.Name x p0) (.Constant (.str k) jj p1) p2] (.Call (.Attribute (.Subscript (.Name x p3) (.Constant (.str k2) j2 p4) p5) "pop" apos) [] [] cpos) pos) (tS G W (sSrc i sPopLeft)) := ss_popL hu hN hv hd hcd hw hk hk2 hbase hline hs
theorem popC_ (i j : Nat) (hu : X.A.units + 1 < cLine) (hN : X.N[i]? = some x := by rfl) (hv : Vis X.env.scope x := by first | exact Or.inl rfl | exact Or.inr (Or.inl rfl) | exact Or.inr (Or.inr rfl)) (hw : W i = .src := by rfl) (hk : k = Str.ofString "left" := by rfl)
    (hN2 : X.N[j]? = some y := by rfl) (hv2 : Vis X.env.scope y := by first | exact Or.inl rfl | exact Or.inr (Or.inl rfl) | exact Or.inr (Or.inr rfl)) (hw2 : W j = .cel := by rfl)
    (hbase : attributeBase (.Name y p3) "pop" X.env (eval (.Name y p3) X.env) = eval (.Name y p3) X.env := by rfl) (hline : (apos.endLine == cpos.line) = true := by rfl)
    (hs : swapsWith (.Call (.Attribute (.Name y p3) "pop" apos) [] [] cpos) (some (.Subscript (.Name x p0) (.Constant (.str k) jj p1) p2)) pos.line X.env = pure false := by rfl) (hd : (x == ("__debug__" : Str)) = false := by decide) (hcd : (x == ("__classdict__" : Str)) = false := by decide) (hd2 : (y == ("__debug__" : Str)) = false := by decide) (hcd2 : (y == ("__classdict__" : Str)) = false := by decide) :
    PS X (.Assign [.Subscript (.Name x p0) (.Constant (.str k) jj p1) p2] (.Call (.Attribute (.Name y p3) "pop" apos) [] [] cpos) pos) (tS G W (sSrc j (sSrc i sPopLeft))) := ss_popC hu hN hv hd hcd hw hk hN2 hv2 hd2 hcd2 hw2 hbase hline hs
theorem cel_ (i j : Nat) (hu : X.A.units + 1 < cLine) (hNd : X.N.Nodup) (hN : X.N[i]? = some x := by rfl) (hv : Vis X.env.scope x := by first | exact Or.inl rfl | exact Or.inr (Or.inl rfl) | exact Or.inr (Or.inr rfl)) (hw : W i = .src := by rfl) (hk : k = Str.ofString "cells" := by rfl)
    (hN2 : X.N[j]? = some y := by rfl) (hx : Loc X.env.scope y := by first | exact Or.inl rfl | exact Or.inr rfl) (hw2 : W j = .cel := by rfl) (hs : swapsWith (.Subscript (.Name x p0) (.Constant (.str k) jj p1) p2) (some (.Name y p3)) pos.line X.env = pure false := by rfl)
    (hf : X.fn y = true ∨ X.env.scope.names.lookup y = some .local := by first | exact .inl rfl | exact .inr rfl) (hd : (x == ("__debug__" : Str)) = false := by decide) (hcd : (x == ("__classdict__" : Str)) = false := by decide) :
    PS X (.Assign [.Name y p3] (.Subscript (.Name x p0) (.Constant (.str k) jj p1) p2) pos) (tS G W (sSrc i (sCel j))) := ss_cel hu hN hv hd hcd hw hk hNd hN2 (ltN hN2) hx hw2 hs hf
end
end BA
namespace BA
open PySem PySem.Spec
open L2 hiding St
theorem bxT {G : Gx} {W : Nat → Kd} {X : Cx} {a : Expr} {m : E} (h : PE X a (tE G W m)) : PE X a (tBx G W true m) := h
theorem bxF {G : Gx} {W : Nat → Kd} {X : Cx} {a : Expr} {m : E} (h : PE X a (tB G W m)) : PE X a (tBx G W false m) := h
end BA

/-! BA19: range with a step; the source's def, the law's def -/
namespace BA
open PySem PySem.Spec
open PyProof.Rows
open L2 hiding St

def rg3 (i j k : Int) : Bool := decide (k ≠ 0) && decide (k.natAbs < 1073741824) && Builtin.Range.small i j k && decide (0 ≤ Builtin.Range.rangeSize i j k) && decide (Builtin.Range.rangeSize i j k ≤ 16777216)
def rangeC (i j k : Int) : List D := (List.range (Builtin.Range.rangeSize i j k).toNat).map fun (t : Nat) => PyData.int (i + t * k)
def iRange3 (a b c : E) : Es := fun C ρ => bnd (a C ρ) fun x => bnd (b C ρ) fun y => bnd (c C ρ) fun z => bnd (opt (asI x)) fun i => bnd (opt (asI y)) fun j => bnd (opt (asI z)) fun k =>
  if rg3 i j k then pur (rangeC i j k) else bad
theorem yl_rangeC {P F : Addr → Prop} {H1 : Hp} {lo c : Int} {n : Nat} (z : n ≤ sizeLine) : Yl P F H1 (Itc lo c n) ((List.range n).map fun (i : Nat) => PyData.int (lo + i * c)) := by
  refine ⟨by rw [List.length_map, List.length_range]; exact z, fun i hi H g => by rw [List.length_map, List.length_range] at hi; exact hi, fun i d hd F' H x H' g gf m l y => ?_, fun H g => by rw [List.length_map, List.length_range]; exact Nat.le_refl _⟩
  obtain ⟨rfl, rfl⟩ := y
  rw [List.getElem?_map] at hd
  by_cases hi : i < n
  · rw [List.getElem?_range hi] at hd
    cases hd
    exact ⟨.refl _, .int _⟩
  · rw [List.getElem?_eq_none (by rw [List.length_range]; omega)] at hd
    cases hd
section
variable {G : Gx} {W : Nat → Kd} {X : Cx} {tg a b c : Expr} {ma mb mc : E} {p pos : Pos} {st : Bool}
theorem ir3_ (hm : X.mg "range" = none) (ha : PE X a (tB G W ma)) (hb : PE X b (tB G W mb)) (hc : PE X c (tB G W mc)) (hg : Gl X "range" := by rfl) (hs : starEach [a, b, c] X.env = (false, eval a X.env) :: starEach [b, c] X.env := by rfl)
    (hs2 : starEach [b, c] X.env = (false, eval b X.env) :: starEach [c] X.env := by rfl) (hs3 : starEach [c] X.env = [(false, eval c X.env)] := by rfl) (hpl : (backTo pos (starEach [b, c] X.env)).any (·.1) = false := by rfl) :
    PI X tg (.Call (.Name "range" p) [a, b, c] [] pos) (tI G W st (iRange3 ma mb mc)) :=
  PI.weak (pi_range3 hg hm (pa_cons ha (pa_cons hb (pa_one hc hs3) hs2) hs) hs hpl) fun σ H Q ⟨F, S, ρ, s, ok, p⟩ => tB.go ok p fun d s1 v H1 g1 ok1 r1 p1 => tB.go ok1 p1 fun d2 s2 v2 H2 g2 ok2 r2 p2 => tB.go ok2 p2 fun d3 s3 v3 H3 g3 ok3 r3 p3 => by
    rw [post_bnd] at p3
    obtain ⟨i, e1, q1⟩ := post_opt.mp p3
    rw [post_bnd] at q1
    obtain ⟨j, e2, q2⟩ := post_opt.mp q1
    rw [post_bnd] at q2
    obtain ⟨k, e3, q⟩ := post_opt.mp q2
    clear q1 q2 p3
    have f1 := asI_some e1
    have f2 := asI_some e2
    have f3 := asI_some e3
    subst f1 f2 f3
    by_cases hn : rg3 i j k = true
    · rw [if_pos hn] at q
      unfold rg3 at hn
      simp only [Bool.and_eq_true, decide_eq_true_eq] at hn
      obtain ⟨⟨⟨⟨h1, h2⟩, h3⟩, h4⟩, h5⟩ := hn
      refine ⟨i, j, k, (Builtin.Range.rangeSize i j k).toNat, by rw [r1.b.int, r2.b.int, r3.b.int], ⟨h1, h2, h3, by omega⟩, q _ _ ((g1.trans g2).trans g3) ok3.src ?_⟩
      exact yl_rangeC (by rw [sizeLine_eq]; omega)
    · rw [if_neg hn] at q
      exact q.elim
end

/-! ### the source -/
theorem op_mul1 (a b : Int) (h : small64 b = true) : op2 .Mult (.int a) (.int b) = some (.int (a * b)) := by
  simp [op2, intOp, h]
theorem op_addi (a b : Int) : op2 .Add (.int a) (.int b) = some (.int (a + b)) := rfl
theorem op_modi (a b : Int) (h : 0 < b) : op2 .Mod (.int a) (.int b) = some (.int (a % b)) := by
  simp [op2, intOp, h]
def stir : BA.St := sSet 1 (xOp .Mod (xPrim .int (xCons (xOp .Add (xOp .Add (xOp .Mult (xVar 1) (xCon (.int 69069))) (xOp .Mult (xVar 2) (xCon (.int 31)))) (xCon (.int 5))) xNil)) (xCon (.int 2147483629)))
theorem stir_one (C : Calls) (a : Option D) (st n : Int) (r : Rho) : stir C (a :: some (.int st) :: some (.int n) :: r) = pur (.next (a :: some (.int ((st * 69069 + n * 31 + 5) % 2147483629)) :: some (.int n) :: r)) := by
  unfold stir sSet xOp xPrim xCons xNil xVar xCon
  simp only [getV_succ, getV_zero, opt_some, bnd_pur, op_mul1 _ _ (show small64 69069 = true by decide), op_mul1 _ _ (show small64 31 = true by decide), op_addi, op_modi _ _ (show (0 : Int) < 2147483629 by decide), prim, setV_succ, setV_zero]
theorem stir_run (C : Calls) (a : Option D) (r : Rho) : ∀ (ns : List Int) (st : Int) (c : Option D), ∃ st' c', forM (gVar 2) (stir C) (ns.map PyData.int) (a :: some (.int st) :: c :: r) = pur (.next (a :: some (.int st') :: c' :: r)) ∧ (0 ≤ st ∧ st < 2147483629 → 0 ≤ st' ∧ st' < 2147483629)
  | [], st, c => ⟨st, c, rfl, fun h => h⟩
  | n :: ns, st, c => by
    obtain ⟨st', c', e, h⟩ := stir_run C a r ns ((st * 69069 + n * 31 + 5) % 2147483629) (some (.int n))
    refine ⟨st', c', ?_, fun _ => h ⟨by omega, by omega⟩⟩
    rw [← e]
    simp only [List.map_cons, forM, gVar, opt_some, bnd_pur, setV_succ, setV_zero, stir_one]
def absI (i : Int) : Int := if i < 0 then -i else i
def xAbs : E := xPrim .abs (xCons (xVar 2) xNil)
theorem abs_run (C : Calls) (ρ : Rho) (h : 2 < ρ.length) : ∀ (ns : List Int), compM (gVar 2) (tYes C) (xAbs C) ρ (ns.map PyData.int) = pur ((ns.map absI).map PyData.int)
  | [] => rfl
  | n :: ns => by
    have ih := abs_run C ρ h ns
    match ρ, h, ih with
    | a :: b :: c :: r, _, ih =>
      simp only [List.map_cons, compM, gVar, opt_some, bnd_pur, setV_succ, setV_zero, tYes, if_true, xAbs, xPrim, xCons, xNil, xVar, getV_succ, getV_zero, prim] at ih ⊢
      rw [ih]
      rfl
theorem seq_next {G : Gx} {W : Nat → Kd} {F0 : Addr → Prop} {H0 : Hp} {L : List ((Addr → Prop) × Hp)} {F : Addr → Prop} {S : SA} {σ : L2.St} {H : Hp} {ρ ρ' : Rho} {s : Src} {a : BA.St} {u : TS} {D : Ends} (sa : Sat G W F0 H0 L F S σ H ρ s) (e : a G.C ρ = pur (.next ρ'))
    (k : ∀ F' σ' H', Sat G W F0 H0 L F' S σ' H' ρ' s → u D σ' H') : tSeq (tS G W a) u D σ H := by
  refine ⟨F0, H0, L, F, S, ρ, s, sa, ?_⟩
  rw [e]
  exact k
theorem fresh_of {ns : List Int} {k : Int} (h : 0 ≤ k ∧ k < 2147483629) (z : ns.length ≤ sizeLine) : Fresh ⟨((ns.map absI).reverse), 1, k, 0⟩ := by
  refine ⟨h, rfl, rfl, fun c hc => ?_, by show ((ns.map absI).reverse).length ≤ _; rw [List.length_reverse, List.length_map, ← sizeLine_eq]; exact z⟩
  have hc : c ∈ (ns.map absI).reverse := hc
  rw [List.mem_reverse, List.mem_map] at hc
  obtain ⟨n, _, rfl⟩ := hc
  unfold absI
  split <;> omega
theorem rev_ints (ns : List Int) : revD (.list (ns.map PyData.int)) = some (.list (ns.reverse.map PyData.int)) := by
  unfold revD
  rw [List.map_reverse]
section
variable {P : Program} {w : World} {K : PySem.W.Frag} {mg : Str → Option Value} {base : Heap} {n : Nat} {name qual : Str} {st : Stmt} {f : Addr} {fd : FuncData} {G : Gx}
theorem spNew_len : ∀ vs H Q E, spNew K vs H Q E → vs.length = (["script"] : List Str).length := fun vs H Q E ⟨v, d, e, _⟩ => by rw [e]; rfl
/-- the start of such a def -/
theorem src_sat {W : Nat → Kd} {N : List Str} {H : Hp} {v : V} {d : D} (hK : G.K = K) (hT : G.T = []) (hS : ScrV K .nil H v d) (hW : W 0 = .scr) (hN : 1 ≤ N.length) : Sat G W (fun _ => False) H [] (fun _ => False) .nil (L2.start N [v]) H (startD N.length [d]) ⟨[], 0, 0, 0⟩ := by
  subst hK
  exact sat_start (κs := [.scr]) (fun a f => f.elim) (fun a f => f.elim (fun f => f) fun ⟨_, z⟩ => by cases z) ⟨.nil, fun x h => by rw [hT] at h; cases h⟩ (.cons hS .nil) (by rw [show (List.range ([Kd.scr].length)).map W = [W 0] from rfl, hW]) hN
theorem fn_sourceB {W : Nat → Kd} {s1 s2 s3 s4 : Stmt} (F : Fun K name qual st f fd) (SC : FnScope (["script", "stirred", "cell", "cells"] : List Str) (["script"] : List Str) (defScope st)) (hb : defBody st = [s1, s2, s3, s4]) (hK : G.K = K) (hGT : G.T = []) (hW : W 0 = .scr)
    (hbody : ∀ (cdv : Value) (A : Around) (outer : List PySem.Env) (s : Shared) (H : Hp) (E : XK), GRoom n (A.deeper (envOfC qual (defScope st) s.heap.objs.size f cdv)) →
      PS (cxOf CX0 P w K mg base (["script", "stirred", "cell", "cells"] : List Str) qual (defScope st) f cdv A outer s H E).nox s1 (tS G W (sSet 1 (xCon (.int 11)))) ∧
      PS (cxOf CX0 P w K mg base (["script", "stirred", "cell", "cells"] : List Str) qual (defScope st) f cdv A outer s H E).nox s2 (tS G W (sFor (gVar 2) (iVal (xVar 0)) stir)) ∧
      PS (cxOf CX0 P w K mg base (["script", "stirred", "cell", "cells"] : List Str) qual (defScope st) f cdv A outer s H E).nox s3 (tS G W (sSet 3 (xComp [2] (iVal (xVar 0)) (gVar 2) tYes xAbs))) ∧
      PS (cxOf CX0 P w K mg base (["script", "stirred", "cell", "cells"] : List Str) qual (defScope st) f cdv A outer s H E).nox s4 (tNew G W (xRev (xVar 3)) (xVar 1))) : FnG P w K mg base CX0 (n + 1) f fd (["script"] : List Str) (spNew K) := by
  obtain ⟨oc, od, kV, doc, pm, an, cdv, ct, osl, rfl, lk, hcd⟩ := F.ex
  refine fn_ofG lk hcd SC spNew_len fun A outer s H vs Q E hr hsp2 => ?_
  obtain ⟨v, d, rfl, hS, go⟩ := hsp2
  obtain ⟨b1, b2, b3, b4⟩ := hbody cdv A outer s H E hr
  have all := pss_cons b1 (pss_cons b2 (pss_cons b3 (pss_one b4)))
  rw [← hb] at all
  obtain ⟨a, ns, rfl, rfl, z, hh⟩ := id hS
  have sa := src_sat (G := G) (W := W) (N := (["script", "stirred", "cell", "cells"] : List Str)) hK hGT hS hW (by decide)
  refine ⟨_, all.nox, ?_⟩
  generalize hD : ({ nx := fun _ H' => Q .non H', rt := Q } : Ends) = D
  refine seq_next (ρ' := [some (.list (ns.map PyData.int)), some (.int 11), none, none]) sa rfl fun F1 σ1 H1 sa1 => ?_
  obtain ⟨k, c, e2, h2⟩ := stir_run G.C (some (.list (ns.map PyData.int))) [none] ns 11 none
  refine seq_next (ρ' := [some (.list (ns.map PyData.int)), some (.int k), c, none]) sa1 (by unfold sFor iVal xVar; simp only [getV_zero, opt_some, bnd_pur, seqD]; exact e2) fun F2 σ2 H2 sa2 => ?_
  refine seq_next (ρ' := [some (.list (ns.map PyData.int)), some (.int k), c, some (.list ((ns.map absI).map PyData.int))]) sa2 ?_ fun F3 σ3 H3 sa3 => ?_
  · unfold sSet xComp iVal xVar
    simp only [getV_zero, opt_some, bnd_pur, seqD, BA.blank, wipeV_succ, wipeV_zero]
    rw [abs_run G.C _ (by show 2 < 4; decide)]
    rfl
  · refine ⟨_, _, _, _, _, _, sa3, ?_⟩
    unfold xRev xVar
    simp only [getV_succ, getV_zero, opt_some, bnd_pur, rev_ints]
    refine ⟨(ns.map absI).reverse, k, rfl, fun p q H' g hne hp hq h1 h3 => ?_⟩
    subst hD
    have g0 : Grow H H3 := pres_none sa3.ent
    have back : ∀ b, H3 b = none → H b = none := fun b e => by
      cases q : H b with
      | none => rfl
      | some o => rw [g0 b o q] at e; cases e
    exact go ⟨_, 1, k, 0⟩ p q H' (fresh_of (h2 ⟨by decide, by decide⟩) z) (g0.trans g) hne (back p hp) (back q hq) h1 h3
theorem fn_sourceA {W : Nat → Kd} {s1 s2 s4 : Stmt} (F : Fun K name qual st f fd) (SC : FnScope (["script", "mixed", "cell"] : List Str) (["script"] : List Str) (defScope st)) (hb : defBody st = [s1, s2, s4]) (hK : G.K = K) (hGT : G.T = []) (hW : W 0 = .scr)
    (hbody : ∀ (cdv : Value) (A : Around) (outer : List PySem.Env) (s : Shared) (H : Hp) (E : XK), GRoom n (A.deeper (envOfC qual (defScope st) s.heap.objs.size f cdv)) →
      PS (cxOf CX0 P w K mg base (["script", "mixed", "cell"] : List Str) qual (defScope st) f cdv A outer s H E).nox s1 (tS G W (sSet 1 (xCon (.int 11)))) ∧
      PS (cxOf CX0 P w K mg base (["script", "mixed", "cell"] : List Str) qual (defScope st) f cdv A outer s H E).nox s2 (tS G W (sFor (gVar 2) (iVal (xVar 0)) stir)) ∧
      PS (cxOf CX0 P w K mg base (["script", "mixed", "cell"] : List Str) qual (defScope st) f cdv A outer s H E).nox s4 (tNew G W (xRev (xComp [2] (iVal (xVar 0)) (gVar 2) tYes xAbs)) (xVar 1))) : FnG P w K mg base CX0 (n + 1) f fd (["script"] : List Str) (spNew K) := by
  obtain ⟨oc, od, kV, doc, pm, an, cdv, ct, osl, rfl, lk, hcd⟩ := F.ex
  refine fn_ofG lk hcd SC spNew_len fun A outer s H vs Q E hr hsp2 => ?_
  obtain ⟨v, d, rfl, hS, go⟩ := hsp2
  obtain ⟨b1, b2, b4⟩ := hbody cdv A outer s H E hr
  have all := pss_cons b1 (pss_cons b2 (pss_one b4))
  rw [← hb] at all
  obtain ⟨a, ns, rfl, rfl, z, hh⟩ := id hS
  have sa := src_sat (G := G) (W := W) (N := (["script", "mixed", "cell"] : List Str)) hK hGT hS hW (by decide)
  refine ⟨_, all.nox, ?_⟩
  generalize hD : ({ nx := fun _ H' => Q .non H', rt := Q } : Ends) = D
  refine seq_next (ρ' := [some (.list (ns.map PyData.int)), some (.int 11), none]) sa rfl fun F1 σ1 H1 sa1 => ?_
  obtain ⟨k, c, e2, h2⟩ := stir_run G.C (some (.list (ns.map PyData.int))) [] ns 11 none
  refine seq_next (ρ' := [some (.list (ns.map PyData.int)), some (.int k), c]) sa1 (by unfold sFor iVal xVar; simp only [getV_zero, opt_some, bnd_pur, seqD]; exact e2) fun F3 σ3 H3 sa3 => ?_
  · refine ⟨_, _, _, _, _, _, sa3, ?_⟩
    unfold xRev xComp iVal xVar
    simp only [getV_succ, getV_zero, opt_some, bnd_pur, seqD, BA.blank, wipeV_succ, wipeV_zero]
    rw [abs_run G.C _ (by show 2 < 3; decide)]
    simp only [bnd_pur, rev_ints, opt_some]
    refine ⟨(ns.map absI).reverse, k, rfl, fun p q H' g hne hp hq h1 h3 => ?_⟩
    subst hD
    have g0 : Grow H H3 := pres_none sa3.ent
    have back : ∀ b, H3 b = none → H b = none := fun b e => by
      cases q : H b with
      | none => rfl
      | some o => rw [g0 b o q] at e; cases e
    exact go ⟨_, 1, k, 0⟩ p q H' (fresh_of (h2 ⟨by decide, by decide⟩) z) (g0.trans g) hne (back p hp) (back q hq) h1 h3
/-! ### the law -/
theorem spLaw_len {TT : List (Addr × Str)} : ∀ vs H Q E, spLaw K TT vs H Q E → vs.length = (["script"] : List Str).length := fun vs H Q E ⟨v, d, e, _⟩ => by rw [e]; rfl
theorem fn_law {T : Nat → Option Def} {sp : Nat → Option (List D → M D)} {fa : Nat → Option Addr} {W : Nat → Kd} {N : List Str} {i : Nat} {m : BA.St} {rest : List Stmt} {fs : Addr} {fds : FuncData} {xs ys : Str} {p0 p1 p2 p3 p4 : Pos}
    (F : Fun K name qual st f fd) (SC : FnScope N (["script"] : List Str) (defScope st)) (FS : FnG P w K mg base CX0 (n + 1) fs fds (["script"] : List Str) (spNew K)) (gs : mg ys = some (.ref fs)) (ks : PySem.W.keepIn K (.ref fs) = true) (bs : Binds K fds (["script"] : List Str) [])
    (hb : defBody st = .Assign [.Name xs p0] (.Call (.Name ys p1) [.Name "script" p2] [] p3) p4 :: rest) (hN0 : N[0]? = some ("script" : Str)) (hNi : N[i]? = some xs) (hi : i < N.length) (hi0 : 1 ≤ i) (hw : W i = .src) (hw0 : W 0 ≠ .own)
    (hdb : (ys == ("__debug__" : Str)) = false) (hk : (defScope st).kind = .function) (hglob : (defScope st).names.lookup ys = some .globalImplicit) (hscr : (defScope st).names.lookup ("script" : Str) = some .local) (hsrc : (defScope st).names.lookup xs = some .local)
    {TT : List (Addr × Str)} (plain : ∀ s, Fresh s → post (m (callD T sp (n + 1)) (lawRho N.length i)) (fun f _ => f = .ret (.bool true)) s)
    (hbody : ∀ (cdv : Value) (A : Around) (outer : List PySem.Env) (s : Shared) (H : Hp) (E : XK), GRoom (n + 1) (A.deeper (envOfC qual (defScope st) s.heap.objs.size f cdv)) →
      PSs (cxOf CX0 P w K mg base N qual (defScope st) f cdv A outer s H E).nox rest (tS (gx P w K mg base fa T sp (n + 1) TT) W m)) : FnG P w K mg base CX0 (n + 2) f fd (["script"] : List Str) (spLaw K TT) := by
  obtain ⟨oc, od, kV, doc, pm, an, cdv, ct, osl, rfl, lk, hcd⟩ := F.ex
  refine fn_ofG lk hcd SC spLaw_len fun A outer s H vs Q E hr hsp2 => ?_
  obtain ⟨v, d, rfl, hS, hTT, hQ⟩ := hsp2
  have b := hbody cdv A outer s H E hr
  have hgl : Gl (cxOf CX0 P w K mg base N qual (defScope st) f cdv A outer s H E).nox ys := hglob
  have c := pe_callG (X := (cxOf CX0 P w K mg base N qual (defScope st) f cdv A outer s H E).nox) (x := ys) (p := p1) (pos := p3) (E := E0) FS hr hgl gs ks bs pass0
    (pa_one (pe_var (i := 0) (x := "script") (pos := p2) hN0 (.inl hscr) (by decide) (by decide)) rfl) hdb rfl rfl
  have all := pss_cons (ps_set (pos := p4) (pos' := p0) SC.nd hNi (.inl hsrc) c rfl (.inr hsrc)) b
  rw [← hb] at all
  refine ⟨_, all.nox, ?_⟩
  generalize hD : ({ nx := fun _ H' => Q .non H', rt := Q } : Ends) = D
  refine ⟨v, rfl, ?_⟩
  refine ⟨v, d, rfl, hS, fun sr p q H' fr g hne hp hq h1 h2 => ?_⟩
  have hlen : (L2.start N [v]).length = N.length := by
    unfold L2.start
    simp only [List.length_append, List.length_map, List.length_replicate, List.length_cons, List.length_nil]
    omega
  refine law_start (G := gx P w K mg base fa T sp (n + 1) TT) (TT := TT) (fun x h => h) (hTT.1.ext g) hTT.2 (n := N.length) (p := p) (q := q) (s := sr) hlen hi hw (fun j wj => ?_) hne h1 h2 (plain sr fr) fun H2 => by rw [← hD]; exact hQ H2
  unfold L2.start
  cases j with
  | zero => exact absurd wj hw0
  | succ j =>
    simp only [List.map_cons, List.map_nil, List.cons_append, List.nil_append, List.getElem?_cons_succ, List.getElem?_replicate]
    split
    · exact .inl rfl
    · exact .inr rfl
end
end BA

/-! BA20: picks; runs cut in parts -/
namespace BA
open PySem PySem.Spec
open PyProof.Rows
open L2 hiding St

structure SrcOkk (s : Src) : Prop where
  mixed : 0 ≤ s.mixed ∧ s.mixed < 2147483648
  turn : 0 ≤ s.turn
  left : 0 ≤ s.left
  cells : ∀ c ∈ s.cells, 0 ≤ c
  len : s.cells.length ≤ 16777216
theorem Fresh.okk {s : Src} (h : Fresh s) : SrcOkk s := ⟨by have := h.mixed; omega, by rw [h.turn]; decide, by rw [h.left]; decide, h.cells, h.len⟩

/-- what a run leaves, its source as it was -/
def nextOf (ks : List Nat) : Out Fl → Option (Rho × Src)
  | .ok (.next r) s => some (BA.blank r ks, s)
  | _ => none
def retOf : Out Fl → Option D
  | .ok (.ret d) _ => some d
  | _ => none
theorem cutF {a b : BA.St} {ks : List Nat} {C : Calls} {ρ ρ' : Rho} {s s' : Src} {P : Fl → Src → Prop} (h : nextOf ks (a C ρ s) = some (ρ', s')) (k : post (b C ρ') P s') : post (sSeqF a ks b C ρ) P s := by
  unfold sSeqF
  rw [post_bnd]
  unfold post
  cases e : a C ρ s with
  | bad => rw [e] at h; cases h
  | ok f t =>
    rw [e] at h
    cases f with
    | next r =>
      cases h
      exact k
    | ret d => cases h
    | brk r => cases h
    | cont r => cases h
theorem retF {a : BA.St} {C : Calls} {ρ : Rho} {s : Src} {d : D} (h : retOf (a C ρ s) = some d) : post (a C ρ) (fun f _ => f = .ret d) s := by
  unfold post
  cases e : a C ρ s with
  | bad => rw [e] at h; cases h
  | ok f t =>
    rw [e] at h
    cases f with
    | ret d => cases h; rfl
    | next r => cases h
    | brk r => cases h
    | cont r => cases h
/-- the part is a run of its own -/
theorem stepF {a b : BA.St} {ks : List Nat} {C : Calls} {ρ : Rho} {s : Src} {P : Fl → Src → Prop} (h : post (a C ρ) (fun f s' => ∃ ρ', f = .next ρ' ∧ post (b C (BA.blank ρ' ks)) P s') s) : post (sSeqF a ks b C ρ) P s := by
  unfold sSeqF
  rw [post_bnd]
  exact post_mono h fun f s' ⟨ρ', e, q⟩ => by subst e; exact q

/-! ### picks -/
def PickD (m : Int) (d : D) : Prop := ∃ r, d = .int r ∧ 0 ≤ r ∧ (2 ≤ m → r < m) ∧ (m < 2 → r = 0)
def pickB : BA.St := (sSeq (sIf (xCmp .Lt (xVar 1) (xCon (.int 2))) (sRet (xCon (.int 0))) sNil) (sSeq (sSrc 0 (sCel 2)) (sSeq (sWhile (xAnd (xCmp .Lt (xSrc 0 (xGet .left)) (xCon (.int 2))) (xCmp .Gt (xSrc 2 xCelLen) (xCon (.int 0)))) (sSrc 2 (sSrc 0 sPopLeft))) (sSeq (sSet 3 (xSrc 0 (xGet .left))) (sSeq (sIf (xCmp .Gt (xVar 3) (xCon (.int 1))) (sSeq (sSrc 0 (sPut .left (xOp .FloorDiv (xVar 3) (xVar 1)))) (sRet (xOp .Mod (xPrim .int (xCons (xVar 3) xNil)) (xVar 1)))) sNil) (sSeq (sSrc 0 (sPut .turn (xOp .Add (xSrc 0 (xGet .turn)) (xCon (.int 1))))) (sSeq (sSet 4 (xSrc 0 (xGet .turn))) (sSeq (sSet 5 (xOp .Mod (xPrim .int (xCons (xOp .Add (xSrc 0 (xGet .mixed)) (xOp .Mult (xVar 4) (xCon (.int 104729)))) xNil)) (xCon (.int 998244353)))) (sSeq (sSet 5 (xOp .Mod (xPrim .int (xCons (xOp .Add (xOp .Mult (xVar 5) (xVar 5)) (xOp .Mult (xVar 4) (xCon (.int 17)))) xNil)) (xCon (.int 2147483647)))) (sRet (xOp .Mod (xPrim .int (xCons (xOp .FloorDiv (xVar 5) (xCon (.int 16))) xNil)) (xVar 1))))))))))))
theorem cmp_lt (a b : Int) : cmpF .Lt (.int a) (.int b) = some (decide (a < b)) := rfl
theorem cmp_gt (a b : Int) : cmpF .Gt (.int a) (.int b) = some (decide (b < a)) := rfl
theorem op_divi (a b : Int) (h : 0 < b) (h2 : b < 1073741824) : op2 .FloorDiv (.int a) (.int b) = some (.int (a / b)) := by
  simp [op2, intOp, h, h2]
theorem get_m (f : SF) (C : Calls) (ρ : Rho) : xGet f C ρ = fun s => .ok (.int (sget f s)) s := rfl
theorem post_get {α : Type} {f : SF} {k : D → M α} {C : Calls} {ρ : Rho} {P : α → Src → Prop} {s : Src} : post (bnd (xGet f C ρ) k) P s ↔ post (k (.int (sget f s))) P s := Iff.rfl
theorem post_len {α : Type} {k : D → M α} {C : Calls} {ρ : Rho} {P : α → Src → Prop} {s : Src} : post (bnd (xCelLen C ρ) k) P s ↔ post (k (.int s.cells.length)) P s := Iff.rfl
theorem post_put {α : Type} {f : SF} {i : Int} {ρ : Rho} {k : Fl → M α} {P : α → Src → Prop} {s : Src} : post (bnd (putM f i ρ) k) P s ↔ post (k (.next ρ)) P (sput f i s) := Iff.rfl
theorem drain (C : Calls) (a b c : Option D) (c0 c2 : D) (m : D) : ∀ (n : Nat) (s : Src), s.cells.length < n → SrcOkk s → post (whileM ((xAnd (xCmp .Lt (xSrc 0 (xGet .left)) (xCon (.int 2))) (xCmp .Gt (xSrc 2 xCelLen) (xCon (.int 0)))) C) ((sSrc 2 (sSrc 0 sPopLeft)) C) n [some c0, some m, some c2, a, b, c]) (fun f s' => f = .next [some c0, some m, some c2, a, b, c] ∧ SrcOkk s') s
  | 0, s, h, _ => absurd h (Nat.not_lt_zero _)
  | n + 1, s, h, ok => by
    unfold whileM
    simp only [xAnd, xCmp, xSrc, xCon, bnd_assoc, getV_zero, getV_succ, opt_some, bnd_pur]
    rw [post_get]
    simp only [cmp_lt, opt_some, bnd_pur, asB]
    by_cases h1 : sget .left s < 2
    · rw [decide_eq_true h1, if_pos rfl]
      simp only [bnd_assoc, bnd_pur]
      rw [post_len]
      simp only [cmp_gt, opt_some, bnd_pur, asB]
      by_cases h2 : (0 : Int) < s.cells.length
      · rw [decide_eq_true h2, if_pos rfl]
        simp only [sSrc, getV_zero, getV_succ, opt_some, bnd_pur]
        rw [post_bnd]
        have hlt : s.cells.length - 1 < s.cells.length := by omega
        unfold sPopLeft post
        simp only [List.getElem?_eq_getElem hlt]
        refine drain C a b c c0 c2 m n _ (by show s.cells.dropLast.length < n; rw [List.length_dropLast]; omega) ⟨ok.mixed, ok.turn, ?_, fun x hx => ok.cells x (List.dropLast_subset _ hx), by show s.cells.dropLast.length ≤ _; rw [List.length_dropLast]; have := ok.len; omega⟩
        exact ok.cells _ (List.getElem_mem hlt)
      · rw [decide_eq_false h2, if_neg Bool.false_ne_true]
        exact ⟨rfl, ok⟩
    · rw [decide_eq_false h1, if_neg Bool.false_ne_true]
      simp only [bnd_pur, opt_some, asB]
      rw [if_neg Bool.false_ne_true]
      exact ⟨rfl, ok⟩
theorem mod_pick {a m : Int} (h : 2 ≤ m) : PickD m (.int (a % m)) := ⟨a % m, rfl, Int.emod_nonneg _ (by omega), fun _ => Int.emod_lt_of_pos _ (by omega), fun z => by omega⟩
theorem pickB_ok (C : Calls) (c0 : D) (m : Int) (hm : m < 1073741824) (s : Src) (ok : SrcOkk s) : post (runDef ⟨2, 6, pickB⟩ C [c0, .int m]) (fun d s' => PickD m d ∧ SrcOkk s') s := by
  unfold runDef
  rw [if_pos (show [c0, PyData.int m].length = 2 from rfl), post_bnd]
  show post (pickB C [some c0, some (.int m), none, none, none, none]) _ s
  unfold pickB
  simp only [sSeq, sIf, xCmp, xVar, xCon, getV_succ, getV_zero, opt_some, bnd_pur, bnd_assoc, cmp_lt, asB]
  by_cases h : m < 2
  · rw [decide_eq_true h, if_pos rfl]
    simp only [sRet, xCon, bnd_pur]
    exact ⟨⟨0, rfl, Int.le_refl _, fun z => by omega, fun _ => rfl⟩, ok⟩
  · rw [decide_eq_false h, if_neg Bool.false_ne_true]
    have hm2 : 2 ≤ m := by omega
    have hm0 : 0 < m := by omega
    simp only [sNil, bnd_pur, sSrc, sCel, getV_succ, getV_zero, opt_some, setV_succ, setV_zero]
    rw [post_bnd]
    refine post_mono (drain C none none none c0 .none (.int m) fuelW s (by have := ok.len; show _ < 100000000; omega) ok) fun f s1 ⟨e, ok1⟩ => ?_
    subst e
    simp only [sSet, xSrc, getV_succ, getV_zero, opt_some, bnd_pur, bnd_assoc]
    rw [post_get]
    simp only [bnd_pur, setV_succ, setV_zero, getV_succ, getV_zero, opt_some, cmp_gt, asB]
    by_cases h1 : 1 < sget .left s1
    · rw [decide_eq_true h1, if_pos rfl]
      simp only [sPut, xOp, xVar, getV_succ, getV_zero, opt_some, bnd_pur, bnd_assoc, op_divi _ _ hm0 hm, asI]
      rw [post_put]
      simp only [sRet, xOp, xPrim, xCons, xNil, xVar, getV_succ, getV_zero, opt_some, bnd_pur, bnd_assoc, prim, op_modi _ _ hm0]
      exact ⟨mod_pick hm2, ok1.mixed, ok1.turn, Int.ediv_nonneg (by have := ok1.left; exact this) (by omega), ok1.cells, ok1.len⟩
    · rw [decide_eq_false h1, if_neg Bool.false_ne_true]
      simp only [bnd_pur, sPut, xOp, xSrc, xCon, getV_succ, getV_zero, opt_some, bnd_assoc]
      rw [post_get]
      simp only [bnd_pur, op_addi, opt_some, asI]
      rw [post_put]
      simp only [bnd_pur, bnd_assoc, getV_succ, getV_zero, opt_some]
      rw [post_get]
      simp only [bnd_pur, setV_succ, setV_zero, xPrim, xCons, xNil, xVar, xOp, xSrc, xCon, getV_succ, getV_zero, opt_some, bnd_assoc]
      rw [post_get]
      simp only [bnd_pur, op_mul1 _ _ (show small64 104729 = true by decide), op_addi, opt_some, prim, op_modi _ _ (show (0 : Int) < 998244353 by decide), setV_succ, setV_zero, getV_succ, getV_zero]
      have hb : ∀ x : Int, small64 (x % 998244353) = true := fun x => by
        have a1 := Int.emod_nonneg x (show (998244353 : Int) ≠ 0 by decide)
        have a2 := Int.emod_lt_of_pos x (show (0 : Int) < 998244353 by decide)
        exact small64_of (by omega) (by omega)
      simp only [op_mul1 _ _ (hb _), op_mul1 _ _ (show small64 17 = true by decide), op_addi, opt_some, bnd_pur, prim, op_modi _ _ (show (0 : Int) < 2147483647 by decide), setV_succ, setV_zero, getV_succ, getV_zero, sRet, op_divi _ _ (show (0 : Int) < 16 by decide) (show (16 : Int) < 1073741824 by decide), op_modi _ _ hm0, bnd_assoc, xOp, xPrim, xCons, xNil, xVar, xCon]
      exact ⟨mod_pick hm2, ok1.mixed, by have := ok1.turn; show 0 ≤ s1.turn + 1; omega, ok1.left, ok1.cells, ok1.len⟩
end BA
namespace BA
open PySem PySem.Spec
open L2 hiding St
/-- what is known of the picks of a text -/
def Picks (C : Calls) (k : Nat) : Prop := ∀ (m : Int), m < 1073741824 → ∀ (s : Src), SrcOkk s → post (C k [.none, .int m]) (fun d s' => PickD m d ∧ SrcOkk s') s
theorem picksB {T : Nat → Option Def} {sp : Nat → Option (List D → M D)} {n k : Nat} (h1 : sp k = none) (h2 : T k = some ⟨2, 6, pickB⟩) : Picks (callD T sp (n + 1)) k := fun m hm s ok => by
  unfold callD
  simp only [h1, h2]
  exact pickB_ok _ .none m hm s ok
/-- x = a + _law_pick(source, m) -/
theorem add_pick {b : BA.St} {ks : List Nat} {C : Calls} {ρ : Rho} {s : Src} {P : Fl → Src → Prop} {i j k : Nat} {a m : Int} (hp : Picks C k) (hm : m < 1073741824) (hm2 : 2 ≤ m) (ok : SrcOkk s) (hj : getV ρ j = some .none)
    (go : ∀ r s', 0 ≤ r → r < m → SrcOkk s' → post (b C (BA.blank (setV ρ i (.int (a + r))) ks)) P s') : post (sSeqF (sSet i (xOp .Add (xCon (.int a)) (xCall k (xCons (xVar j) (xCons (xCon (.int m)) xNil))))) ks b C ρ) P s := by
  refine stepF ?_
  unfold sSet xOp xCon xCall xCons xVar xNil
  simp only [bnd_pur, hj, opt_some, bnd_assoc]
  rw [post_bnd]
  refine post_mono (hp m hm s ok) fun d s1 ⟨⟨r, e, h0, h1, _⟩, ok1⟩ => ?_
  subst e
  simp only [op_addi, opt_some, bnd_pur]
  exact ⟨_, rfl, go r s1 h0 (h1 hm2) ok1⟩
end BA
namespace BA
/-- a run's end, shut (Lean is not to run it) -/
structure Post {α : Type} (x : M α) (P : α → Src → Prop) (s : Src) : Prop where
  h : post x P s
end BA

/-! BA21: more fresh lists; tuples of values put into names -/
namespace BA
open PySem PySem.Spec
open PyProof.Rows
open L2 hiding St

theorem Own.new {F : Addr → Prop} {H : Hp} {p : Addr} {xs : List V} {ds : List D} (n : H p = none) (z : xs.length ≤ sizeLine) (r : Rps F H xs ds) : Own (fun b => F b ∨ b = p) (upd H p (.lst xs)) p (.list ds) :=
  .inl ⟨xs, ds, rfl, upd_same, z, (r.move fun b k f => f.elim (fun f => f) fun e => absurd n (by rw [← e]; exact k)).pres (Grow.new n).pres⟩
/-- of two values a new list -/
def RL (f : D → D → Option D) : R2 := fun x y H Q => ∃ F d1 d2 d, RpB F H x d1 ∧ RpB F H y d2 ∧ f d1 d2 = some d ∧ ∀ a H', Grow H H' → H a = none → Own (fun b => F b ∨ b = a) H' a d → Q (.ref a) H'
def op2L (o : Operator) (x y : D) : Option D := match x, y with
  | .list xs, .list ys => match o with
    | .Add => if szOk (xs.length + ys.length) then some (.list (xs ++ ys)) else none
    | _ => none
  | .list xs, .int k => match o with
    | .Mult => if repK k xs.length then some (.list (List.replicate k.toNat xs).flatten) else none
    | _ => none
  | _, _ => none
def xOpL (o : Operator) (a b : E) : E := fun C ρ => bnd (a C ρ) fun x => bnd (b C ρ) fun y => opt (op2L o x y)
section
variable {G : Gx} {W : Nat → Kd} {X : Cx}
theorem opl_mul : OpR X (binaryOp .Mult) (RL (op2L .Mult)) := by
  intro pins s σ H x y v u Q I rx ry ⟨F, d1, d2, d, r1, r2, e, q⟩
  unfold op2L at e
  split at e
  · simp only at e
    cases e
  · simp only at e
    split at e
    · rename_i hz
      cases e
      obtain ⟨a, xs, rfl, ha, hx, ra⟩ := r1.list
      rw [r2.int] at ry
      obtain ⟨k1, k2, k3⟩ := repK_ok hz
      rw [← ra.len] at k3
      exact op_rep pins s σ H _ _ v u Q I rx ry ⟨a, _, xs, rfl, rfl, ha, k1, k2, k3, fun p hp => q _ _ (.new hp) hp (.new hp (by rw [rep_len]; exact k3) (ra.rep _))⟩
    · cases e
  · cases e
theorem opl_add : OpR X (binaryOp .Add) (RL (op2L .Add)) := by
  intro pins s σ H x y v u Q I rx ry ⟨F, d1, d2, d, r1, r2, e, q⟩
  unfold op2L at e
  split at e
  · simp only at e
    split at e
    · rename_i hz
      cases e
      obtain ⟨a, xs, rfl, ha, hx, ra⟩ := r1.list
      obtain ⟨b, ys, rfl, hb, hy, rb⟩ := r2.list
      have z : xs.length + ys.length ≤ sizeLine := by rw [ra.len, rb.len]; exact szOk_le hz
      exact op_cat pins s σ H _ _ v u Q I rx ry ⟨a, b, xs, ys, rfl, rfl, ha, hb, z, fun p hp => q _ _ (.new hp) hp (.new hp (by rw [List.length_append]; exact z) (ra.app rb))⟩
    · cases e
  · simp only at e
    cases e
  · cases e
variable {a b : Expr} {ma mb : E} {pos : Pos}
theorem sf_op {o : Operator} (hr : OpR X (binaryOp o) (RL (op2L o))) (ha : PE X a (tB G W ma)) (hb : PE X b (tB G W mb)) : PE X (.BinOp a o b pos) (tF G W (xOpL o ma mb)) :=
  (pe_op hr ha hb).weak fun σ H Q ⟨F, S, ρ, s, ok, p⟩ => tB.go ok p fun d s1 v H1 g1 ok1 r1 p1 => tB.go ok1 p1 fun d2 s2 v2 H2 g2 ok2 r2 p2 => by
    obtain ⟨d, e, q⟩ := post_opt.mp p2
    refine ⟨F, _, _, d, (r1.pres g2 ok.sub).b, r2.b, e, fun w H3 g3 n o => q w H3 ((g1.trans g2).trans g3.pres) (ok2.src.grow g3) ?_ o⟩
    cases e : H w with
    | none => rfl
    | some o => rw [(g1.trans g2) w o (fun f => ok2.live.new n (ok.sub w f)) e] at n; cases n

/-! names = a tuple of values -/
def tNs (is : List Nat) : TGs := fun vs σ H Q => vs.length = is.length ∧ Q (setAll σ is vs) H
theorem sn_nil : PGs X [] (tNs []) := pgs_nil.weak fun vs σ H Q ⟨e, q⟩ => by
  match vs, e with
  | [], _ => exact ⟨rfl, q⟩
theorem sn_cons {is : List Nat} {es : List Expr} (i : Nat) {x : Str} {p : Pos} (hN : X.N.Nodup) (h2 : PGs X es (tNs is)) (hi : X.N[i]? = some x := by rfl) (hx : Loc X.env.scope x := by first | exact Or.inl rfl | exact Or.inr rfl) (hf : X.fn x = true ∨ X.env.scope.names.lookup x = some .local := by first | exact .inl rfl | exact .inr rfl)
    (hs : (assignEach (.Name x p :: es) X.env).map (·.2) = assign (.Name x p) X.env :: (assignEach es X.env).map (·.2) := by rfl) : PGs X (.Name x p :: es) (tNs (i :: is)) :=
  (pgs_cons (pg_name hN hi hx hf) h2 hs).weak fun vs σ H Q ⟨e, q⟩ => by
    match vs, e, q with
    | v :: vs, e, q => exact ⟨v, vs, rfl, Nat.succ.inj e, q⟩
theorem parT_ (is : List Nat) {r ts : List Expr} {ks : List Kd} {mr : Es} {kt k2 : Nat} {pt pt2 : Pos} (hN : X.N.Nodup) (ha : PA X r (tKs G W ks mr)) (hg : PGs X ts (tNs is)) (hl : (is.all fun i => Nat.blt i X.N.length) = true := by rfl) (hk : is.map W = ks := by rfl) (hn : (assignEach ts X.env).length = is.length := by rfl) (hst : (assignEach ts X.env).findIdx? (·.1) = none := by rfl)
    (hc : X.calm = true := by rfl) (hs : swapsWithSole [.Tuple ts kt pt] (.Tuple r k2 pt2) pos.line X.env = pure false := by rfl) (hw : swappedStores [.Tuple ts kt pt] (.Tuple r k2 pt2) X.env = pure none := by rfl)
    (h1 : (assignEach [.Tuple ts kt pt] X.env).map (·.2) = [assign (.Tuple ts kt pt) X.env] := by rfl) (hz : is.length ≤ 1000 := by decide) : PS X (.Assign [.Tuple ts kt pt] (.Tuple r k2 pt2) pos) (tS G W (sPar (gIs is) mr)) :=
  ⟨fun pins s0 σ H D I ⟨F0, H0, L, F, S, ρ, s, sa, p⟩ => (ps_asg (pe_tup ha) (pg_tup hc hg hn hst) hs hw h1).run pins s0 σ H D I (by
    unfold sPar at p
    rw [post_bnd] at p
    refine ⟨F, S, ρ, s, sa.ok, post_mono p fun ds s1 p1 vs H1 F1 g1 k1 w1 r1 => ?_⟩
    rw [post_bnd] at p1
    obtain ⟨ρ', e, q⟩ := post_opt.mp p1
    obtain ⟨rfl, hlen⟩ := gIs_set _ _ _ _ e
    have hv : vs.length = is.length := by rw [r1.len]; exact hlen
    refine ⟨by rw [hv, sizeLine_eq]; omega, fun P hP => ⟨P, vs, rfl, SqT.of upd_same, hv, hv, ?_⟩⟩
    exact q _ _ _ ((sa.put w1 g1 k1 r1 hk fun l h => by rw [I.len]; exact Nat.lt_of_lt_of_le (Nat.lt_succ_self _) (Nat.le_of_ble_eq_true (List.all_eq_true.mp hl l h))).grow (Grow.new hP)))⟩
end
end BA

/-! BA22: isinstance -/
namespace BA
open PySem PySem.Spec
open PyProof.Rows
open L2 hiding St

def tyD : D → String
  | .none => "NoneType"
  | .bool _ => "bool"
  | .int _ => "int"
  | .str _ => "str"
  | .list _ => "list"
  | .tuple _ => "tuple"
  | .dict _ => "dict"
def TyE (K : PySem.W.Frag) (H : Hp) (x : V) (t : Value) : Prop := TyX K H x t ∨ ∃ a ds ks vs, x = .ref a ∧ H a = some (DO a ds ks vs) ∧ t = .type "dict"
theorem RpB.ty {F : Addr → Prop} {H : Hp} {K : PySem.W.Frag} {v : V} {d : D} (h : RpB F H v d) : TyE K H v (.type (tyD d)) := by
  rcases h with h | ⟨a, rfl, ⟨xs, ds, rfl, h1, _⟩ | ⟨ks, vs, ds, es, rfl, h1, _⟩⟩
  · cases h with
    | non => exact .inl (.base .non)
    | bl b => exact .inl (.base (.bl b))
    | int i => exact .inl (.base (.int i))
    | str x => exact .inl (.base (.str x))
    | lst n h z r => exact .inl (.base (.lst h))
    | tup n h z r => exact .inl (.base (.tup h))
    | dct n h => exact .inr ⟨_, _, _, _, rfl, h, rfl⟩
  · exact .inl (.base (.lst h1))
  · exact .inr ⟨_, _, _, _, rfl, h1, rfl⟩
/-- isinstance of data, one class -/
def rIsE (K : PySem.W.Frag) : List V → Hp → VK → Prop := fun xs H Q => ∃ (x c : V) (t u : Value) (b : Bool), xs = [x, c] ∧ ClsV c u ∧ TyE K H x t ∧ PySem.W.kitOne K t u = some b ∧ Q (.bl b) H
theorem isi_call {X : Cx} : CallR X (.builtin "isinstance") (rIsE X.K) := by
  intro pins s σ H xs us Q I r ⟨x, c, t, u, b, e0, k, ty, e, q⟩
  rcases ty with ty | ⟨a, ds, ks, vs, e1, h, e2⟩
  · exact call_isi pins s σ H xs us Q I r ⟨x, c, t, u, b, e0, k, ty, e, q⟩
  · subst e0 e1 e2
    obtain ⟨v, w, rfl, r1, r2⟩ := vals2 r
    have ew := k.eq r2
    subst ew
    have ev : v = Value.ref a := r1
    subst ev
    obtain ⟨⟨_, o, _, _, g1, g2, _⟩, _⟩ := (show ObjOk X.prog X.w H s.heap a (DO a ds ks vs) from I.hok a _ h)
    exact PySem.W.kia_one PySem.W.kitx_dict I.kIn ⟨o, g1, g2.1⟩ e (fun z => nomatch z) fun tk => ⟨.bl b, H, I.tok tk, rfl, q⟩
/-- the built-in type that a test asks for -/
def tyOfPm : Pm → String
  | .isInt => "int"
  | .isBool => "bool"
  | .isTuple => "tuple"
  | .isStr => "str"
  | .isList => "list"
  | _ => ""
def isPm : Pm → Bool
  | .isInt => true
  | .isBool => true
  | .isTuple => true
  | .isStr => true
  | .isList => true
  | _ => false
theorem kit_all : ∀ t ∈ ["int", "bool", "tuple", "str", "list"], ∀ a ∈ ["NoneType", "bool", "int", "str", "list", "tuple", "dict"], kitB a t = some (a == t || (a == "bool" && t == "int")) := by decide +kernel
theorem tyD_mem (d : D) : tyD d ∈ ["NoneType", "bool", "int", "str", "list", "tuple", "dict"] := by
  cases d <;> simp [tyD]
theorem isi_some {q : Pm} {x d : D} (hq : isPm q = true) (h : prim q [x] = some d) : ∃ b, d = .bool b ∧ kitB (tyD x) (tyOfPm q) = some b := by
  have key := kit_all (tyOfPm q) (by cases q <;> simp_all [isPm, tyOfPm]) (tyD x) (tyD_mem x)
  rw [key]
  cases q <;> simp [isPm] at hq <;> simp only [prim] at h <;> cases h <;> refine ⟨_, rfl, ?_⟩ <;> cases x <;> rfl
section
variable {G : Gx} {W : Nat → Kd} {X : Cx} {e : Expr} {m : E} {p p2 pos : Pos} {x : Str}
theorem pe_tyname {T : String} (hg : Gl X x) (hm : X.mg x = none) (hv : bootBuiltins x = some (.type T)) (hn : x ≠ "__name__") (hd : (x == ("__debug__" : Str)) = false) : PE X (.Name x p) (tC (.ty T)) :=
  ⟨fun pins s σ H Q I h => ld_blt I hg hm hv ⟨.ty T, H, I, rfl, h⟩ hn hd⟩
theorem isi_ (q : Pm) (hm : X.mg "isinstance" = none) (hm2 : X.mg x = none) (he : PE X e (tB G W m)) (hq : isPm q = true := by rfl) (hv : bootBuiltins x = some (.type (tyOfPm q)) := by decide +kernel) (hg : Gl X "isinstance" := by rfl) (hg2 : Gl X x := by rfl) (hn : x ≠ "__name__" := by decide) (hd : (x == ("__debug__" : Str)) = false := by decide)
    (hv2 : bootBuiltins "isinstance" = some (.builtin "isinstance") := by decide +kernel)
    (hs : starEach [e, .Name x p2] X.env = (false, eval e X.env) :: starEach [.Name x p2] X.env := by rfl) (hs2 : starEach [.Name x p2] X.env = [(false, eval (.Name x p2) X.env)] := by rfl) (hpl : (backTo pos (starEach [.Name x p2] X.env)).any (·.1) = false := by rfl) :
    PE X (.Call (.Name "isinstance" p) [e, .Name x p2] [] pos) (tE G W (xPrim q (xCons m xNil))) :=
  (pe_callB isi_call hg hm hv2 (pa_cons he (pa_one (pe_tyname hg2 hm2 hv hn hd) hs2) hs) (by decide) rfl hs hpl).weak fun σ H Q ⟨F, S, ρ, s, ok, h⟩ => by
    unfold xPrim xCons xNil at h
    simp only [bnd_assoc, bnd_pur] at h
    refine tB.go ok h fun d s1 v H1 g1 ok1 r1 p1 => ?_
    obtain ⟨r, e, q2⟩ := post_opt.mp p1
    obtain ⟨b, rfl, hk⟩ := isi_some hq e
    exact ⟨v, _, _, _, b, rfl, .ty _, r1.b.ty, kit_ty hk, q2 _ _ g1 ok1.src (.bl _)⟩
end
end BA

/-! BA23: runs told plainly -/
namespace BA
open PySem

/-- a comprehension whose parts only look -/
theorem compM_pur {g : G} {c : Rho → M Bool} {el : Rho → M D} {ρ : Rho} (f : D → Option D) : ∀ xs : List D, (∀ x ∈ xs, ∃ ρ1, g x ρ = some ρ1 ∧ ((f x = none ∧ c ρ1 = pur false) ∨ ∃ d, f x = some d ∧ c ρ1 = pur true ∧ el ρ1 = pur d)) →
    compM g c el ρ xs = pur (xs.filterMap f)
  | [], _ => rfl
  | x :: xs, h => by
    obtain ⟨ρ1, e, k⟩ := h x List.mem_cons_self
    have ih := compM_pur f xs fun y hy => h y (List.mem_cons_of_mem _ hy)
    unfold compM
    rw [e, opt_some, bnd_pur]
    rcases k with ⟨k1, k2⟩ | ⟨d, k1, k2, k3⟩
    · rw [k2, bnd_pur, if_neg Bool.false_ne_true, ih, List.filterMap_cons, k1]
    · rw [k2, bnd_pur, if_pos rfl, k3, bnd_pur, ih, bnd_pur, List.filterMap_cons, k1]
/-- a comprehension without a test whose parts only look -/
theorem compM_map {g : G} {C : Calls} {el : Rho → M D} {ρ : Rho} (f : D → D) (xs : List D) (h : ∀ x ∈ xs, ∃ ρ1, g x ρ = some ρ1 ∧ el ρ1 = pur (f x)) : compM g (tYes C) el ρ xs = pur (xs.map f) := by
  rw [compM_pur (fun x => some (f x)) xs fun x hx => by
    obtain ⟨ρ1, a, b⟩ := h x hx
    exact ⟨ρ1, a, .inr ⟨_, rfl, rfl, b⟩⟩]
  congr 1
  clear h
  induction xs with
  | nil => rfl
  | cons x r ih => rw [List.filterMap_cons, List.map_cons, ih]
/-- a comprehension whose items are drawn -/
theorem compM_post {g : G} {C : Calls} {el : Rho → M D} {ρ : Rho} {I : Src → Prop} {R : D → Prop} : ∀ (xs : List D) (s : Src), I s → (∀ x ∈ xs, ∃ ρ1, g x ρ = some ρ1 ∧ ∀ s, I s → post (el ρ1) (fun d s' => R d ∧ I s') s) →
    post (compM g (tYes C) el ρ xs) (fun ds s' => ds.length = xs.length ∧ (∀ d ∈ ds, R d) ∧ I s') s
  | [], s, hs, _ => ⟨rfl, (fun _ h => by cases h), hs⟩
  | x :: xs, s, hs, h => by
    obtain ⟨ρ1, e, k⟩ := h x List.mem_cons_self
    unfold compM
    rw [e, opt_some, bnd_pur]
    show post (bnd (el ρ1) fun d => bnd (compM g (tYes C) el ρ xs) fun r => pur (d :: r)) _ s
    rw [post_bnd]
    refine post_mono (k s hs) fun d s1 ⟨rd, i1⟩ => ?_
    rw [post_bnd]
    refine post_mono (compM_post xs s1 i1 fun y hy => h y (List.mem_cons_of_mem _ hy)) fun ds s2 ⟨l, a, i2⟩ => ?_
    refine ⟨congrArg (· + 1) l, fun y hy => ?_, i2⟩
    rcases List.mem_cons.mp hy with e | hy
    · rw [e]; exact rd
    · exact a y hy
/-- a for loop that runs to its end, by an invariant over what is walked -/
theorem forM_post {g : G} {bd : Rho → M Fl} {I : List D → Rho → Src → Prop} : ∀ (xs pre : List D) (ρ : Rho) (s : Src), I pre ρ s →
    (∀ pre x ρ s, x ∈ xs → I pre ρ s → ∃ ρ1, g x ρ = some ρ1 ∧ post (bd ρ1) (fun f s' => ∃ ρ2, (f = .next ρ2 ∨ f = .cont ρ2) ∧ I (pre ++ [x]) ρ2 s') s) →
    post (forM g bd xs ρ) (fun f s' => ∃ ρ', f = .next ρ' ∧ I (pre ++ xs) ρ' s') s
  | [], pre, ρ, s, h, _ => ⟨ρ, rfl, by rw [List.append_nil]; exact h⟩
  | x :: xs, pre, ρ, s, h, step => by
    obtain ⟨ρ1, e, k⟩ := step pre x ρ s List.mem_cons_self h
    unfold forM
    rw [e, opt_some, bnd_pur, post_bnd]
    refine post_mono k fun f s1 ⟨ρ2, hf, i2⟩ => ?_
    have go := forM_post xs (pre ++ [x]) ρ2 s1 i2 fun pre' y ρ s hy i => step pre' y ρ s (List.mem_cons_of_mem _ hy) i
    rw [List.append_assoc] at go
    rcases hf with rfl | rfl
    · exact go
    · exact go
/-- a while loop that ends, by an invariant and a measure -/
theorem whileM_post {c : Rho → M D} {bd : Rho → M Fl} {I : Nat → Rho → Src → Prop} {Q : Rho → Src → Prop} : ∀ (n k : Nat) (ρ : Rho) (s : Src), k < n → I k ρ s →
    (∀ k ρ s, I k ρ s → (c ρ = pur (.bool false) ∧ Q ρ s) ∨ (c ρ = pur (.bool true) ∧ post (bd ρ) (fun f s' => ∃ ρ2 j, (f = .next ρ2 ∨ f = .cont ρ2) ∧ j < k ∧ I j ρ2 s') s)) →
    post (whileM c bd n ρ) (fun f s' => ∃ ρ', f = .next ρ' ∧ Q ρ' s') s
  | 0, _, _, _, h, _, _ => absurd h (Nat.not_lt_zero _)
  | n + 1, k, ρ, s, h, i, step => by
    unfold whileM
    rcases step k ρ s i with ⟨e, q⟩ | ⟨e, p⟩
    · rw [e, bnd_pur]
      show post (pur (Fl.next ρ)) _ s
      exact ⟨ρ, rfl, q⟩
    · rw [e, bnd_pur]
      show post (bnd (bd ρ) _) _ s
      rw [post_bnd]
      refine post_mono p fun f s1 ⟨ρ2, j, hf, hj, i2⟩ => ?_
      have go := whileM_post n j ρ2 s1 (by omega) i2 step
      rcases hf with rfl | rfl
      · exact go
      · exact go
theorem r_con (d : D) (C : Calls) (ρ : Rho) : xCon d C ρ = pur d := rfl
theorem r_var (i : Nat) (C : Calls) (ρ : Rho) : xVar i C ρ = opt (getV ρ i) := rfl
theorem r_op (o : Operator) (a b : E) (C : Calls) (ρ : Rho) : xOp o a b C ρ = bnd (a C ρ) fun x => bnd (b C ρ) fun y => opt (op2 o x y) := rfl
theorem r_neg (a : E) (C : Calls) (ρ : Rho) : xNeg a C ρ = bnd (a C ρ) fun x => bnd (opt (asI x)) fun i => pur (.int (-i)) := rfl
theorem r_not (a : E) (C : Calls) (ρ : Rho) : xNot a C ρ = bnd (a C ρ) fun x => bnd (opt (asB x)) fun b => pur (.bool (!b)) := rfl
theorem r_cmp (o : CmpOp) (a b : E) (C : Calls) (ρ : Rho) : xCmp o a b C ρ = bnd (a C ρ) fun x => bnd (b C ρ) fun y => bnd (opt (cmpF o x y)) fun k => pur (.bool k) := rfl
theorem r_and (a b : E) (C : Calls) (ρ : Rho) : xAnd a b C ρ = bnd (a C ρ) fun x => bnd (opt (asB x)) fun k => if k then b C ρ else pur (.bool false) := rfl
theorem r_or (a b : E) (C : Calls) (ρ : Rho) : xOr a b C ρ = bnd (a C ρ) fun x => bnd (opt (asB x)) fun k => if k then pur (.bool true) else b C ρ := rfl
theorem r_if (c a b : E) (C : Calls) (ρ : Rho) : xIf c a b C ρ = bnd (c C ρ) fun x => bnd (opt (asB x)) fun k => if k then a C ρ else b C ρ := rfl
theorem r_nil  (C : Calls) (ρ : Rho) : xNil C ρ = pur [] := rfl
theorem r_cons (a : E) (r : Es) (C : Calls) (ρ : Rho) : xCons a r C ρ = bnd (a C ρ) fun d => bnd (r C ρ) fun ds => pur (d :: ds) := rfl
theorem r_tup (r : Es) (C : Calls) (ρ : Rho) : xTup r C ρ = bnd (r C ρ) fun ds => if szOk ds.length then pur (.tuple ds) else bad := rfl
theorem r_lst (r : Es) (C : Calls) (ρ : Rho) : xLst r C ρ = bnd (r C ρ) fun ds => if szOk ds.length then pur (.list ds) else bad := rfl
theorem r_sub (a i : E) (C : Calls) (ρ : Rho) : xSub a i C ρ = bnd (a C ρ) fun x => bnd (i C ρ) fun y => opt (ixD x y) := rfl
theorem r_call (f : Nat) (r : Es) (C : Calls) (ρ : Rho) : xCall f r C ρ = bnd (r C ρ) fun ds => C f ds := rfl
theorem r_prim (f : Pm) (r : Es) (C : Calls) (ρ : Rho) : xPrim f r C ρ = bnd (r C ρ) fun ds => opt (prim f ds) := rfl
theorem r_comp (own : List Nat) (it : Es) (g : G) (c : Et) (el : E) (C : Calls) (ρ : Rho) : xComp own it g c el C ρ = bnd (it C ρ) fun xs => bnd (compM g (c C) (el C) (blank ρ own) xs) fun ds => pur (.list ds) := rfl
theorem r_range (a : E) (C : Calls) (ρ : Rho) : iRange a C ρ = bnd (a C ρ) fun x => bnd (opt (asI x)) fun n => if rg1 n then pur (rangeL 0 n) else bad := rfl
theorem r_range2 (a b : E) (C : Calls) (ρ : Rho) : iRange2 a b C ρ = bnd (a C ρ) fun x => bnd (b C ρ) fun y => bnd (opt (asI x)) fun i => bnd (opt (asI y)) fun j => if rgOk i j then pur (rangeL i j) else bad := rfl
theorem r_val (a : E) (C : Calls) (ρ : Rho) : iVal a C ρ = bnd (a C ρ) fun x => opt (seqD x) := rfl
theorem r_enum (a : E) (C : Calls) (ρ : Rho) : iEnum a C ρ = bnd (a C ρ) fun x => bnd (opt (seqD x)) fun xs => pur (numbered 0 xs) := rfl
theorem r_tif (a : E) (C : Calls) (ρ : Rho) : tIf a C ρ = bnd (a C ρ) fun d => opt (asB d) := rfl
theorem r_yes  (C : Calls) (ρ : Rho) : tYes C ρ = pur true := rfl
theorem r_set (i : Nat) (e : E) (C : Calls) (ρ : Rho) : sSet i e C ρ = bnd (e C ρ) fun d => pur (.next (setV ρ i d)) := rfl
theorem r_asg (g : G) (e : E) (C : Calls) (ρ : Rho) : sAsg g e C ρ = bnd (e C ρ) fun d => bnd (opt (g d ρ)) fun ρ' => pur (.next ρ') := rfl
theorem r_ret (e : E) (C : Calls) (ρ : Rho) : sRet e C ρ = bnd (e C ρ) fun d => pur (.ret d) := rfl
theorem r_sif (c : E) (a b : St) (C : Calls) (ρ : Rho) : sIf c a b C ρ = bnd (c C ρ) fun x => bnd (opt (asB x)) fun k => if k then a C ρ else b C ρ := rfl
theorem r_snil  (C : Calls) (ρ : Rho) : sNil C ρ = pur (.next ρ) := rfl
theorem r_for (g : G) (it : Es) (bd : St) (C : Calls) (ρ : Rho) : sFor g it bd C ρ = bnd (it C ρ) fun xs => forM g (bd C) xs ρ := rfl
theorem r_while (c : E) (bd : St) (C : Calls) (ρ : Rho) : sWhile c bd C ρ = whileM (c C) (bd C) fuelW ρ := rfl
theorem r_seq (a b : St) (C : Calls) (ρ ρ' : Rho) (h : a C ρ = pur (.next ρ')) : sSeq a b C ρ = b C ρ' := by
  unfold sSeq
  rw [h]
  rfl
theorem r_seqR (a b : St) (C : Calls) (ρ : Rho) (d : D) (h : a C ρ = pur (.ret d)) : sSeq a b C ρ = pur (.ret d) := by
  unfold sSeq
  rw [h]
  rfl
theorem if_tt {α : Type} (a b : α) : (if true = true then a else b) = a := rfl
theorem if_ff {α : Type} (a b : α) : (if false = true then a else b) = b := rfl
theorem op_subi (a b : Int) : op2 .Sub (.int a) (.int b) = some (.int (a - b)) := rfl
theorem op_shli (a b : Int) (h0 : 0 ≤ b) (h1 : b ≤ 1000000) (h : small64 a = true) : op2 .LShift (.int a) (.int b) = some (.int (a * 2 ^ b.toNat)) := by
  simp [op2, intOp, h0, h1, h]
theorem cmp_eqi (a b : Int) : cmpF .Eq (.int a) (.int b) = some (decide (a = b)) := rfl
theorem cmp_nei (a b : Int) : cmpF .NotEq (.int a) (.int b) = some (!decide (a = b)) := rfl
theorem cmp_lei (a b : Int) : cmpF .LtE (.int a) (.int b) = some (decide (a ≤ b)) := rfl
theorem cmp_gei (a b : Int) : cmpF .GtE (.int a) (.int b) = some (decide (b ≤ a)) := rfl
theorem rangeL_map (n : Nat) : rangeL 0 n = (List.range n).map fun (i : Nat) => PyData.int i := by
  unfold rangeL
  rw [show ((n : Int) - 0).toNat = n by omega]
  apply List.map_congr_left
  intro i _
  rw [Int.zero_add]
end BA

/-! BA24: x.bit_length() -/
namespace BA
open PySem PySem.Spec
open PyProof.Rows
open L2 hiding St
def xBits (a : E) : E := fun C ρ => bnd (a C ρ) fun x => bnd (opt (asI x)) fun i => pur (.int (Builtin.Int.intBits i : Nat))
section
variable {G : Gx} {W : Nat → Kd} {X : Cx}
theorem se_bits {a : Expr} {ma : E} {apos pos : Pos} (ha : PE X a (tB G W ma)) (hbase : attributeBase a "bit_length" X.env (eval a X.env) = eval a X.env := by rfl) (hline : (apos.endLine == pos.line) = true := by rfl) : PE X (.Call (.Attribute a "bit_length" apos) [] [] pos) (tE G W (xBits ma)) :=
  (pe_bits ha hbase hline).weak fun σ H Q ⟨F, S, ρ, s, ok, p⟩ => tB.go ok p fun d s1 v H1 g1 ok1 r1 p1 => by
    rw [post_bnd] at p1
    obtain ⟨i, e, q⟩ := post_opt.mp p1
    cases asI_some e
    rw [r1.b.int]
    exact ⟨i, rfl, q _ _ g1 ok1.src (.int _)⟩
end
theorem r_bits (a : E) (C : Calls) (ρ : Rho) : xBits a C ρ = bnd (a C ρ) fun x => bnd (opt (asI x)) fun i => pur (.int (Builtin.Int.intBits i : Nat)) := rfl
end BA

/-! BA24b: sorted of tuples, an empty one among them -/
namespace BA
open PySem PySem.Spec
open PyProof.Rows
open PySem.W PySem.SeqAt PySem.Calls
section
variable {prog : Program} {w : World} {A : Around} {s : Shared}
theorem lt_gen (x y : Value) : keyLt' general' x y = oneLt' false x y := rfl
/-- a tuple's own order, asked at once -/
theorem tup_ask {E : Value → Shared → Prop} {Q : Value → Shared → Prop} {p q : Addr} {xs ys : Array Value} {e r : Nat → Bool} (hp : s.heap.IsTuple p xs) (hq : s.heap.IsTuple q ys)
    (he : ∀ j (h1 : j < xs.size) (h2 : j < ys.size), EqAt A.in1 s xs[j] ys[j] (e j)) (hr : ∀ j (h1 : j < xs.size) (h2 : j < ys.size), e j = false → RcLt A.in1 s xs[j] ys[j] (r j))
    (h : Q (.bool (firstLt e r (decide (xs.size < ys.size)) (List.range (min xs.size ys.size)))) s) : wpAny (model prog w) A (call (.builtin "tuple.__lt__") [.ref p, .ref q]) Q E s := by
  obtain ⟨⟨c1, d1, o1, l1⟩, g1, k1, n1, z1⟩ := id hp
  obtain ⟨⟨c2, d2, o2, l2⟩, g2, k2, n2, z2⟩ := id hq
  simp only at k1 z1 k2 z2
  subst k1 z1 k2 z2
  exact call_meets F.slot_tuple_lt ⟨_, g1, rfl⟩ F.entry_tuple_lt (F.args_tuple_lt_2 _ _) (tuple_ltAt p q xs ys n1 n2 d1 d2 l1 l2 e r) ⟨g1, g2, he, hr, h⟩
theorem ask_tups {xs ys : List PyData} {a b : Value} {as bs : List Addr} {f : Bool} {E : Value → Shared → Prop} {Q : Bool → Shared → Prop} (ra : Reads s.heap a (.tuple xs) as) (rb : Reads s.heap b (.tuple ys) bs) (h : alike (.tuple xs) (.tuple ys) = true)
    (hu : A.units + min (PyData.tuple xs).depth (PyData.tuple ys).depth < cLine) (hq : Q (dataLt (.tuple xs) (.tuple ys)) s) : wpAny (model prog w) A (oneLt' f a b) Q E s := by
  cases f with
  | false => exact oneLt_alike (fun z => nomatch z) ra rb h (fun z => nomatch z) hu hq
  | true =>
    have hal : alikeAll xs ys = true := by simpa [alike] using h
    cases ra with
    | @tuple p o vs n _ as1 h1 h2 h3 h4 =>
      cases rb with
      | @tuple q o' vs' n' _ bs1 k1 k2 k3 k4 =>
        have n1 : vs.size = xs.length := by simpa using ReadsAll.length _ _ _ h4
        have n2 : vs'.size = ys.length := by simpa using ReadsAll.length _ _ _ k4
        rw [dataLt_tuple, ← firstLt_toks xs ys hal, ← n1, ← n2] at hq
        rw [oneLt'_eq]
        simp only [if_true]
        refine wpAny_bind (wpAny_cRoomFor (room_here hu) ?_)
        refine wpAny_bind (wpAny_callSpecialIfBound?_slot (T := "tuple") ⟨_, h1, h2⟩ F.slot_tuple_lt (tup_ask (e := pairEq xs ys) (r := fun j => dataLt (xs.getD j .none) (ys.getD j .none)) ⟨_, h1, h2, _, h3⟩ ⟨_, k1, k2, _, k3⟩ (fun j j1 j2 => ?_) (fun j j1 j2 hj => ?_) ?_))
        · have := eqAt_alikeAll xs ys A.in1 s vs.toList vs'.toList _ _ h4 k4 hal (room_in hu) j (by simpa using j1) (by simpa using j2)
          simpa using this
        · have := rcLt_alikeAll xs ys A.in1 s vs.toList vs'.toList _ _ h4 k4 hal (room_in hu) j (by simpa using j1) (by simpa using j2) hj
          simpa using this
        · exact wpAny_truthy_bool hq
theorem firsts_of : ∀ {vs : List Value} {ds : List PyData}, EachIs (fun v d => ∃ as, Reads s.heap v d as) vs ds → (∀ d ∈ ds, ∃ xs, d = .tuple xs) →
    ∃ fs : List (Option Value), (∀ {Q : List (Option Value) → Shared → Prop} {E : Value → Shared → Prop}, Q fs s → wpAny (model prog w) A (vs.mapM firstOfTuple') Q E s) ∧ (fs.all (·.isSome) = true → ∀ d ∈ ds, ∃ x r, d = .tuple (x :: r))
  | _, _, .nil, _ => ⟨[], fun h => by rw [List.mapM_nil]; exact wpAny_pure h, fun _ d hd => by cases hd⟩
  | _, _, .cons (b := d) ⟨as, r⟩ t, ht => by
    obtain ⟨fs, f1, f2⟩ := firsts_of t fun d hd => ht d (List.mem_cons_of_mem _ hd)
    obtain ⟨xs, rfl⟩ := ht d List.mem_cons_self
    cases r with
    | @tuple p o vs' n _ as1 h1 h2 h3 h4 =>
      refine ⟨vs'[0]? :: fs, fun h => ?_, fun h e he => ?_⟩
      · rw [List.mapM_cons]
        refine wpAny_bind ?_
        rw [kas_first_eq]
        refine wpAny_bind (Looks.here (show Looks _ s.heap (typeOf (.ref p)) o.cls from (Looks.ld h1).andThen .now) ?_)
        rw [h2, if_neg (by first | decide | simp)]
        exact wpAny_bind (listItems_at h1 h3 (wpAny_pure (wpAny_bind (f1 (wpAny_pure h)))))
      · rw [List.all_cons, Bool.and_eq_true] at h
        rcases List.mem_cons.mp he with rfl | he
        · cases xs with
          | cons x r => exact ⟨x, r, rfl⟩
          | nil =>
            have n1 : vs'.size = 0 := by simpa using ReadsAll.length _ _ _ h4
            rw [Array.getElem?_eq_none (by omega)] at h
            exact absurd h.1 (by simp)
        · exact f2 h.2 e he
/-- tuples, empty ones too -/
theorem sorts_tups {vs : List Value} {ds : List PyData} (e : EachIs (fun v d => ∃ as, Reads s.heap v d as) vs ds) (hal : AllAlike ds) (ht : ∀ d ∈ ds, ∃ xs, d = .tuple xs) (hu : ∀ d, d ∈ ds → A.units + d.depth < cLine) : SortsAt prog w A s (dataKind s.heap ds) vs := by
  by_cases all : ∀ d ∈ ds, ∃ x r, d = .tuple (x :: r)
  · exact SortsAt.data e hal (.inl all) hu
  · obtain ⟨fs, f1, f2⟩ := firsts_of (prog := prog) (w := w) (A := A) e ht
    have nall : ¬ (fs.toArray.all fun x => x.isSome) = true := fun z => all (f2 (by simpa using z))
    have lt : ∀ (kd : SortKind) (f : Bool), (∀ x y, keyLt' kd x y = oneLt' f x y) → H.LtAt prog w A s (dataKind s.heap ds) kd := fun kd f hk => by
      intro E x y a b Q ha hb hq
      obtain ⟨d, as, hd, ra, rfl⟩ := dataKind_inv ha
      obtain ⟨d', as', hd', rb, rfl⟩ := dataKind_inv hb
      obtain ⟨xs, rfl⟩ := ht d hd
      obtain ⟨ys, rfl⟩ := ht d' hd'
      rw [hk]
      exact ask_tups ra rb (hal _ hd _ hd') (Nat.lt_of_le_of_lt (Nat.add_le_add_left (Nat.min_le_left _ _) _) (hu _ hd)) hq
    refine ⟨fun v hv => ?_, ?_⟩
    · obtain ⟨d, hd, as, r⟩ := e.left v hv
      exact ⟨_, dataKind_some hal hd r⟩
    · by_cases h0 : (fs.toArray[0]?.bind id).isSome = true
      · refine ⟨general', lt _ false lt_gen, fun h2 E Q hq => ?_⟩
        rw [kat_kind_eq, List.mapM_toArray, map_eq_pure_bind]
        refine wpAny_bind (wpAny_bind (f1 (wpAny_pure ?_)))
        rw [if_neg nall, if_pos h0]
        exact wpAny_pure hq
      · refine ⟨oneType', lt _ true keyLt'_oneType, fun h2 E Q hq => ?_⟩
        rw [kat_kind_eq, List.mapM_toArray, map_eq_pure_bind]
        refine wpAny_bind (wpAny_bind (f1 (wpAny_pure ?_)))
        rw [if_neg nall, if_neg h0]
        have ty : ∀ v ∈ vs, Looks (model prog w) s.heap (typeOf v) (Value.type "tuple") := fun v hv => by
          obtain ⟨d, hd, as, r⟩ := e.left v hv
          obtain ⟨xs, rfl⟩ := ht d hd
          exact looks_reads r
        rw [oneTypeOnly'_eq, List.mapM_toArray, map_eq_pure_bind]
        refine wpAny_bind (wpAny_bind (wpAny_bind (kas_mapM (r := Value.type "tuple") _ (fun v hv Q' hq => (ty v hv).here hq) (wpAny_pure ?_))))
        obtain ⟨v1, v2, rest, rfl⟩ : ∃ v1 v2 rest, vs = v1 :: v2 :: rest := by
          match vs, h2 with
          | [], h2 => simp at h2
          | [_], h2 => simp at h2
          | v1 :: v2 :: rest, _ => exact ⟨v1, v2, rest, rfl⟩
        have hall : ((List.map (fun _ => Value.type "tuple") (v1 :: v2 :: rest)).toArray.all fun x => x == Value.type "tuple") = true := by
          simp only [List.all_toArray, List.all_map, List.all_eq_true]
          intro _ _
          exact beq_self_eq_true _
        have hg : (List.map (fun _ => Value.type "tuple") (v1 :: v2 :: rest)).toArray[0]? = some (Value.type "tuple") := by simp
        rw [hg]
        simp only [hall, if_true]
        exact wpAny_pure (wpAny_pure hq)
/-- what can be sorted here -/
def SortE (ds : List PyData) : Prop := Sortable ds ∨ ∀ d ∈ ds, ∃ xs, d = .tuple xs
theorem sorts_of {vs : List Value} {ds : List PyData} (e : EachIs (fun v d => ∃ as, Reads s.heap v d as) vs ds) (hal : AllAlike ds) (hk : SortE ds) (hu : ∀ d, d ∈ ds → A.units + d.depth < cLine) : SortsAt prog w A s (dataKind s.heap ds) vs :=
  hk.elim (fun h => SortsAt.data e hal h hu) fun h => sorts_tups e hal h hu
theorem sorted_edata {β : Type} {enc : β → PyData} {R : Value → β → Prop} {vs : List Value} {bs : List β} {l : Addr} {E : Value → Shared → Prop} {Q : Value → Shared → Prop} (hl : s.heap.IsList l vs.toArray) (e : EachIs R vs bs) (er : EachIs (fun v b => ∃ as, Reads s.heap v (enc b) as) vs bs) (hal : AllAlike (bs.map enc)) (hk : SortE (bs.map enc)) (hL : bs.length ≤ sizeLine)
    (hu : ∀ b, b ∈ bs → A.units + 2 + (enc b).depth < cLine) (h : ∀ out, out.length = bs.length → EachIs R out (bs.mergeSort (dataLe false enc)) → Q (.ref (s.heap.objs.size + 1)) { s with heap := sortedAll s.heap vs (List.toArray out) }) :
    wpAny (model prog w) A (call (.builtin "sorted") [.ref l]) Q E s := by
  have er' : EachIs (fun v b => ∃ as, Reads (sortingHeap (copyHeap s.heap vs) (s.heap.objs.size + 1) vs) v (enc b) as) vs bs := er.mono fun _ _ ⟨as, r⟩ => ⟨as, Reads.keeps (fun _ _ => sorting_copy_old) r⟩
  exact sorted_vals hl (sorts_of (s := { s with heap := sortingHeap (copyHeap s.heap vs) (s.heap.objs.size + 1) vs }) (each_map (R := fun v d => ∃ as, Reads (sortingHeap (copyHeap s.heap vs) (s.heap.objs.size + 1) vs) v d as) enc er') hal hk (bound_map hu)) (by rw [e.length]; exact hL)
    (h _ (by rw [sortVals_length false rfl]; exact e.length) (sortVals_data false e er' hal))
end
end BA

/-! BA25: sorted of a list -/
namespace BA
open PySem PySem.Spec
open PyProof.Rows
open L2 hiding St
/-- not greater: whole numbers at once, else the order of data -/
def leD (x y : D) : Bool := match x, y with
  | .int a, .int b => decide (a ≤ b)
  | _, _ => !PySem.W.dataLt y x
def insD (a : D) : List D → List D
  | [] => [a]
  | b :: l => if leD a b then a :: b :: l else b :: insD a l
def sortD : List D → List D
  | [] => []
  | a :: l => insD a (sortD l)
def leS : D → D → Bool := PySem.W.dataLe false (fun b : D => b)
theorem leD_is (x y : D) : leD x y = leS x y := by
  cases x <;> cases y <;> first | rfl | skip
  rename_i a b
  show decide (a ≤ b) = _
  exact (congrFun (congrFun (PySem.W.dataLe_int (β := Int) fun b => b) a) b).symm
theorem leS_tot : PySem.W.TotalLe leS := by
  unfold leS PySem.W.dataLe
  exact PySem.W.sortLe_total _ _ _
theorem insD_into (a : D) : ∀ (l1 l2 : List D), (∀ b ∈ l1, leS a b = false) → (∀ b ∈ l2, leS a b = true) → insD a (l1 ++ l2) = l1 ++ a :: l2
  | [], [], _, _ => rfl
  | [], c :: r, _, h => by
    show (if leD a c then _ else _) = _
    rw [leD_is, h c List.mem_cons_self]
    rfl
  | b :: l1, l2, h1, h2 => by
    show (if leD a b then _ else b :: insD a (l1 ++ l2)) = _
    rw [leD_is, h1 b List.mem_cons_self, insD_into a l1 l2 (fun c hc => h1 c (List.mem_cons_of_mem _ hc)) h2]
    rfl
theorem sortD_is : ∀ l : List D, sortD l = l.mergeSort leS
  | [] => by simp [sortD]
  | a :: l => by
    obtain ⟨l1, l2, e1, e2, h⟩ := List.mergeSort_cons (le := leS) leS_tot.trans (fun a b => by have := leS_tot.total a b; simpa using this) a l
    have hp := List.pairwise_mergeSort (le := leS) leS_tot.trans (fun a b => by have := leS_tot.total a b; simpa using this) (a :: l)
    rw [e1] at hp
    rw [e1]
    show insD a (sortD l) = _
    rw [sortD_is l, e2]
    refine insD_into a l1 l2 (fun b hb => by simpa using h b hb) fun b hb => ?_
    have := (List.pairwise_append.mp hp).2.1
    exact (List.pairwise_cons.mp this).1 b hb
theorem sortD_perm (l : List D) : (sortD l).Perm l := by
  rw [sortD_is]
  exact List.mergeSort_perm l leS
def tupNe : D → Bool
  | .tuple _ => true
  | _ => false
def tupNo : D → Bool
  | .tuple _ => false
  | .none => false
  | _ => true
def flatI : D → Bool
  | .tuple xs => allInt xs
  | _ => false
def sortOk (ds : List D) : Bool := Nat.ble ds.length 16777216 && (allInt ds || ds.all flatI || ((ds.all fun x => ds.all fun y => PySem.W.alike x y) && (ds.all tupNe || ds.all tupNo) && (Nat.ble (PyData.depthAll ds) 60 && !PyData.hasDictAll ds)))
def sortV (x : D) : Option D := match x with
  | .list ds => if sortOk ds then some (.list (sortD ds)) else none
  | .tuple ds => if sortOk ds then some (.list (sortD ds)) else none
  | _ => none
def xSort (a : E) : E := fun C ρ => bnd (a C ρ) fun x => opt (sortV x)
theorem r_sort (a : E) (C : Calls) (ρ : Rho) : xSort a C ρ = bnd (a C ρ) fun x => opt (sortV x) := rfl
theorem allInt_some : ∀ {ds : List D}, allInt ds = true → ∃ ns : List Int, ds = ns.map PyData.int
  | [], _ => ⟨[], rfl⟩
  | .int i :: r, h => by
    obtain ⟨ns, e⟩ := allInt_some (ds := r) h
    exact ⟨i :: ns, by rw [e]; rfl⟩
  | .none :: _, h | .bool _ :: _, h | .str _ :: _, h | .list _ :: _, h | .tuple _ :: _, h | .dict _ :: _, h => by cases h
theorem depth_le (ds : List D) : ∀ d ∈ ds, d.depth ≤ PyData.depthAll ds := by
  induction ds with
  | nil => intro d h; cases h
  | cons x r ih =>
    intro d h
    simp only [PyData.depthAll]
    rcases List.mem_cons.mp h with e | h
    · rw [e]; omega
    · have := ih d h; omega
theorem sortOk_some {ds : List D} (h : sortOk ds = true) : ds.length ≤ 16777216 ∧ PySem.W.AllAlike ds ∧ SortE ds ∧ ∀ d ∈ ds, d.depth ≤ 60 := by
  unfold sortOk at h
  rw [Bool.and_eq_true, Bool.or_eq_true, Bool.or_eq_true] at h
  refine ⟨Nat.le_of_ble_eq_true h.1, ?_⟩
  rcases h.2 with (h | h) | h
  · obtain ⟨ns, rfl⟩ := allInt_some h
    refine ⟨fun x hx y hy => ?_, .inl (.inr fun d hd => ?_), fun d hd => ?_⟩
    · obtain ⟨i, _, rfl⟩ := List.mem_map.mp hx
      obtain ⟨j, _, rfl⟩ := List.mem_map.mp hy
      simp [PySem.W.alike]
    · obtain ⟨i, _, rfl⟩ := List.mem_map.mp hd
      exact ⟨(fun e => nomatch e), fun xs e => nomatch e⟩
    · obtain ⟨i, _, rfl⟩ := List.mem_map.mp hd
      simp [PyData.depth]
  · have f : ∀ d ∈ ds, ∃ (ns : List Int), d = .tuple (ns.map PyData.int) := fun d hd => by
      have := List.all_eq_true.mp h d hd
      unfold flatI at this
      split at this
      · rename_i xs
        obtain ⟨ns, e⟩ := allInt_some this
        exact ⟨ns, by rw [e]⟩
      · cases this
    refine ⟨fun x hx y hy => ?_, .inr fun d hd => ?_, fun d hd => ?_⟩
    · obtain ⟨ns, rfl⟩ := f x hx
      obtain ⟨ms, rfl⟩ := f y hy
      simp only [PySem.W.alike]
      exact PySem.W.alike_ints _ _
    · obtain ⟨ns, rfl⟩ := f d hd
      exact ⟨_, rfl⟩
    · obtain ⟨ns, rfl⟩ := f d hd
      simp only [PyData.depth, PySem.W.depth_ints]
      omega
  · rw [Bool.and_eq_true, Bool.and_eq_true, Bool.or_eq_true] at h
    obtain ⟨⟨h1, h2⟩, h3⟩ := h
    rw [Bool.and_eq_true] at h3
    have h3 := h3.1
    refine ⟨fun x hx y hy => List.all_eq_true.mp (List.all_eq_true.mp h1 x hx) y hy, ?_, fun d hd => Nat.le_trans (depth_le ds d hd) (Nat.le_of_ble_eq_true h3)⟩
    rcases h2 with h2 | h2
    · refine .inr fun d hd => ?_
      have := List.all_eq_true.mp h2 d hd
      unfold tupNe at this
      split at this
      · exact ⟨_, rfl⟩
      · cases this
    · refine .inl (.inr fun d hd => ?_)
      have := List.all_eq_true.mp h2 d hd
      refine ⟨fun e => ?_, fun xs e => ?_⟩
      · rw [e] at this; cases this
      · rw [e] at this; cases this
/-! ### of a tuple -/
section
open PySem.W PySem.Calls
section
variable {prog : Program} {w : World} {A : Around} {E : Value → Shared → Prop} {s : Shared}
/-- the items of a tuple -/
theorem collect_tup {l : Addr} {vs : List Value} {Q : List Value → Shared → Prop} (hl : IsTup s.heap l vs.toArray)
    (h : Q vs { s with heap := (s.heap.push (seqObj "list" #[] 0)).update s.heap.objs.size (Obj.mapSeq (· ++ vs.toArray)) }) (hsz : vs.length ≤ sizeLine) :
    wpAny (model prog w) A (collect (.ref l)) Q E s := by
  obtain ⟨o, ho, hc, n, hd⟩ := id hl
  unfold collect
  refine wpAny_bind (wpAny_runValue (codeAny_builtin entry_proto_collect' ?_))
  show wpAny _ _ (do again (.builtin "list.__iadd__" ⟨[← newList [], .ref l], []⟩)) _ _ s
  refine wpAny_bind (wpAny_newList (wpAny_pure ⟨Code.quiet_builtin _ (by decide +kernel), codeAny_builtin entry_list_iadd' ?_⟩))
  show wpAny _ _ (Builtin.List.listExtendWith (.ref s.heap.objs.size) (.ref l) (.ref s.heap.objs.size)) _ _ { s with heap := s.heap.push (seqObj "list" #[] 0) }
  unfold Builtin.List.listExtendWith
  have ho' : (s.heap.push (seqObj "list" #[] 0)).get? l = some o := Heap.get?_push_of_some _ ho
  refine wpAny_bind (wpAny_typeOf (T := "tuple") ⟨o, ho', hc⟩ ?_)
  have ht : (Value.type "tuple" == Value.type "tuple") = true := by rfl
  rw [if_pos (by rw [ht]; simp)]
  refine wpAny_bind (listItems_at ho' hd ?_)
  refine wpAny_bind (listItems_at (xs := #[]) (n := 0) (Heap.get?_push_size _ rfl) rfl ?_)
  rw [if_neg (by simp)]
  refine wpAny_bind (listUpdate_at (xs := #[]) (n := 0) (Heap.get?_push_size _ rfl) rfl ?_ (Nat.zero_le _) (by show (#[] ++ vs.toArray).size ≤ sizeLine + 1; simp only [Array.size_append, List.size_toArray, List.length_nil]; omega))
  refine wpAny_pure ?_
  show wpAny (model prog w) A (do
      let o ← load s.heap.objs.size
      match o.data with
      | .seq xs _ => pure xs.toList
      | _ => unsupported "internal:collect") Q E { s with heap := (s.heap.push (seqObj "list" #[] 0)).update s.heap.objs.size (Obj.mapSeq (· ++ vs.toArray)) }
  refine wpAny_bind (wpAny_load (get?_update_seq (Heap.get?_push_size _ rfl) _) ?_)
  show wpAny _ _ (pure ((#[] : Array Value) ++ vs.toArray).toList) Q E _
  rw [show ((#[] : Array Value) ++ vs.toArray).toList = vs by simp]
  exact wpAny_pure h
theorem sorted_of_tup {l : Addr} {vs : List Value} {Q : Value → Shared → Prop} (hl : IsTup s.heap l vs.toArray) (hL : vs.length ≤ sizeLine) (ha1 : argsOk "sorted" ⟨[.ref l], []⟩) (ha2 : ∀ x, argsOk "list.sort" ⟨[.ref x], []⟩)
    (body : ∀ E' : Value → Shared → Prop, wpAny (model prog w) A.in1.in1 (Builtin.«list.sort» ⟨[.ref (s.heap.objs.size + 1)], []⟩) (fun f s' => f = .done (.ret .none) ∧ Q (.ref (s.heap.objs.size + 1)) s') E' { s with heap := copyHeap s.heap vs }) :
    wpAny (model prog w) A (call (.builtin "sorted") [.ref l] []) Q E s := by
  refine call_function_entry_kw kind_sorted plain_sorted entry_sorted ha1 ?_
  unfold Builtin.«sorted»
  refine wpAny_bind (m := checkCount "sorted" 1 1 _) (wpAny_pure ?_)
  refine wpAny_bind (collect_tup hl ?_ hL)
  refine wpAny_bind (wpAny_newList ?_ hL)
  have hsz : ((s.heap.push (seqObj "list" #[] 0)).update s.heap.objs.size (Obj.mapSeq (· ++ vs.toArray))).objs.size = s.heap.objs.size + 1 := by
    rw [Heap.size_update, size_push']
  show wpAny _ _ _ _ _ { s with heap := copyHeap s.heap vs }
  rw [hsz]
  refine wpAny_bind (wpAny_holding (wpAny_call_entry_kw slot_list_sort ⟨_, copyHeap_at s.heap vs, rfl⟩ entry_list_sort ?body (ha2 _)))
  case body =>
    show wpAny (model prog w) A.in1.in1 (Builtin.«list.sort» ⟨[.ref (s.heap.objs.size + 1)], []⟩) _ _ _
    refine wpAny_mono (body _) (fun f s' hf => ?_) fun _ _ e => e
    obtain ⟨rfl, hq⟩ := hf
    exact ⟨_, rfl, wpAny_pure ⟨_, rfl, hq⟩⟩
theorem sorted_tdata {β : Type} {enc : β → PyData} {R : Value → β → Prop} {vs : List Value} {bs : List β} {l : Addr} {Q : Value → Shared → Prop} (hl : IsTup s.heap l vs.toArray) (e : EachIs R vs bs) (er : EachIs (fun v b => ∃ as, Reads s.heap v (enc b) as) vs bs) (hal : AllAlike (bs.map enc)) (hk : SortE (bs.map enc)) (hL : bs.length ≤ sizeLine)
    (hu : ∀ b, b ∈ bs → A.units + 2 + (enc b).depth < cLine) (h : ∀ out, out.length = bs.length → EachIs R out (bs.mergeSort (dataLe false enc)) → Q (.ref (s.heap.objs.size + 1)) { s with heap := sortedAll s.heap vs (List.toArray out) }) :
    wpAny (model prog w) A (call (.builtin "sorted") [.ref l]) Q E s := by
  have er' : EachIs (fun v b => ∃ as, Reads (sortingHeap (copyHeap s.heap vs) (s.heap.objs.size + 1) vs) v (enc b) as) vs bs := er.mono fun _ _ ⟨as, r⟩ => ⟨as, PyProof.Rows.Reads.keeps (fun _ _ => sorting_copy_old) r⟩
  refine sorted_of_tup hl (by rw [e.length]; exact hL) (args_sorted1 _) (fun _ => args_list_sort _) fun _ => list_sort_vals (s := { s with heap := copyHeap s.heap vs }) (copyHeap_at s.heap vs) (sorts_of (s := { s with heap := sortingHeap (copyHeap s.heap vs) (s.heap.objs.size + 1) vs }) (each_map (R := fun v d => ∃ as, Reads (sortingHeap (copyHeap s.heap vs) (s.heap.objs.size + 1) vs) v d as) enc er') hal hk (bound_map hu)) (by rw [e.length]; exact hL) ⟨rfl, ?_⟩
  exact h _ (by rw [sortVals_length false rfl]; exact e.length) (sortVals_data false e er' hal)
end
end
/-! ### its rule -/
theorem each_of {F : Addr → Prop} {H : Hp} : ∀ {xs : List V} {ds : List D} {us : List Value}, Rps F H xs ds → Vals xs us → PySem.W.EachIs (fun u (b : V × D) => RelV b.1 u ∧ Rp F H b.1 b.2) us (xs.zip ds)
  | _, _, _, .nil, .nil => .nil
  | _, _, _, .cons r t, .cons p q => .cons ⟨p, r⟩ (each_of t q)
theorem all_noD : ∀ {ds : List D}, (∀ d ∈ ds, d.hasDict = false) → PyData.hasDictAll ds = false
  | [], _ => by simp only [PyData.hasDictAll]
  | d :: ds, h => by
    simp only [PyData.hasDictAll, h d List.mem_cons_self, all_noD fun x hx => h x (List.mem_cons_of_mem _ hx), Bool.or_self]
theorem ints_noD (ns : List Int) : PyData.hasDictAll (ns.map PyData.int) = false := all_noD fun d hd => by
  obtain ⟨i, _, rfl⟩ := List.mem_map.mp hd
  simp only [PyData.hasDict]
theorem sortOk_noD {ds : List D} (h : sortOk ds = true) : PyData.hasDictAll ds = false := by
  unfold sortOk at h
  rw [Bool.and_eq_true, Bool.or_eq_true, Bool.or_eq_true] at h
  rcases h.2 with (h | h) | h
  · obtain ⟨ns, rfl⟩ := allInt_some h
    exact ints_noD ns
  · refine all_noD fun d hd => ?_
    have := List.all_eq_true.mp h d hd
    unfold flatI at this
    split at this
    · obtain ⟨ns, e⟩ := allInt_some this
      rw [e]
      simp only [PyData.hasDict, ints_noD]
    · cases this
  · simp only [Bool.and_eq_true, Bool.not_eq_true'] at h
    exact h.2.2
theorem each_ofN {F : Addr → Prop} {H : Hp} : ∀ {xs : List V} {ds : List D} {us : List Value}, Rps F H xs ds → Vals xs us → PyData.hasDictAll ds = false → PySem.W.EachIs (fun u (b : V × D) => (RelV b.1 u ∧ Rp F H b.1 b.2) ∧ b.2.hasDict = false) us (xs.zip ds)
  | _, _, _, .nil, .nil, _ => .nil
  | _, _, _, .cons r t, .cons p q, n => by
    simp only [PyData.hasDictAll, Bool.or_eq_false_iff] at n
    exact .cons ⟨⟨p, r⟩, n.1⟩ (each_ofN t q n.2)
theorem zip_snd {F : Addr → Prop} {H : Hp} : ∀ {xs : List V} {ds : List D}, Rps F H xs ds → (xs.zip ds).map Prod.snd = ds
  | _, _, .nil => rfl
  | _, _, .cons r t => by rw [List.zip_cons_cons, List.map_cons, zip_snd t]
theorem each_back {F : Addr → Prop} {H : Hp} : ∀ {us : List Value} {bs : List (V × D)}, PySem.W.EachIs (fun u (b : V × D) => RelV b.1 u ∧ Rp F H b.1 b.2) us bs → Vals (bs.map Prod.fst) us ∧ Rps F H (bs.map Prod.fst) (bs.map Prod.snd)
  | _, _, .nil => ⟨.nil, .nil⟩
  | _, _, .cons r t => ⟨.cons r.1 (each_back t).1, .cons r.2 (each_back t).2⟩
section
variable {X : Cx}
def rSortD : List V → Hp → VK → Prop := fun vs H Q => ∃ (F : Addr → Prop) (d : D) (ds : List D) (v : V), vs = [v] ∧ (d = .list ds ∨ d = .tuple ds) ∧ RpB F H v d ∧ sortOk ds = true ∧
  ∀ (zs : List V) (p : Addr), Rps F H zs (sortD ds) → zs.length ≤ sizeLine → H p = none → Q (.ref p) (upd H p (.lst zs))
theorem cr_sortedD (hu : X.A.units + 65 < cLine) : CallR X (.builtin "sorted") rSortD := by
  intro pins s σ H vs us Q I r ⟨F, d, ds, v, e, hd, rb, ho, q⟩
  subst e
  obtain ⟨hlen, hal, hst, hdp⟩ := sortOk_some ho
  have key : ∀ (xs : List V) (a : Addr) (its : List Value), Rps F H xs ds → Vals xs its → (s.heap.IsList a its.toArray ∨ IsTup s.heap a its.toArray) → wpAny (model X.prog X.w) X.A (call (.builtin "sorted") [.ref a]) (EP X pins σ Q) X.xe s := fun xs a its rp rv hl => by
    have ez := zip_snd rp
    have eb := each_of rp rv
    have er : PySem.W.EachIs (fun u (b : V × D) => ∃ as, Reads s.heap u b.2 as) its (xs.zip ds) := (each_ofN rp rv (sortOk_noD ho)).mono fun u b ⟨⟨h1, h2⟩, n⟩ => Dp.reads I b.2 b.1 u (h2.dp (K := X.K) n) h1
    have el : (xs.zip ds).length = ds.length := by
      have := congrArg List.length ez
      rw [List.length_map] at this
      exact this
    have hu2 : ∀ b : V × D, b ∈ xs.zip ds → X.A.units + 2 + (b.2).depth < cLine := fun b hb => by
      have hm : b.2 ∈ ds := by rw [← ez]; exact List.mem_map.mpr ⟨b, hb, rfl⟩
      have := hdp _ hm
      omega
    have fin : ∀ out : List Value, out.length = (xs.zip ds).length → PySem.W.EachIs (fun u (b : V × D) => RelV b.1 u ∧ Rp F H b.1 b.2) out ((xs.zip ds).mergeSort (PySem.W.dataLe false fun b : V × D => b.2)) → EP X pins σ Q (.ref (s.heap.objs.size + 1)) { s with heap := PyProof.Rows.sortedAll s.heap its (List.toArray out) } := fun out ho2 eo => by
      obtain ⟨ep, he'⟩ := PyProof.Rows.sortedAll_at s.heap its (List.toArray out)
      obtain ⟨vo, ro⟩ := each_back eo
      have es : ((xs.zip ds).mergeSort (PySem.W.dataLe false fun b : V × D => b.2)).map Prod.snd = sortD ds := by
        rw [sortD_is, PySem.W.sort_maps (r := PySem.W.dataLe false fun b : V × D => b.2) (s := leS) (f := Prod.snd) fun a _ b _ => rfl, ez]
      rw [es] at ro
      have hzs : (((xs.zip ds).mergeSort (PySem.W.dataLe false fun b : V × D => b.2)).map Prod.fst).length ≤ sizeLine := by
        rw [List.length_map, List.length_mergeSort, el, sizeLine_eq]
        exact hlen
      exact ⟨.ref _, upd H (s.heap.objs.size + 1) (.lst _), I.laid (t' := s.toks) (fun _ _ => PyProof.Rows.sortedAll_old) (Nat.le_succ _) ⟨hzs, out, by simpa using ep, vo, he'⟩, rfl, q _ _ ro hzs (I.hok.fresh (Nat.le_succ _))⟩
    have h1 : PySem.W.AllAlike ((xs.zip ds).map fun b : V × D => b.2) := by rw [show (xs.zip ds).map (fun b : V × D => b.2) = ds from ez]; exact hal
    have h2 : SortE ((xs.zip ds).map fun b : V × D => b.2) := by rw [show (xs.zip ds).map (fun b : V × D => b.2) = ds from ez]; exact hst
    have h3 : (xs.zip ds).length ≤ sizeLine := by rw [el, sizeLine_eq]; exact hlen
    rcases hl with hl | hl
    · exact sorted_edata (enc := fun b : V × D => b.2) (R := fun u (b : V × D) => RelV b.1 u ∧ Rp F H b.1 b.2) hl eb er h1 h2 h3 hu2 fin
    · exact sorted_tdata (enc := fun b : V × D => b.2) (R := fun u (b : V × D) => RelV b.1 u ∧ Rp F H b.1 b.2) hl eb er h1 h2 h3 hu2 fin
  rcases hd with rfl | rfl
  · obtain ⟨a, xs, rfl, ha, hz, rp⟩ := rb.list
    obtain ⟨its, rv, hl, _⟩ := I.list (SqL.of ha)
    rw [Vals.ref1 r]
    exact key xs a its rp rv (.inl hl.isList)
  · obtain ⟨a, xs, rfl, n, ha, hz, rp⟩ := (RpB.tup rb : ∃ a xs, v = .ref a ∧ ¬ F a ∧ H a = some (.tup xs) ∧ xs.length ≤ sizeLine ∧ Rps F H xs _)
    obtain ⟨its, rv, hl, _⟩ := I.tuple (SqT.of ha)
    rw [Vals.ref1 r]
    exact key xs a its rp rv (.inr hl)
end
section
variable {G : Gx} {W : Nat → Kd} {X : Cx} {pos p : Pos} {e : Expr} {m : E}
theorem sf_sorted (hu : X.A.units + 65 < cLine) (hg : Gl X "sorted") (hm : X.mg "sorted" = none) (hv : bootBuiltins "sorted" = some (.builtin "sorted")) (ha : PE X e (tB G W m)) (he : starEach [e] X.env = [(false, eval e X.env)]) : PE X (.Call (.Name "sorted" p) [e] [] pos) (tF G W (xSort m)) :=
  (pe_callB (cr_sortedD hu) hg hm hv (pa_one ha he) (by decide) rfl he rfl).weak fun σ H Q ⟨F, S, ρ, s, ok, p⟩ => tB.go ok p fun d s1 v H1 g1 ok1 r1 p1 => by
    obtain ⟨d', e', q⟩ := post_opt.mp p1
    unfold sortV at e'
    split at e'
    · rename_i ds
      by_cases h : sortOk ds = true
      · rw [if_pos h] at e'
        cases e'
        refine ⟨F, _, ds, v, rfl, .inl rfl, r1.b, h, fun zs p rz hz hp => ?_⟩
        have hp0 : H p = none := by
          cases e : H p with
          | none => rfl
          | some o => rw [g1 p o (fun f => ok1.live.new hp (ok.sub p f)) e] at hp; cases hp
        refine q _ _ (g1.trans (Grow.new hp).pres) (ok1.src.grow (.new hp)) hp0 (.inl ⟨_, _, rfl, upd_same, hz, ?_⟩)
        exact (rz.move fun b n f => f.elim (fun f => f) fun z => absurd hp (by rw [← z]; exact n)).pres (Grow.new hp).pres
      · rw [if_neg h] at e'
        cases e'
    · rename_i ds
      by_cases h : sortOk ds = true
      · rw [if_pos h] at e'
        cases e'
        refine ⟨F, _, ds, v, rfl, .inr rfl, r1.b, h, fun zs p rz hz hp => ?_⟩
        have hp0 : H p = none := by
          cases e : H p with
          | none => rfl
          | some o => rw [g1 p o (fun f => ok1.live.new hp (ok.sub p f)) e] at hp; cases hp
        refine q _ _ (g1.trans (Grow.new hp).pres) (ok1.src.grow (.new hp)) hp0 (.inl ⟨_, _, rfl, upd_same, hz, ?_⟩)
        exact (rz.move fun b n f => f.elim (fun f => f) fun z => absurd hp (by rw [← z]; exact n)).pres (Grow.new hp).pres
      · rw [if_neg h] at e'
        cases e'
    · cases e'
end
end BA

/-! BA26: return [own.pop(e) for .. in ..] -/
namespace BA
open PySem PySem.Spec
open PyProof.Rows
open L2 hiding St
def popAtD (x k : D) : Option (D × D) := match x, k with
  | .list xs, .int (.ofNat n) => match xs[n]? with
    | some y => some (y, .list (xs.eraseIdx n))
    | none => none
  | _, _ => none
theorem popAtD_some {x k : D} {r : D × D} (h : popAtD x k = some r) : ∃ xs n y, x = .list xs ∧ k = .int (Int.ofNat n) ∧ xs[n]? = some y ∧ r = (y, .list (xs.eraseIdx n)) := by
  unfold popAtD at h
  split at h
  · split at h
    · rename_i y e
      cases h
      exact ⟨_, _, y, rfl, rfl, e, rfl⟩
    · cases h
  · cases h
def popsM (vs : List Nat) (i : Nat) (g : G) (m : Rho → M D) : Rho → List D → M (List D)
  | _, [] => pur []
  | ρ, d :: ds => bnd (opt (g d ρ)) fun ρ1 => bnd (opt (getV ρ1 i)) fun l => bnd (m ρ1) fun k => bnd (opt (popAtD l k)) fun p => bnd (popsM vs i g m (blank (setV ρ1 i p.2) vs) ds) fun r => pur (p.1 :: r)
def sPops (vs : List Nat) (i : Nat) (it : Es) (g : G) (m : E) : BA.St := fun C ρ => bnd (it C ρ) fun ds => bnd (popsM vs i g (m C) (blank ρ vs) ds) fun r => pur (.ret (.list r))
theorem popsM_len {vs : List Nat} {i : Nat} {g : G} {m : Rho → M D} : True := trivial

section
variable {G : Gx} {W : Nat → Kd} {F0 : Addr → Prop} {H0 : Hp} {L : List ((Addr → Prop) × Hp)} {F : Addr → Prop} {S : SA} {σ : L2.St} {H : Hp} {ρ : Rho} {s : Src}
/-- the list under way gets other items -/
theorem Sat.writeD (h : Sat G W F0 H0 L F S σ H ρ s) {a : Addr} {xs ys : List V} (ha : F a) (hS : ¬ inS S a) (h0 : H0 a = none) (hH : H a = some (.lst ys)) (nO : ∀ j, W j = .own → σ[j]? ≠ some (some (.ref a))) :
    Sat G W F0 H0 L F S σ (upd H a (.lst xs)) ρ s := by
  have pr : Pres F H (upd H a (.lst xs)) := fun b o n e => by rw [upd_ne fun z => n (by rw [z]; exact ha)]; exact e
  refine ⟨⟨fun b f => ?_, h.ok.sub, ?_, fun j e hj => ?_, h.ok.len⟩, h.f0, ?_, fun j b wj q => upd_some (h.trk j b wj q), h.nf, h.dis, fun q hq => ⟨?_, (h.rf q hq).2⟩, h.liv⟩
  · by_cases e : b = a
    · subst e; rw [upd_same]; trivial
    · rw [upd_ne e]; exact h.ok.live b f
  · exact h.ok.src.upd hS hH trivial
  · obtain ⟨v, h1, h2⟩ := h.ok.slot j e hj
    refine ⟨v, h1, ?_⟩
    unfold Slot at *
    cases wj : W j with
    | dat => rw [wj] at h2; exact h2.pres pr
    | own =>
      rw [wj] at h2
      rcases h2 with ⟨b, rfl, f, nb, o⟩ | ⟨c, r⟩
      · exact .inl ⟨b, rfl, f, nb, o.pres pr (upd_ne fun z => nO j wj (by rw [← z]; exact h1))⟩
      · exact .inr ⟨c, r.pres pr⟩
    | fn => rw [wj] at h2; exact h2
    | src => rw [wj] at h2; exact h2
    | cel => rw [wj] at h2; exact h2
    | scr =>
      rw [wj] at h2
      exact ScrV.pres h2 fun a o u q => by rw [upd_ne (fun z => by rw [z, hH] at q; cases q)]; exact q
  · intro b o n e
    rw [upd_ne fun z => by rw [z, h0] at e; cases e]
    exact h.ent b o n e
  · intro b o n e
    rw [upd_ne fun z => by
      subst z
      rcases (h.rf q hq).2.1 _ ha with k | k
      · exact n k
      · rw [k] at e; cases e]
    exact (h.rf q hq).1 b o n e
end
theorem seqAt {n len : Nat} (h : n < len) : seqIndex? (Int.ofNat n) len = some n := by
  unfold seqIndex?
  simp
  omega
theorem Rps.eraseIdx {F : Addr → Prop} {H : Hp} : ∀ {xs : List V} {ds : List D} (n : Nat), Rps F H xs ds → Rps F H (xs.eraseIdx n) (ds.eraseIdx n)
  | _, _, _, .nil => .nil
  | _, _, 0, .cons _ t => t
  | _, _, n + 1, .cons r t => .cons r (Rps.eraseIdx n t)
section
variable {G : Gx} {W : Nat → Kd} {X : Cx}
theorem pops_of {K : PySem.W.Frag} {i : Nat} {it : Es} {g : BA.G} {m : E} {ts vs : List Nat} {D0 : Ends} {σ : L2.St} {H : Hp} (ht : ∀ j ∈ ts, j ∈ vs) (ho : ∀ j ∈ vs, W j = .dat) (hw : W i = .own) (q : tS G W (sPops vs i it g m) D0 σ H) :
    tRet (tLc (tI G W true it) (tG G W ts g) L2.tYes (tBM K "list" rPopAt (tVar i) (tCons (tE G W m) tNil)) vs) D0 σ H := by
    obtain ⟨F0, H0, L, F, S, ρ, s, sa, p⟩ := q
    unfold sPops at p
    rw [post_bnd] at p
    refine ⟨F, S, ρ, s, sa.ok, post_mono p fun ds s1 p1 J H1 g1 k1 Y D hD => ?_⟩
    have Y : Yl F F H1 J ds := Y
    rw [post_bnd] at p1
    have sa1 := (sa.step g1 k1).more
    have nF : ¬ F D := sa1.ok.live.new hD
    have nS : ¬ inS S D := fun f => nF (sa1.ok.sub D f)
    have h0D : H0 D = none := old_none sa1.ent nS hD
    have eD : ∀ j, W j = .own → σ[j]? ≠ some (some (.ref D)) := fun j wj q => sa1.trk j D wj q hD
    have own_wipe : ∀ {σ2 : L2.St} j, W j = .own → (wipe σ2 vs)[j]? = σ2[j]? := fun j wj => wipe_get fun z => by rw [ho j z] at wj; cases wj
    have saD : Sat G W F0 H0 ((F, H1) :: L) (fun a => F a ∨ a = D) S σ (upd H1 D (.lst [])) ρ s1 :=
      sa1.wide ⟨fun a f => .inl f, fun a f => f.elim .inl fun z => .inr (by rw [z]; exact hD), fun a f => by
        by_cases z : a = D
        · subst z; rw [upd_same]; trivial
        · rw [upd_ne z]; exact sa1.ok.live a (f.resolve_right z)⟩ (Grow.new hD).pres (sa1.ok.src.grow (.new hD))
    refine ⟨fun i' m' H' => m' = ds.length - i' ∧ i' ≤ ds.length ∧ ∃ ρ' s' acc es, Sat G W F0 H0 ((F, H1) :: L) (fun a => F a ∨ a = D) S (wipe σ vs) H' ρ' s' ∧ H' D = some (.lst acc) ∧ acc.length ≤ i' ∧ Rps (fun a => F a ∨ a = D) H' acc es ∧
      post (popsM vs i g (m G.C) ρ' (ds.drop i')) (fun r s' => AfS G W F0 H0 L S D0 (.ret (.list (es ++ r))) s') s', ⟨ds.length, by simp, Nat.zero_le _, blank ρ vs, s1, [], [], saD.slots (saD.ok.blank vs) (fun j wj => own_wipe j wj), upd_same, Nat.le_refl _, .nil, by rw [List.drop_zero]; exact p1⟩, ?_⟩
    clear p1 p saD
    rintro i' m' H2 ⟨rfl, hi', ρ2, s2, acc, es, sa2, hH2, hz2, ra2, p2⟩
    obtain ⟨pr, nw, _⟩ := sa2.rf (F, H1) List.mem_cons_self
    by_cases hlt : i' < ds.length
    · refine .inr ⟨Y.go i' hlt H2 pr, fun H' => i' + 1 ≤ ds.length ∧ ∃ ρ' s' acc es, Sat G W F0 H0 ((F, H1) :: L) (fun a => F a ∨ a = D) S (wipe σ vs) H' ρ' s' ∧ H' D = some (.lst acc) ∧ acc.length ≤ i' + 1 ∧ Rps (fun a => F a ∨ a = D) H' acc es ∧
        post (popsM vs i g (m G.C) ρ' (ds.drop (i' + 1))) (fun r s' => AfS G W F0 H0 L S D0 (.ret (.list (es ++ r))) s') s', fun H' h => ⟨ds.length - (i' + 1), by omega, rfl, h.1, h.2⟩, fun x' H3 y => ?_⟩
      rw [List.drop_eq_getElem_cons hlt] at p2
      unfold popsM at p2
      rw [post_bnd] at p2
      obtain ⟨ρ3, e3, p3⟩ := post_opt.mp p2
      obtain ⟨gr, rx⟩ := Y.yld i' ds[i'] (List.getElem?_eq_getElem hlt) (fun a => F a ∨ a = D) H2 x' H3 pr pr (fun a n f => f.elim (fun f => f) fun z => absurd hD (by rw [← z]; exact n)) sa2.ok.live y
      have sa3 := sa2.grow gr
      refine ⟨_, S, ρ2, s2, _, ρ3, sa3.ok, rx, e3, fun σ4 ok4 t4 => ⟨(t4.mono ht).wipe.trans (Touch.wipe ⟨wipe_length _ _, fun i n => wipe_get n⟩), ?_⟩⟩
      have sa4 := sa3.slots ok4 fun j wj => t4.2 j fun z => by rw [ho j (ht j z)] at wj; cases wj
      have hw4 : wipe σ4 vs = wipe σ vs := (t4.mono ht).wipe.trans (Touch.wipe ⟨wipe_length _ _, fun i n => wipe_get n⟩)
      have ra3 := ra2.pres (gr.pres (S := fun a => F a ∨ a = D))
      have hH3 : H3 D = some (.lst acc) := gr _ _ hH2
      rw [post_bnd] at p3
      obtain ⟨dl, eg, p4⟩ := post_opt.mp p3
      obtain ⟨a, xs, ds', rfl, hσ, f, n, hH, z, r⟩ := sa4.own hw eg fun n => post_dead (fun _ => by cases dl <;> first | rfl | exact (n _ rfl).elim) p4
      simp only [L2.tYes, ↓reduceIte]
      refine ⟨_, hσ, .inl ⟨rfl, _, SqL.of hH⟩, tE.go sa4.ok p4 fun dk s5 v H4 g4 ok5 r5 p5 => ?_⟩
      rw [post_bnd] at p5
      obtain ⟨pr2, ep, p6⟩ := post_opt.mp p5
      obtain ⟨xs', k', yd, e1, rfl, ey, rfl⟩ := popAtD_some ep
      cases e1
      rw [post_bnd] at p6
      have rH4 := r.pres (g4.mono sa4.ok.sub)
      obtain ⟨yv, hyv, ryv⟩ := rH4.get ey
      have hk' : k' < xs.length := by
        rw [r.len]
        exact (List.getElem?_eq_some_iff.mp ey).1
      have sa5 := sa4.step g4 ok5.src
      have haD : a ≠ D := fun q => by
        subst q
        have e5 : (wipe σ vs)[i]? = some (some (.ref a)) := by rw [← hw4, own_wipe i hw]; exact hσ
        rw [own_wipe i hw] at e5
        exact eD i hw e5
      have sa6 := sa5.write (xs := xs.eraseIdx k') (ds := ds'.eraseIdx k') hw eg hσ f n (by have := List.length_eraseIdx_le xs k'; omega) (rH4.eraseIdx k')
      have h4D : H4 D = some (.lst acc) := g4 _ _ nS hH3
      have h6D : (upd H4 a (.lst (xs.eraseIdx k'))) D = some (.lst acc) := by rw [upd_ne (Ne.symm haD)]; exact h4D
      have sa7 := sa6.writeD (a := D) (xs := acc ++ [yv]) (.inr rfl) nS h0D h6D fun j wj q => by
        have e5 : (wipe σ vs)[j]? = some (some (.ref D)) := by rw [← hw4, own_wipe j wj]; exact q
        rw [own_wipe j wj] at e5
        exact eD j wj e5
      have sa8 := sa7.slots (sa7.ok.blank vs) fun j wj => own_wipe j wj
      rw [hw4] at sa8
      have prA : Pres (fun b => F b ∨ b = D) H4 (upd (upd H4 a (.lst (xs.eraseIdx k'))) D (.lst (acc ++ [yv]))) := fun b o nb e => by
        rw [upd_ne fun q => nb (.inr q), upd_ne fun q => nb (by rw [q]; exact f)]
        exact e
      refine ⟨a, xs, (Int.ofNat k' : Int), k', yv, rfl, by cases r5; rfl, g4 _ _ n hH, by have : (0 : Int) ≤ Int.ofNat k' := Int.natCast_nonneg _; omega, ?_, seqAt hk', hyv, acc, h6D, by have := Y.sz; omega, ?_⟩
      · rw [sizeLine_eq] at z
        show ((k' : Nat) : Int) < 2 ^ 63
        omega
      · refine ⟨hlt, _, s5, acc ++ [yv], es ++ [yd], sa8, upd_same, by rw [List.length_append]; show _ + 1 ≤ _; omega, ((ra3.pres (g4.mono fun b q => .inl (sa1.ok.sub b q))).app (.cons ryv .nil)).pres prA, ?_⟩
        refine post_mono p6 fun r s6 h => ?_
        rw [List.append_assoc]
        exact h
    · have e : i' = ds.length := by omega
      subst e
      rw [List.drop_length] at p2
      have p2 : AfS G W F0 H0 L S D0 (.ret (.list (es ++ []))) s2 := p2
      rw [List.append_nil] at p2
      refine .inl ⟨Y.stop H2 pr, p2 (.ref D) H2 sa2.ent sa2.ok.src (.lst (sa.liv.new h0D) hH2 (by have := Y.sz; omega) (ra2.move fun b _ fb => .inl (sa.f0 b fb)))⟩
theorem ss_pops {i : Nat} {x : Str} {p0 apos cpos lpos spos : Pos} {tg e iter : Expr} {scope : Scope} {own : List (Str × Nat)} {it : Es} {g : BA.G} {m : E} {ts : List Nat} (hc : X.calm = true) (hN : X.N.Nodup) (ht : ∀ j ∈ ts, j ∈ own.map (·.2)) (ho : ∀ j ∈ own.map (·.2), W j = .dat) (hw : W i = .own)
    (hi : PI X tg iter (tI G W true it)) (ok : BlkOk X.N X.env.scope scope own)
    (hg : ∀ (s : Shared) (H : Hp) (C : Addr) (cl : List (Str × Addr)) (fp : List Addr), PG (X.blk s H scope (compEnvC scope cl C X.env) fp) tg (tG G W ts g))
    (hx : ∀ (s : Shared) (H : Hp) (C : Addr) (cl : List (Str × Addr)) (fp : List Addr), PE (X.blk s H scope (compEnvC scope cl C X.env) fp) (.Name x p0) (tVar i))
    (he : ∀ (s : Shared) (H : Hp) (C : Addr) (cl : List (Str × Addr)) (fp : List Addr), PE (X.blk s H scope (compEnvC scope cl C X.env) fp) e (tE G W m))
    (hst : ∀ (s : Shared) (H : Hp) (C : Addr) (cl : List (Str × Addr)) (fp : List Addr), starEach [e] (X.blk s H scope (compEnvC scope cl C X.env) fp).env = [(false, eval e (X.blk s H scope (compEnvC scope cl C X.env) fp).env)])
    (hbase : ∀ (s : Shared) (H : Hp) (C : Addr) (cl : List (Str × Addr)) (fp : List Addr), attributeBase (.Name x p0) "pop" (X.blk s H scope (compEnvC scope cl C X.env) fp).env (eval (.Name x p0) (X.blk s H scope (compEnvC scope cl C X.env) fp).env) = eval (.Name x p0) (X.blk s H scope (compEnvC scope cl C X.env) fp).env)
    (hfew : ∀ (s : Shared) (H : Hp) (C : Addr) (cl : List (Str × Addr)) (fp : List Addr), ((backTo cpos (starEach [e] (X.blk s H scope (compEnvC scope cl C X.env) fp).env)).all (fun x => !x.1) && (backToKw cpos (keywordEach [] (X.blk s H scope (compEnvC scope cl C X.env) fp).env)).all (fun x => x.1.isSome)
      && decide ([e].length + ([] : List Keyword).length + (if ([] : List Keyword).isEmpty then 0 else 1) < 30)) = true)
    (hline : (apos.endLine == cpos.line) = true)
    (hs : ∀ x, foldedSetIterable iter X.env x = pure x) : PS X (.Return (some (.ListComp (.Call (.Attribute (.Name x p0) "pop" apos) [e] [] cpos) [⟨tg, iter, [], 0⟩] scope lpos)) spos) (tS G W (sPops (own.map (·.2)) i it g m)) :=
  (ps_ret (pe_lc hc hN hi ok hg (fun s H C cl fp => pts_nil) (fun s H C cl fp => (pe_bm PySem.F.plainAttrs_list PySem.F.slot_list_pop PySem.F.type_list_pop mt_popAt (hx s H C cl fp) (pa_one (he s H C cl fp) (hst s H C cl fp)) (hbase s H C cl fp) (hfew s H C cl fp) hline (hst s H C cl fp) rfl : PE (X.blk s H scope (compEnvC scope cl C X.env) fp) _ (tBM X.K "list" rPopAt (tVar i) (tCons (tE G W m) tNil)))) hs)).weak fun D0 σ H q => pops_of ht ho hw q
end
section
variable {G : Gx} {W : Nat → Kd} {X : Cx} {tg e iter : Expr} {me : Es} {g : BA.G} {ts : List Nat} {m : E} {x : Str} {p p0 apos cpos lpos pos : Pos} {scope : Scope}
theorem pops_ (i : Nat) (own : List (Str × Nat)) (hN : X.N.Nodup) (hi : PI X tg iter (tI G W true me))
    (hg : ∀ (s : Shared) (H : Hp) (C : Addr) (cl : List (Str × Addr)) (fp : List Addr), PG (X.blk s H scope (compEnvC scope cl C X.env) fp) tg (tG G W ts g))
    (he : ∀ (s : Shared) (H : Hp) (C : Addr) (cl : List (Str × Addr)) (fp : List Addr), PE (X.blk s H scope (compEnvC scope cl C X.env) fp) e (tE G W m))
    (hx : ∀ (s : Shared) (H : Hp) (C : Addr) (cl : List (Str × Addr)) (fp : List Addr), PE (X.blk s H scope (compEnvC scope cl C X.env) fp) (.Name x p0) (tVar i) := by intro _ _ _ _ _; exact pe_var rfl (by first | exact Or.inl rfl | exact Or.inr (Or.inl rfl) | exact Or.inr (Or.inr rfl)) (by decide) (by decide))
    (hst : ∀ (s : Shared) (H : Hp) (C : Addr) (cl : List (Str × Addr)) (fp : List Addr), starEach [e] (X.blk s H scope (compEnvC scope cl C X.env) fp).env = [(false, eval e (X.blk s H scope (compEnvC scope cl C X.env) fp).env)] := by intro _ _ _ _ _; rfl)
    (hbase : ∀ (s : Shared) (H : Hp) (C : Addr) (cl : List (Str × Addr)) (fp : List Addr), attributeBase (.Name x p0) "pop" (X.blk s H scope (compEnvC scope cl C X.env) fp).env (eval (.Name x p0) (X.blk s H scope (compEnvC scope cl C X.env) fp).env) = eval (.Name x p0) (X.blk s H scope (compEnvC scope cl C X.env) fp).env := by intro _ _ _ _ _; rfl)
    (hfew : ∀ (s : Shared) (H : Hp) (C : Addr) (cl : List (Str × Addr)) (fp : List Addr), ((backTo cpos (starEach [e] (X.blk s H scope (compEnvC scope cl C X.env) fp).env)).all (fun x => !x.1) && (backToKw cpos (keywordEach [] (X.blk s H scope (compEnvC scope cl C X.env) fp).env)).all (fun x => x.1.isSome)
      && decide ([e].length + ([] : List Keyword).length + (if ([] : List Keyword).isEmpty then 0 else 1) < 30)) = true := by intro _ _ _ _ _; rfl)
    (hc : X.calm = true := by rfl) (ht : ∀ j ∈ ts, j ∈ own.map (·.2) := by decide) (ho : ∀ j ∈ own.map (·.2), W j = .dat := by decide) (hw : W i = .own := by rfl) (ok : blkC X.N X.env.scope scope own = true := by rfl)
    (hline : (apos.endLine == cpos.line) = true := by rfl) (hs : ∀ x, foldedSetIterable iter X.env x = pure x := by intro _; rfl) :
    PS X (.Return (some (.ListComp (.Call (.Attribute (.Name x p0) "pop" apos) [e] [] cpos) [⟨tg, iter, [], 0⟩] scope lpos)) pos) (tS G W (sPops (own.map (·.2)) i me g m)) :=
  ss_pops hc hN ht ho hw hi (blkOk_by ok) hg hx he hst hbase hfew hline hs
theorem so_ (hu : X.A.units + 65 < cLine) (hm : X.mg "sorted" = none) (ha : PE X e (tB G W m)) (hg : Gl X "sorted" := by rfl) (hv : bootBuiltins "sorted" = some (.builtin "sorted") := by decide +kernel) (he : starEach [e] X.env = [(false, eval e X.env)] := by rfl) :
    PE X (.Call (.Name "sorted" p) [e] [] pos) (tF G W (xSort m)) := sf_sorted hu hg hm hv ha he
end
end BA

/-! BA27: list(range(..)), tuple(range(..)) -/
namespace BA
open PySem PySem.Spec
open PyProof.Rows
open L2 hiding St
def xLR (it : Es) : E := fun C ρ => bnd (it C ρ) fun ds => pur (.list ds)
def xTR (it : Es) : E := fun C ρ => bnd (it C ρ) fun ds => pur (.tuple ds)
theorem rgV_rps {F : Addr → Prop} {H : Hp} (a b : Int) : Rps F H (rgV a b) (rangeL a b) := by
  unfold rgV rangeL
  generalize List.range (b - a).toNat = l
  induction l with
  | nil => exact .nil
  | cons x r ih => exact .cons (.int _) ih
theorem lr1_eq {ma : E} {C : Calls} {ρ : Rho} : xLR (iRange ma) C ρ = bnd (ma C ρ) fun x => bnd (opt (asI x)) fun n => if rg1 n then pur (PyData.list (rangeL 0 n)) else bad := by
  unfold xLR iRange
  simp only [bnd_assoc]
  refine congrArg (bnd _) (funext fun x => congrArg (bnd _) (funext fun n => ?_))
  by_cases h : rg1 n = true
  · rw [if_pos h, if_pos h]; rfl
  · rw [if_neg h, if_neg h]; rfl
theorem lr2_eq {ma mb : E} {C : Calls} {ρ : Rho} : xLR (iRange2 ma mb) C ρ = bnd (ma C ρ) fun x => bnd (mb C ρ) fun y => bnd (opt (asI x)) fun i => bnd (opt (asI y)) fun j => if rgOk i j then pur (PyData.list (rangeL i j)) else bad := by
  unfold xLR iRange2
  simp only [bnd_assoc]
  refine congrArg (bnd _) (funext fun x => congrArg (bnd _) (funext fun y => congrArg (bnd _) (funext fun i => congrArg (bnd _) (funext fun j => ?_))))
  by_cases h : rgOk i j = true
  · rw [if_pos h, if_pos h]; rfl
  · rw [if_neg h, if_neg h]; rfl
theorem tr1_eq {ma : E} {C : Calls} {ρ : Rho} : xTR (iRange ma) C ρ = bnd (ma C ρ) fun x => bnd (opt (asI x)) fun n => if rg1 n then pur (PyData.tuple (rangeL 0 n)) else bad := by
  unfold xTR iRange
  simp only [bnd_assoc]
  refine congrArg (bnd _) (funext fun x => congrArg (bnd _) (funext fun n => ?_))
  by_cases h : rg1 n = true
  · rw [if_pos h, if_pos h]; rfl
  · rw [if_neg h, if_neg h]; rfl
theorem tr2_eq {ma mb : E} {C : Calls} {ρ : Rho} : xTR (iRange2 ma mb) C ρ = bnd (ma C ρ) fun x => bnd (mb C ρ) fun y => bnd (opt (asI x)) fun i => bnd (opt (asI y)) fun j => if rgOk i j then pur (PyData.tuple (rangeL i j)) else bad := by
  unfold xTR iRange2
  simp only [bnd_assoc]
  refine congrArg (bnd _) (funext fun x => congrArg (bnd _) (funext fun y => congrArg (bnd _) (funext fun i => congrArg (bnd _) (funext fun j => ?_))))
  by_cases h : rgOk i j = true
  · rw [if_pos h, if_pos h]; rfl
  · rw [if_neg h, if_neg h]; rfl
section
variable {G : Gx} {W : Nat → Kd} {X : Cx} {a b : Expr} {ma mb : E} {p p2 pos : Pos}
theorem list_rg {F : Addr → Prop} {S : SA} {σ : L2.St} {H H1 : Hp} {ρ : Rho} {s s1 : Src} {Q : VK} {i j : Int} (ok : Ok G W F S σ H ρ s) (ok1 : Ok G W F S σ H1 ρ s1) (g1 : Pres (inS S) H H1) (hl : j - i ≤ 16777216)
    (q : ∀ a H', Pres (inS S) H H' → SrcOk S H' s1 → H a = none → Own (fun b => F b ∨ b = a) H' a (.list (rangeL i j)) → Q (.ref a) H') : ∀ p, H1 p = none → Q (.ref p) (upd H1 p (.lst (rgV i j))) := fun p hp => by
  have hp0 : H p = none := by
    cases e : H p with
    | none => rfl
    | some o => rw [g1 p o (fun f => ok1.live.new hp (ok.sub p f)) e] at hp; cases hp
  exact q _ _ (g1.trans (Grow.new hp).pres) (ok1.src.grow (.new hp)) hp0 (.inl ⟨_, _, rfl, upd_same, by rw [rgV_length, sizeLine_eq]; omega, rgV_rps _ _⟩)
theorem tup_rg {F : Addr → Prop} {S : SA} {σ : L2.St} {H H1 : Hp} {ρ : Rho} {s s1 : Src} {Q : VK} {i j : Int} (ok : Ok G W F S σ H ρ s) (ok1 : Ok G W F S σ H1 ρ s1) (g1 : Pres (inS S) H H1) (hl : j - i ≤ 16777216)
    (q : ∀ v H', Pres (inS S) H H' → SrcOk S H' s1 → Rp F H' v (.tuple (rangeL i j)) → Q v H') : ∀ p, H1 p = none → Q (.ref p) (upd H1 p (.tup (rgV i j))) := fun p hp => by
  exact q _ _ (g1.trans (Grow.new hp).pres) (ok1.src.grow (.new hp)) (.tup (ok1.live.new hp) upd_same (by rw [rgV_length, sizeLine_eq]; omega) (rgV_rps _ _))
theorem lr1_ (hml : X.mg "list" = none) (hmr : X.mg "range" = none) (ha : PE X a (tB G W ma)) (hc : X.calm = true := by rfl) (hg : Gl X "list" := by rfl) (hgr : Gl X "range" := by rfl) (na : starEach [a] X.env = (false, eval a X.env) :: starEach [] X.env := by rfl)
    (nr : starEach [.Call (.Name "range" p) [a] [] pos] X.env = (false, eval (.Call (.Name "range" p) [a] [] pos) X.env) :: starEach [] X.env := by rfl) {pos2 : Pos} :
    PE X (.Call (.Name "list" p2) [.Call (.Name "range" p) [a] [] pos] [] pos2) (tF G W (xLR (iRange ma))) :=
  (pe_listRg hc hg hml (prg_1 hgr hmr ha na) nr).weak fun σ H Q ⟨F, S, ρ, s, ok, pp⟩ => tB.go (f := fun x => bnd (opt (asI x)) fun n => if rg1 n then pur (PyData.list (rangeL 0 n)) else bad) ok (lr1_eq ▸ pp) fun d s1 v H1 g1 ok1 r1 p1 => by
    rw [post_bnd] at p1
    obtain ⟨n, e, q⟩ := post_opt.mp p1
    cases asI_some e
    by_cases hn : rg1 n = true
    · rw [if_pos hn] at q
      have hn := rg1_iff.mp hn
      exact ⟨n, by rw [r1.b.int], ⟨by omega, by omega, hn.1, by omega, by omega⟩, list_rg ok ok1 g1 (by omega) q⟩
    · rw [if_neg hn] at q
      exact False.elim q
theorem tr1_ (hml : X.mg "tuple" = none) (hmr : X.mg "range" = none) (ha : PE X a (tB G W ma)) (hc : X.calm = true := by rfl) (hg : Gl X "tuple" := by rfl) (hgr : Gl X "range" := by rfl) (na : starEach [a] X.env = (false, eval a X.env) :: starEach [] X.env := by rfl)
    (nr : starEach [.Call (.Name "range" p) [a] [] pos] X.env = (false, eval (.Call (.Name "range" p) [a] [] pos) X.env) :: starEach [] X.env := by rfl) {pos2 : Pos} :
    PE X (.Call (.Name "tuple" p2) [.Call (.Name "range" p) [a] [] pos] [] pos2) (tE G W (xTR (iRange ma))) :=
  (pe_tupRg hc hg hml (prg_1 hgr hmr ha na) nr).weak fun σ H Q ⟨F, S, ρ, s, ok, pp⟩ => tB.go (f := fun x => bnd (opt (asI x)) fun n => if rg1 n then pur (PyData.tuple (rangeL 0 n)) else bad) ok (tr1_eq ▸ pp) fun d s1 v H1 g1 ok1 r1 p1 => by
    rw [post_bnd] at p1
    obtain ⟨n, e, q⟩ := post_opt.mp p1
    cases asI_some e
    by_cases hn : rg1 n = true
    · rw [if_pos hn] at q
      have hn := rg1_iff.mp hn
      exact ⟨n, by rw [r1.b.int], ⟨by omega, by omega, hn.1, by omega, by omega⟩, tup_rg ok ok1 g1 (by omega) q⟩
    · rw [if_neg hn] at q
      exact False.elim q
theorem ext_rg {it : Es} {C : Calls} {ρ : Rho} : True := trivial
theorem lr2_ (hml : X.mg "list" = none) (hmr : X.mg "range" = none) (ha : PE X a (tB G W ma)) (hb : PE X b (tB G W mb)) (hc : X.calm = true := by rfl) (hg : Gl X "list" := by rfl) (hgr : Gl X "range" := by rfl) (na : starEach [a, b] X.env = (false, eval a X.env) :: starEach [b] X.env := by rfl)
    (nb : starEach [b] X.env = (false, eval b X.env) :: starEach [] X.env := by rfl) (hp : (backTo pos (starEach [b] X.env)).any (·.1) = false := by rfl)
    (nr : starEach [.Call (.Name "range" p) [a, b] [] pos] X.env = (false, eval (.Call (.Name "range" p) [a, b] [] pos) X.env) :: starEach [] X.env := by rfl) {pos2 : Pos} :
    PE X (.Call (.Name "list" p2) [.Call (.Name "range" p) [a, b] [] pos] [] pos2) (tF G W (xLR (iRange2 ma mb))) :=
  (pe_listRg hc hg hml (prg_2 hgr hmr ha hb na nb hp) nr).weak fun σ H Q ⟨F, S, ρ, s, ok, pp⟩ => tB.go (f := fun x => bnd (mb G.C ρ) fun y => bnd (opt (asI x)) fun i => bnd (opt (asI y)) fun j => if rgOk i j then pur (PyData.list (rangeL i j)) else bad) ok (lr2_eq ▸ pp) fun d s1 v H1 g1 ok1 r1 p1 => tB.go ok1 p1 fun d2 s2 v2 H2 g2 ok2 r2 p2 => by
    rw [post_bnd] at p2
    obtain ⟨i, e, q0⟩ := post_opt.mp p2
    rw [post_bnd] at q0
    obtain ⟨j, e2, q⟩ := post_opt.mp q0
    cases asI_some e
    cases asI_some e2
    by_cases hn : rgOk i j = true
    · rw [if_pos hn] at q
      have hn := rgOk_iff.mp hn
      exact ⟨i, j, by rw [r1.b.int], by rw [r2.b.int], ⟨hn.1, hn.2.1, hn.2.2.1, hn.2.2.2.1, by omega⟩, list_rg ok ok2 (g1.trans g2) (by omega) q⟩
    · rw [if_neg hn] at q
      exact False.elim q
theorem tr2_ (hml : X.mg "tuple" = none) (hmr : X.mg "range" = none) (ha : PE X a (tB G W ma)) (hb : PE X b (tB G W mb)) (hc : X.calm = true := by rfl) (hg : Gl X "tuple" := by rfl) (hgr : Gl X "range" := by rfl) (na : starEach [a, b] X.env = (false, eval a X.env) :: starEach [b] X.env := by rfl)
    (nb : starEach [b] X.env = (false, eval b X.env) :: starEach [] X.env := by rfl) (hp : (backTo pos (starEach [b] X.env)).any (·.1) = false := by rfl)
    (nr : starEach [.Call (.Name "range" p) [a, b] [] pos] X.env = (false, eval (.Call (.Name "range" p) [a, b] [] pos) X.env) :: starEach [] X.env := by rfl) {pos2 : Pos} :
    PE X (.Call (.Name "tuple" p2) [.Call (.Name "range" p) [a, b] [] pos] [] pos2) (tE G W (xTR (iRange2 ma mb))) :=
  (pe_tupRg hc hg hml (prg_2 hgr hmr ha hb na nb hp) nr).weak fun σ H Q ⟨F, S, ρ, s, ok, pp⟩ => tB.go (f := fun x => bnd (mb G.C ρ) fun y => bnd (opt (asI x)) fun i => bnd (opt (asI y)) fun j => if rgOk i j then pur (PyData.tuple (rangeL i j)) else bad) ok (tr2_eq ▸ pp) fun d s1 v H1 g1 ok1 r1 p1 => tB.go ok1 p1 fun d2 s2 v2 H2 g2 ok2 r2 p2 => by
    rw [post_bnd] at p2
    obtain ⟨i, e, q0⟩ := post_opt.mp p2
    rw [post_bnd] at q0
    obtain ⟨j, e2, q⟩ := post_opt.mp q0
    cases asI_some e
    cases asI_some e2
    by_cases hn : rgOk i j = true
    · rw [if_pos hn] at q
      have hn := rgOk_iff.mp hn
      exact ⟨i, j, by rw [r1.b.int], by rw [r2.b.int], ⟨hn.1, hn.2.1, hn.2.2.1, hn.2.2.2.1, by omega⟩, tup_rg ok ok2 (g1.trans g2) (by omega) q⟩
    · rw [if_neg hn] at q
      exact False.elim q
end
end BA

/-! BA28: names = a list -/
namespace BA
open PySem PySem.Spec
open PyProof.Rows
open L2 hiding St
def gLst (gs : Gs) : G := fun d ρ => match d with
  | .list xs => gs xs ρ
  | _ => none
theorem g_lst (gs : Gs) (xs : List D) (ρ : Rho) : gLst gs (.list xs) ρ = gs xs ρ := rfl
section
variable {G : Gx} {W : Nat → Kd} {X : Cx} {pos : Pos}
theorem gl_ {es : List Expr} {k : Nat} {vs : List Nat} {gs : Gs} (n : Nat) (h : PGs X es (tGs G W vs gs)) (hl : lenG gs n) (hc : X.calm = true := by rfl) (hn : (assignEach es X.env).length = n := by rfl) (hst : (assignEach es X.env).findIdx? (·.1) = none := by rfl) :
    PG X (.Tuple es k pos) (tG G W vs (BA.gLst gs)) := (pg_lst hc h hn hst).weak fun v σ H Q ⟨F, S, ρ, s, d, ρ', ok, rd, e, q⟩ => by
  unfold BA.gLst at e
  split at e
  · obtain ⟨a, xs, rfl, h1, z, r⟩ := (RpB.list (.inl rd) : ∃ a xs, v = .ref a ∧ H a = some (.lst xs) ∧ xs.length ≤ sizeLine ∧ Rps F H xs _)
    exact ⟨a, xs, rfl, SqL.of h1, by rw [r.len]; exact hl _ _ _ e, F, S, ρ, s, _, ρ', ok, r, e, q⟩
  · cases e
end
/-! the law, its source in a cell -/
section
variable {P : Program} {w : World} {K : PySem.W.Frag} {mg : Str → Option Value} {base : Heap} {n : Nat} {name qual : Str} {st : Stmt} {f : Addr} {fd : FuncData} {G : Gx}
theorem fn_lawC {T : Nat → Option Def} {sp : Nat → Option (List D → M D)} {fa : Nat → Option Addr} {W : Nat → Kd} {N : List Str} {i : Nat} {m : BA.St} {rest : List Stmt} {fs : Addr} {fds : FuncData} {xs ys : Str} {p0 p1 p2 p3 p4 : Pos}
    (F : Fun K name qual st f fd) (SC : FnScope N (["script"] : List Str) (defScope st)) (FS : FnG P w K mg base CX0 (n + 1) fs fds (["script"] : List Str) (spNew K)) (gs : mg ys = some (.ref fs)) (ks : PySem.W.keepIn K (.ref fs) = true) (bs : Binds K fds (["script"] : List Str) [])
    (hb : defBody st = .Assign [.Name xs p0] (.Call (.Name ys p1) [.Name "script" p2] [] p3) p4 :: rest) (hN0 : N[0]? = some ("script" : Str)) (hNi : N[i]? = some xs) (hi : i < N.length) (hi0 : 1 ≤ i) (hw : W i = .src) (hw0 : W 0 ≠ .own)
    (hdb : (ys == ("__debug__" : Str)) = false) (hk : (defScope st).kind = .function) (hglob : (defScope st).names.lookup ys = some .globalImplicit) (hscr : (defScope st).names.lookup ("script" : Str) = some .local) (hsrc : (defScope st).names.lookup xs = some .cell)
    {TT : List (Addr × Str)} (plain : ∀ s, Fresh s → post (m (callD T sp (n + 1)) (lawRho N.length i)) (fun f _ => f = .ret (.bool true)) s)
    (hbody : ∀ (cdv : Value) (A : Around) (outer : List PySem.Env) (s : Shared) (H : Hp) (E : XK), GRoom (n + 1) (A.deeper (envOfC qual (defScope st) s.heap.objs.size f cdv)) →
      PSs (cxOf CX0 P w K mg base N qual (defScope st) f cdv A outer s H E).nox rest (tS (gx P w K mg base fa T sp (n + 1) TT) W m)) : FnG P w K mg base CX0 (n + 2) f fd (["script"] : List Str) (spLaw K TT) := by
  obtain ⟨oc, od, kV, doc, pm, an, cdv, ct, osl, rfl, lk, hcd⟩ := F.ex
  refine fn_ofG lk hcd SC spLaw_len fun A outer s H vs Q E hr hsp2 => ?_
  obtain ⟨v, d, rfl, hS, hTT, hQ⟩ := hsp2
  have b := hbody cdv A outer s H E hr
  have hgl : Gl (cxOf CX0 P w K mg base N qual (defScope st) f cdv A outer s H E).nox ys := hglob
  have c := pe_callG (X := (cxOf CX0 P w K mg base N qual (defScope st) f cdv A outer s H E).nox) (x := ys) (p := p1) (pos := p3) (E := E0) FS hr hgl gs ks bs pass0
    (pa_one (pe_var (i := 0) (x := "script") (pos := p2) hN0 (.inl hscr) (by decide) (by decide)) rfl) hdb rfl rfl
  have all := pss_cons (ps_set (pos := p4) (pos' := p0) SC.nd hNi (.inr hsrc) c rfl (.inl rfl)) b
  rw [← hb] at all
  refine ⟨_, all.nox, ?_⟩
  generalize hD : ({ nx := fun _ H' => Q .non H', rt := Q } : Ends) = D
  refine ⟨v, rfl, ?_⟩
  refine ⟨v, d, rfl, hS, fun sr p q H' fr g hne hp hq h1 h2 => ?_⟩
  have hlen : (L2.start N [v]).length = N.length := by
    unfold L2.start
    simp only [List.length_append, List.length_map, List.length_replicate, List.length_cons, List.length_nil]
    omega
  refine law_start (G := gx P w K mg base fa T sp (n + 1) TT) (TT := TT) (fun x h => h) (hTT.1.ext g) hTT.2 (n := N.length) (p := p) (q := q) (s := sr) hlen hi hw (fun j wj => ?_) hne h1 h2 (plain sr fr) fun H2 => by rw [← hD]; exact hQ H2
  unfold L2.start
  cases j with
  | zero => exact absurd wj hw0
  | succ j =>
    simp only [List.map_cons, List.map_nil, List.cons_append, List.nil_append, List.getElem?_cons_succ, List.getElem?_replicate]
    split
    · exact .inl rfl
    · exact .inr rfl
end
end BA

/-! BA29: a tuple turned around: t[::-1] -/
namespace BA
open PySem PySem.Spec
open PyProof.Rows
open L2 hiding St
theorem back_adjust (n : Nat) : Builtin.Slice.sliceAdjust none none (-1) (n : Int) = ((n : Int) - 1, -1) := rfl
theorem back_places (n : Nat) : Builtin.Slice.slicePlaces ((n : Int) - 1) (-1) (-1) = n := by
  unfold Builtin.Slice.slicePlaces
  have neg : ¬ ((-1 : Int) > 0) := by decide
  rw [if_neg neg, show (-(-1) : Int) = 1 by decide, Int.ediv_one]
  split <;> omega
theorem back_pick (xs : Array Value) : ((List.range xs.size).filterMap fun (m : Nat) => xs[(((xs.size : Int) - 1) + (m : Int) * -1).toNat]?).toArray = xs.toList.reverse.toArray := by
  congr 1
  have h : (List.range xs.size).filterMap (fun (m : Nat) => xs[(((xs.size : Int) - 1) + (m : Int) * -1).toNat]?) = ((List.range xs.size).map fun k => xs.size - 1 - k).filterMap (xs[·]?) := by
    rw [List.filterMap_map]
    have : ∀ L : List Nat, (∀ m ∈ L, m < xs.size) → L.filterMap (fun (m : Nat) => xs[(((xs.size : Int) - 1) + (m : Int) * -1).toNat]?) = L.filterMap ((xs[·]?) ∘ fun k => xs.size - 1 - k) := by
      intro L
      induction L with
      | nil => intro _; rfl
      | cons a l ih =>
        intro hl
        have ha := hl a List.mem_cons_self
        rw [List.filterMap_cons, List.filterMap_cons, ih fun m hm => hl m (List.mem_cons_of_mem _ hm)]
        have e : (((xs.size : Int) - 1) + (a : Int) * -1).toNat = xs.size - 1 - a := by omega
        rw [e]
        rfl
    exact this _ fun m hm => List.mem_range.mp hm
  rw [h, PySem.W.krv_range, List.filterMap_reverse, PySem.W.krv_all]
section
variable {prog : Program} {w : World} {A : Around} {E : Value → Shared → Prop} {s : Shared}
theorem back_applied {sl : Addr} {vl vu vs : Value} {n : Nat} {Q : Int × Int × Nat → Shared → Prop} (hs : s.heap.IsSliceOf sl vl vu vs) (pl : IsPart vl none) (pu : IsPart vu none) (ps : IsPart vs (some (-1)))
    (h : Q ((n : Int) - 1, -1, n) s) : wpAny (model prog w) A (Builtin.Slice.sliceApplied (.ref sl) (pure (n : Int))) Q E s := by
  obtain ⟨o, g1, g2, g3⟩ := id hs
  cases pl
  cases pu
  obtain ⟨t, rfl⟩ : ∃ t, vs = .int (-1) t := by
    cases ps
    exact ⟨_, rfl⟩
  unfold Builtin.Slice.sliceApplied Builtin.Slice.sliceFields
  refine wpAny_bind (wpAny_bind (wpAny_field g1 g3 (x := .none) rfl (wpAny_bind (wpAny_field g1 g3 (x := .none) rfl (wpAny_bind (wpAny_field g1 g3 (x := .int (-1) t) rfl (wpAny_pure ?_)))))))
  refine wpAny_bind (HT.slicePart_ (.int _ _) ?_)
  show wpAny _ _ (if ((-1 : Int) == 0) = true then _ else _) _ _ _
  rw [if_neg (show ¬ ((-1 : Int) == 0) = true by decide)]
  refine wpAny_bind (HT.slicePart_ .none (wpAny_bind (HT.slicePart_ .none (wpAny_bind (wpAny_pure ?_)))))
  show wpAny _ _ (match Builtin.Slice.sliceAdjust none none (-1) (n : Int) with | (a, b) => pure (a, (-1 : Int), Builtin.Slice.slicePlaces a b (-1))) _ _ s
  rw [back_adjust]
  show wpAny _ _ (pure ((n : Int) - 1, (-1 : Int), Builtin.Slice.slicePlaces ((n : Int) - 1) (-1) (-1))) _ _ s
  rw [back_places]
  exact wpAny_pure h
theorem tup_back {t sl : Addr} {items : Array Value} {vl vu vs : Value} {Q : Value → Shared → Prop} (ht : IsTup s.heap t items) (hs : s.heap.IsSliceOf sl vl vu vs) (pl : IsPart vl none) (pu : IsPart vu none) (ps : IsPart vs (some (-1)))
    (hsz : items.size ≤ sizeLine) (h : Q (.ref s.heap.objs.size) { s with heap := s.heap.push { cls := .type "tuple", data := .seq items.toList.reverse.toArray } }) : wpAny (model prog w) A (getItem (.ref t) (.ref sl)) Q E s := by
  have size : sizeOk (.seq items.toList.reverse.toArray) := by
    show items.toList.reverse.toArray.size ≤ sizeLine
    rw [List.size_toArray, List.length_reverse, Array.length_toList]
    exact hsz
  have ty : s.TypeIs (.ref sl) "slice" := by
    obtain ⟨o, g1, g2, _⟩ := id hs
    exact ⟨o, g1, g2⟩
  unfold getItem
  try with_reducible refine wpAny_holding ?_
  first | refine wpAny_bind (wpAny_pure ?_) | skip
  refine wpAny_bind (wpAny_sequenceKey ht.typeIs (by decide) ?_)
  refine wpAny_bind (wpAny_callSpecial?_slot (name := Str.ofString "__getitem__") ht.typeIs PyProof.Rows.slot_tuple_getitem (wpAny_call_entry PyProof.Rows.slot_tuple_getitem ht.typeIs entry_tuple_getitem ?body (args_tuple_getitem _ _)))
  case body =>
    show wpAny _ _ (Builtin.Tuple.tupleItemsOf (.ref t) >>= _) _ _ s
    refine wpAny_bind (tupleItemsOf_ ht (wpAny_bind (wpAny_typeOf ty ?_)))
    rw [if_pos (by decide)]
    refine wpAny_bind (back_applied hs pl pu ps ?_)
    have no : ¬ ((((items.size : Int) - 1) == 0 && (-1 : Int) == 1 && items.size == items.size) = true) := by
      rw [show ((-1 : Int) == 1) = false by decide, Bool.and_false, Bool.false_and]
      exact Bool.false_ne_true
    show wpAny _ _ (if ((((items.size : Int) - 1) == 0 && (-1 : Int) == 1 && items.size == items.size) = true) then _ else _) _ _ s
    rw [if_neg no, back_pick]
    first
      | exact wpAny_bind (m := Builtin.Tuple.tupleExact _) (wpAny_newObj_type (wpAny_pure ⟨_, rfl, wpAny_pure h⟩) size)
      | exact wpAny_bind (m := Builtin.Tuple.tupleExact _) (wpAny_newObj_type (wpAny_bind (wpAny_pure (wpAny_pure ⟨_, rfl, wpAny_pure h⟩))) size)
      | exact wpAny_bind (wpAny_bind (m := Builtin.Tuple.tupleExact _) (wpAny_newObj_type (wpAny_pure (wpAny_pure ⟨_, rfl, wpAny_pure h⟩)) size))
      | exact wpAny_bind (wpAny_bind (m := Builtin.Tuple.tupleExact _) (wpAny_newObj_type (wpAny_pure ⟨_, rfl, wpAny_pure h⟩) size))
end
/-- a list or a tuple turned around: a new one of its sort -/
def revA (x : D) : Option D := match x with
  | .list xs => some (.list xs.reverse)
  | .tuple xs => some (.tuple xs.reverse)
  | _ => none
def xRevA (a : E) : E := fun C ρ => bnd (a C ρ) fun x => opt (revA x)
section
variable {X : Cx}
/-- what the reading of either gives -/
def tRevA (K : PySem.W.Frag) (te : TE) : TE := fun σ H Q => te σ H fun x H1 => ∃ a xs, x = .ref a ∧ ((SqL K H1 a xs ∧ ∀ p, H1 p = none → Q (.ref p) (upd H1 p (.lst xs.reverse))) ∨ (SqT K H1 a xs ∧ ∀ p, H1 p = none → Q (.ref p) (upd H1 p (.tup xs.reverse))))
theorem pe_revA {e : Expr} {te : TE} {k : Nat} {p1 p2 p3 pos : Pos} (he : PE X e te) : PE X (.Subscript e (.Slice none none (some (.UnaryOp .USub (.Constant (.int 1) k p1) p2)) p3) pos) (tRevA X.K te) := by
  constructor
  intro pins s σ H Q I h
  refine Subscript_ (thn (he.run pins s σ H _ I h) ?_)
  intro v s1 hv
  obtain ⟨x, H1, I1, r1, a, xs, ex, hx⟩ := hv
  subst ex
  cases r1
  have st : PO X (some (.UnaryOp .USub (.Constant (.int 1) k p1) p2)) (tPart (tUn (rU fun i => .int (-i)) (tC (.int 1)))) := po_some (pe_un un_neg pe_int)
  refine wpAny_Slice (thn (po_none.run pins s1 σ H1 (fun o H2 => o = none ∧ H2 = H1) I1 ⟨rfl, rfl⟩) ?_)
  intro vl s2 hl
  obtain ⟨l, H2, I2, pl, el, e2⟩ := hl
  subst el e2
  refine thn (po_none.run pins s2 σ H2 (fun o H3 => o = none ∧ H3 = H2) I2 ⟨rfl, rfl⟩) ?_
  intro vu s3 hu
  obtain ⟨u, H3, I3, pu, eu, e3⟩ := hu
  subst eu e3
  refine thn (st.run pins s3 σ H3 (fun o H4 => o = some (-1) ∧ H4 = H3) I3 ⟨1, rfl, -1, rfl, rfl, rfl⟩) ?_
  intro vs s4 h4
  obtain ⟨o, H4, I4, ps, eo, e4⟩ := h4
  subst eo e4
  have I5 : Inv X pins σ H4 { s4 with heap := s4.heap.push { cls := .type "slice", data := .fields #[vl, vu, vs] } } := I4.kept (t' := s4.toks) fun _ _ q => Heap.get?_push_of_some _ q
  rcases hx with ⟨hx, q⟩ | ⟨hx, q⟩
  · obtain ⟨its, r, ht, hz⟩ := I5.list hx
    have hn := r.length
    refine tail_any (ops := [.ref a, .ref s4.heap.objs.size]) ht.isList.typeIs (PySem.slot_list_getitem.lookup) ?_ (by with_unfolding_all rfl)
    refine wpAny_getItem_list_slice ht.isList (Heap.IsSliceOf.new _ vl vu vs) pl pu ps (by decide) ?_ (by rw [List.size_toArray]; omega)
    rw [PySem.W.krv_pick]
    refine ⟨.ref _, _, I5.laid (t' := s4.toks) (o := .lst xs.reverse) (fun _ _ q => Heap.get?_push_of_some _ q) (Nat.le_refl _) ?_, rfl, q _ (I5.hok.fresh (Nat.le_refl _))⟩
    exact ⟨by rw [List.length_reverse]; exact hz, _, 0, r.reverse, Heap.get?_push_size _ rfl⟩
  · obtain ⟨its, r, ht, hz⟩ := I5.tuple hx
    have hn := r.length
    refine tail_any (ops := [.ref a, .ref s4.heap.objs.size]) ht.typeIs (PyProof.Rows.slot_tuple_getitem.lookup) ?_ (by with_unfolding_all rfl)
    refine tup_back ht (Heap.IsSliceOf.new _ vl vu vs) pl pu ps (by rw [List.size_toArray]; omega) ?_
    refine ⟨.ref _, _, I5.laid (t' := s4.toks) (o := .tup xs.reverse) (fun _ _ q => Heap.get?_push_of_some _ q) (Nat.le_refl _) ?_, rfl, q _ (I5.hok.fresh (Nat.le_refl _))⟩
    exact ⟨by rw [List.length_reverse]; exact hz, _, r.reverse, IsTup.new _ _⟩
variable {G : Gx} {W : Nat → Kd}
theorem reva_ {a : Expr} {ma : E} {k : Nat} {p1 p2 p3 pos : Pos} (ha : PE X a (tB G W ma)) : PE X (.Subscript a (.Slice none none (some (.UnaryOp .USub (.Constant (.int 1) k p1) p2)) p3) pos) (tE G W (xRevA ma)) :=
  (pe_revA ha).weak fun σ H Q ⟨F, S, ρ, s, ok, p⟩ => tB.go ok p fun d s1 v H1 g1 ok1 r1 p1 => by
    obtain ⟨r, e, q⟩ := post_opt.mp p1
    unfold revA at e
    split at e
    · cases e
      obtain ⟨ad, xs, rfl, h, z, ra⟩ := r1.b.list
      refine ⟨ad, xs, rfl, .inl ⟨SqL.of h, fun p hp => ?_⟩⟩
      exact q _ _ (g1.trans (Grow.new hp).pres) (ok1.src.grow (.new hp)) (.newL ok1.live hp (by rw [List.length_reverse]; exact z) ra.rev)
    · cases e
      obtain ⟨ad, xs, rfl, n, h, z, ra⟩ := r1.b.tup
      refine ⟨ad, xs, rfl, .inr ⟨SqT.of h, fun p hp => ?_⟩⟩
      exact q _ _ (g1.trans (Grow.new hp).pres) (ok1.src.grow (.new hp)) (.newT ok1.live hp (by rw [List.length_reverse]; exact z) ra.rev)
    · cases e
end
theorem r_revA (a : E) (C : Calls) (ρ : Rho) : xRevA a C ρ = bnd (a C ρ) fun x => opt (revA x) := rfl
end BA

/-! BA30: dictionaries as data, what stands in the heap -/
namespace BA
open PySem PySem.Spec
open PyProof.Rows
open L2 hiding St

mutual
theorem free_hash (w w' : World) : ∀ d : D, kOk d = true → (keyN d).hash w = (keyN d).hash w'
  | .none, _ => by simp only [keyN, NestedKey.hash]
  | .bool b, _ => by simp only [keyN, NestedKey.hash]
  | .int i, _ => by simp only [keyN, NestedKey.hash]
  | .tuple xs, h => by
    simp only [kOk] at h
    simp only [keyN, NestedKey.hash, free_hashes w w' xs h]
  | .str _, h | .list _, h | .dict _, h => by simp [kOk] at h
theorem free_hashes (w w' : World) : ∀ ds : List D, kOks ds = true → NestedKey.hashes w (keyNs ds) = NestedKey.hashes w' (keyNs ds)
  | [], _ => by simp only [keyNs, NestedKey.hashes]
  | d :: ds, h => by
    simp only [kOks, Bool.and_eq_true] at h
    simp only [keyNs, NestedKey.hashes, free_hash w w' d h.1, free_hashes w w' ds h.2]
end
mutual
theorem keyN_depth : ∀ d : D, (keyN d).depth ≤ d.depth
  | .none | .bool _ | .int _ | .str _ => by simp only [keyN, NestedKey.depth]; exact Nat.zero_le _
  | .tuple xs => by simp only [keyN, NestedKey.depth, PyData.depth]; exact Nat.add_le_add_right (keyNs_depth xs) 1
  | .list _ | .dict _ => by simp only [keyN, NestedKey.depth]; exact Nat.zero_le _
theorem keyNs_depth : ∀ ds : List D, NestedKey.depthAll (keyNs ds) ≤ PyData.depthAll ds
  | [] => by simp only [keyNs, NestedKey.depthAll]; exact Nat.zero_le _
  | d :: ds => by
    simp only [keyNs, NestedKey.depthAll, PyData.depthAll]
    have h1 := keyN_depth d
    have h2 := keyNs_depth ds
    omega
end
section
variable {P : Program} {w : World} {F : Addr → Prop} {H : Hp} {h : Heap}
mutual
/-- what stands for a key's data is that key -/
theorem Rp.key (ok : HOk P w H h) : ∀ {v : V} {d : D} {u : Value}, Rp F H v d → kOk d = true → RelV v u → NestedIs h (keyN d) u
  | _, _, u, .non, _, r => by cases (show u = Value.none from r); simp only [keyN]; exact .none
  | _, _, u, .bl b, _, r => by cases (show u = Value.bool b from r); simp only [keyN]; exact .bool rfl
  | _, _, u, .int i, _, r => by
    obtain ⟨t, e⟩ := (show ∃ t, u = Value.int i t from r)
    subst e
    simp only [keyN]
    exact .int i t
  | _, _, u, .str x, k, _ => by simp [kOk] at k
  | _, _, u, .lst .., k, _ => by simp [kOk] at k
  | _, _, u, .dct .., k, _ => by simp [kOk] at k
  | _, _, u, .tup (a := a) (xs := xs) n e z t, k, r => by
    cases (show u = Value.ref a from r)
    obtain ⟨_, its, rv, o, h1, h2, m, h3⟩ := (show ObjOk P w H h a (.tup xs) from ok a _ e)
    simp only [kOk] at k
    simp only [keyN]
    exact .tup h1 h2 h3 (by simpa using Rps.keys ok t k rv)
theorem Rps.keys (ok : HOk P w H h) : ∀ {vs : List V} {ds : List D} {us : List Value}, Rps F H vs ds → kOks ds = true → Vals vs us → NestedAll h (keyNs ds) us
  | _, _, _, .nil, _, .nil => by simp only [keyNs]; exact .nil
  | _, _, _, .cons r t, k, .cons p q => by
    simp only [kOks, Bool.and_eq_true] at k
    simp only [keyNs]
    exact .cons (Rp.key ok r k.1 p) (Rps.keys ok t k.2 q)
end
theorem tupKey_some {d : D} (h : tupKey d = true) : kOk d = true ∧ d.depth ≤ 8 ∧ ∃ xs, d = .tuple xs := by
  cases d with
  | tuple xs =>
    unfold tupKey at h
    rw [Bool.and_eq_true] at h
    refine ⟨by simp only [kOk]; exact h.1, ?_, _, rfl⟩
    have := Nat.le_of_ble_eq_true h.2
    simp only [PyData.depth]
    omega
  | _ => cases h
theorem tupKey_is (ok : HOk P w H h) {v : V} {d : D} {u : Value} (r : Rp F H v d) (k : tupKey d = true) (rv : RelV v u) : ∃ b, v = .ref b ∧ u = .ref b ∧ (nestedKind P w).is h (keyN d) b := by
  obtain ⟨k1, k2, xs, rfl⟩ := tupKey_some k
  cases r with
  | tup n e z t =>
    rename_i a ys
    cases (show u = Value.ref a from rv)
    exact ⟨a, rfl, rfl, Rp.key ok (.tup n e z t) k1 rfl, Nat.le_trans (keyN_depth _) k2⟩
theorem intKey_some {d : D} (h : intKey d = true) : ∃ i, d = .int i := by
  cases d with
  | int i => exact ⟨i, rfl⟩
  | _ => cases h
/-- the two sorts -/
inductive KI : List D → List V → List (Int × Value) → Prop
  | nil : KI [] [] []
  | cons {i : Int} {v : V} {u : Value} {ds : List D} {vs : List V} {kvs : List (Int × Value)} : RelV v u → KI ds vs kvs → KI (.int i :: ds) (v :: vs) ((i, u) :: kvs)
inductive KX : List D → List V → List V → List (NestedKey × Addr × Value) → Prop
  | nil : KX [] [] [] []
  | cons {d : D} {b : Addr} {v : V} {u : Value} {ds : List D} {ks vs : List V} {xs : List (NestedKey × Addr × Value)} : tupKey d = true → RelV v u → KX ds ks vs xs → KX (d :: ds) (.ref b :: ks) (v :: vs) ((keyN d, b, u) :: xs)
theorem KI.keys : ∀ {ds : List D} {vs : List V} {kvs : List (Int × Value)}, KI ds vs kvs → ds = kvs.map fun p => .int p.1
  | _, _, _, .nil => rfl
  | _, _, _, .cons _ t => by rw [List.map_cons, ← t.keys]
theorem KX.keys : ∀ {ds : List D} {ks vs : List V} {xs : List (NestedKey × Addr × Value)}, KX ds ks vs xs → ds.map keyN = xs.map (·.1)
  | _, _, _, _, .nil => rfl
  | _, _, _, _, .cons _ _ t => by rw [List.map_cons, List.map_cons, t.keys]
theorem int_nodup {kvs : List (Int × Value)} (h : ((kvs.map fun p => PyData.int p.1).map keyN).Nodup) : (kvs.map (·.1)).Nodup := by
  rw [List.map_map] at h
  have e : kvs.map (keyN ∘ fun p => PyData.int p.1) = (kvs.map (·.1)).map NestedKey.num := by
    rw [List.map_map]
    apply List.map_congr_left
    intro p _
    simp only [Function.comp, keyN]
  rw [e] at h
  exact List.Pairwise.of_map _ (fun a b n e => n (by rw [e])) h
theorem Ent.viewI : ∀ {ds : List D} {ks vs : List V} {es : List DictEntry}, Ent ds ks vs es → Rps F H ks ds → ds.all intKey = true →
    ∃ kvs, KI ds vs kvs ∧ Pairs (intKind P w) es kvs ∧ ∀ e ∈ es, ∃ k, (intKind P w).is k e.key = true ∧ e.hash = (intKind P w).hash k
  | _, _, _, _, .nil, _, _ => ⟨[], .nil, .nil, fun e he => by cases he⟩
  | _, _, _, _, .cons (e := e) hh rk rv t, .cons p q, k => by
    rw [List.all_cons, Bool.and_eq_true] at k
    obtain ⟨i, rfl⟩ := intKey_some k.1
    obtain ⟨kvs, c1, c2, c3⟩ := t.viewI q k.2
    cases p
    obtain ⟨tk, ek⟩ := (show ∃ t, e.key = Value.int i t from rk)
    have is : (intKind P w).is i e.key = true := by
      rw [ek]
      show Value.isInt i (.int i tk) = true
      simp [Value.isInt]
    refine ⟨(i, e.val) :: kvs, .cons rv c1, .cons is rfl c2, fun e' he => ?_⟩
    rcases List.mem_cons.mp he with rfl | he
    · refine ⟨i, is, ?_⟩
      have := hh w
      simp only [keyN, NestedKey.hash] at this
      exact this
    · exact c3 e' he
theorem Ent.viewX (ok : HOk P w H h) : ∀ {ds : List D} {ks vs : List V} {es : List DictEntry}, Ent ds ks vs es → Rps F H ks ds → ds.all tupKey = true →
    ∃ xs, KX ds ks vs xs ∧ es = xs.map (entryOfKey (nestedKind P w)) ∧ ∀ x ∈ xs, (nestedKind P w).is h x.1 x.2.1
  | _, _, _, _, .nil, _, _ => ⟨[], .nil, rfl, fun e he => by cases he⟩
  | _, _, _, _, .cons (d := d) (e := e) hh rk rv t, .cons p q, k => by
    rw [List.all_cons, Bool.and_eq_true] at k
    obtain ⟨xs, c1, c2, c3⟩ := t.viewX ok q k.2
    obtain ⟨b, rfl, eb, is⟩ := tupKey_is ok p k.1 rk
    refine ⟨(keyN d, b, e.val) :: xs, .cons k.1 rv c1, ?_, fun x hx => ?_⟩
    · rw [List.map_cons, ← c2]
      congr 1
      obtain ⟨eh, ek, ev⟩ := e
      have eb : ek = Value.ref b := eb
      subst eb
      show DictEntry.mk eh (Value.ref b) ev = DictEntry.mk ((keyN d).hash w) (Value.ref b) ev
      rw [show eh = (keyN d).hash w from hh w]
    · rcases List.mem_cons.mp hx with rfl | hx
      · exact is
      · exact c3 x hx
theorem keysOk_some {ds : List D} (h : keysOk ds = true) : (ds.all intKey = true ∨ ds.all tupKey = true) ∧ (ds.map keyN).Nodup := by
  unfold keysOk at h
  rw [Bool.and_eq_true, Bool.or_eq_true, decide_eq_true_eq] at h
  exact h
theorem DRaw.viewI {a : Addr} {ds : List D} {ks vs : List V} (x : DRaw a ds ks vs h) (r : Rps F H ks ds) (k : ds.all intKey = true) (n : (ds.map keyN).Nodup) : ∃ kvs, KI ds vs kvs ∧ h.DictOf (intKind P w) a kvs := by
  obtain ⟨_, o, es, ep, h1, h2, h3, h4⟩ := x
  obtain ⟨kvs, c1, c2, c3⟩ := h4.viewI (P := P) (w := w) r k
  refine ⟨kvs, c1, o, es, ep, h1, h2, h3, fun e he => c3 e (by simpa using he), c2, int_nodup ?_⟩
  rw [← c1.keys]
  exact n
theorem DRaw.viewX (ok : HOk P w H h) {a : Addr} {ds : List D} {ks vs : List V} (x : DRaw a ds ks vs h) (r : Rps F H ks ds) (k : ds.all tupKey = true) (n : (ds.map keyN).Nodup) : ∃ xs, KX ds ks vs xs ∧ h.DictOfH (nestedKind P w) a xs := by
  obtain ⟨_, o, es, ep, h1, h2, h3, h4⟩ := x
  obtain ⟨xs, c1, c2, c3⟩ := h4.viewX ok r k
  exact ⟨xs, c1, o, es, ep, h1, h2, h3, c2, c3, by rw [← c1.keys]; exact n⟩
/-- and back -/
theorem KI.ent : ∀ {ds : List D} {vs : List V} {kvs : List (Int × Value)} {es : List DictEntry}, KI ds vs kvs → Pairs (intKind P w) es kvs → (∀ e ∈ es, ∃ k, (intKind P w).is k e.key = true ∧ e.hash = (intKind P w).hash k) → Ent ds (kvs.map fun p => .int p.1) vs es
  | _, _, _, _, .nil, .nil, _ => .nil
  | _, _, _, _, .cons (i := i) rv t, .cons (e := e) is ev q, c => by
    obtain ⟨k, h1, h2⟩ := c e List.mem_cons_self
    obtain ⟨tk, ek⟩ := Value.isInt_shape (show Value.isInt i e.key = true from is)
    have ei : k = i := (intKind P w).inj e.key k i h1 is
    subst ei
    refine .cons (fun w' => ?_) ⟨tk, ek⟩ (by rw [ev]; exact rv) (t.ent q fun e he => c e (List.mem_cons_of_mem _ he))
    simp only [keyN, NestedKey.hash]
    exact h2
theorem KX.ent : ∀ {ds : List D} {ks vs : List V} {xs : List (NestedKey × Addr × Value)}, KX ds ks vs xs → Ent ds ks vs (xs.map (entryOfKey (nestedKind P w)))
  | _, _, _, _, .nil => .nil
  | _, _, _, _, .cons (d := d) k rv t => by
    refine .cons (fun w' => ?_) rfl rv t.ent
    exact free_hash w w' d (tupKey_some k).1
theorem DRaw.ofI {a : Addr} {ds : List D} {vs : List V} {kvs : List (Int × Value)} (s : (a == sysModules) = false) (x : h.DictOf (intKind P w) a kvs) (c : KI ds vs kvs) : DRaw a ds (kvs.map fun p => .int p.1) vs h := by
  obtain ⟨o, es, ep, h1, h2, h3, h4, h5, _⟩ := x
  exact ⟨s, o, es, ep, h1, h2, h3, c.ent h5 fun e he => h4 e (by simpa using he)⟩
theorem DRaw.ofX {a : Addr} {ds : List D} {ks vs : List V} {xs : List (NestedKey × Addr × Value)} (s : (a == sysModules) = false) (x : h.DictOfH (nestedKind P w) a xs) (c : KX ds ks vs xs) : DRaw a ds ks vs h := by
  obtain ⟨o, es, ep, h1, h2, h3, h4, _⟩ := x
  exact ⟨s, o, es, ep, h1, h2, h3, by rw [h4]; exact c.ent⟩
end
end BA

/-! BA31: dictionaries as data, what their readings give -/
namespace BA
open PySem PySem.Spec
open PyProof.Rows
open L2 hiding St

def keyEq (a b : D) : Bool := decide (keyN a = keyN b)
def kvGet (l : List (D × D)) (k : D) : Option D := (l.find? fun p => keyEq p.1 k).map (·.2)
def kvPut (l : List (D × D)) (k d : D) : List (D × D) := if l.any (fun p => keyEq p.1 k) then l.map (fun p => if keyEq p.1 k then (p.1, d) else p) else l ++ [(k, d)]
/-- the key is of the keys' sort -/
def fitK (l : List (D × D)) (k : D) : Bool := (intKey k && l.all fun p => intKey p.1) || (tupKey k && l.all fun p => tupKey p.1)
section
variable {F : Addr → Prop} {H : Hp}
inductive RI (F : Addr → Prop) (H : Hp) : List (D × D) → List (Int × Value) → Prop
  | nil : RI F H [] []
  | cons {i : Int} {d : D} {v : V} {u : Value} {l : List (D × D)} {m : List (Int × Value)} : Rp F H v d → RelV v u → RI F H l m → RI F H ((.int i, d) :: l) ((i, u) :: m)
inductive RX (F : Addr → Prop) (H : Hp) : List (D × D) → List (NestedKey × Addr × Value) → Prop
  | nil : RX F H [] []
  | cons {k d : D} {b : Addr} {v : V} {u : Value} {l : List (D × D)} {m : List (NestedKey × Addr × Value)} : tupKey k = true → Rp F H (.ref b) k → Rp F H v d → RelV v u → RX F H l m → RX F H ((k, d) :: l) ((keyN k, b, u) :: m)
theorem RI.of : ∀ {ds es : List D} {vs : List V} {m : List (Int × Value)}, KI ds vs m → Rps F H vs es → RI F H (ds.zip es) m
  | _, _, _, _, .nil, .nil => .nil
  | _, _, _, _, .cons rv t, .cons r q => .cons r rv (RI.of t q)
theorem RX.of : ∀ {ds es : List D} {ks vs : List V} {m : List (NestedKey × Addr × Value)}, KX ds ks vs m → Rps F H ks ds → Rps F H vs es → RX F H (ds.zip es) m
  | _, _, _, _, _, .nil, .nil, .nil => .nil
  | _, _, _, _, _, .cons k rv t, .cons p q, .cons r s => .cons k p r rv (RX.of t q s)
theorem int_keys {l : List (D × D)} {m : List (Int × Value)} (r : RI F H l m) : l.map (·.1) = m.map fun p => .int p.1 := by
  induction r with
  | nil => rfl
  | cons _ _ _ ih => rw [List.map_cons, List.map_cons, ih]
theorem zip_self (l : List (D × D)) : l = (l.map (·.1)).zip (l.map (·.2)) := by
  induction l with
  | nil => rfl
  | cons p l ih => rw [List.map_cons, List.map_cons, List.zip_cons_cons, ← ih]
theorem RI.out : ∀ {l : List (D × D)} {m : List (Int × Value)}, RI F H l m → ∃ vs, KI (l.map (·.1)) vs m ∧ Rps F H vs (l.map (·.2)) ∧ Rps F H (m.map fun p => .int p.1) (l.map (·.1)) ∧ (l.map (·.1)).all intKey = true
  | _, _, .nil => ⟨[], .nil, .nil, .nil, rfl⟩
  | _, _, .cons r rv t => by
    obtain ⟨vs, c1, c2, c3, c4⟩ := t.out
    exact ⟨_, .cons rv c1, .cons r c2, .cons (.int _) c3, c4⟩
theorem RX.out : ∀ {l : List (D × D)} {m : List (NestedKey × Addr × Value)}, RX F H l m → ∃ ks vs, KX (l.map (·.1)) ks vs m ∧ Rps F H vs (l.map (·.2)) ∧ Rps F H ks (l.map (·.1)) ∧ (l.map (·.1)).all tupKey = true ∧ ks.length = m.length
  | _, _, .nil => ⟨[], [], .nil, .nil, .nil, rfl, rfl⟩
  | _, _, .cons k p r rv t => by
    obtain ⟨ks, vs, c1, c2, c3, c4, c5⟩ := t.out
    exact ⟨_, _, .cons k rv c1, .cons r c2, .cons p c3, by rw [List.map_cons, List.all_cons, k, c4]; rfl, by rw [List.length_cons, List.length_cons, c5]⟩
theorem eq_int (i j : Int) : keyEq (.int i) (.int j) = decide (i = j) :=
  decide_eq_decide.mpr ⟨fun e => NestedKey.num.inj (show NestedKey.num i = NestedKey.num j by simpa only [keyN] using e), fun e => by rw [e]⟩
theorem RI.any {l : List (D × D)} {m : List (Int × Value)} (r : RI F H l m) (i : Int) : l.any (fun p => keyEq p.1 (.int i)) = m.any fun kv => decide (kv.1 = i) := by
  induction r with
  | nil => rfl
  | cons _ _ _ ih => rw [List.any_cons, List.any_cons, ih, eq_int]
theorem RI.map {l : List (D × D)} {m : List (Int × Value)} (r : RI F H l m) (i : Int) {v : V} {d : D} {u : Value} (rd : Rp F H v d) (rv : RelV v u) : RI F H (l.map fun p => if keyEq p.1 (.int i) then (p.1, d) else p) (m.map fun kv => if kv.1 = i then (kv.1, u) else kv) := by
  induction r with
  | nil => exact .nil
  | cons a b _ ih =>
    rename_i j _ _ _ _ _ _
    rw [List.map_cons, List.map_cons]
    by_cases h : j = i
    · subst h
      rw [if_pos (by rw [eq_int]; exact decide_eq_true rfl), if_pos rfl]
      exact .cons rd rv ih
    · rw [if_neg (by rw [eq_int, decide_eq_false h]; exact Bool.false_ne_true), if_neg h]
      exact .cons a b ih
theorem RI.app {l l' : List (D × D)} {m m' : List (Int × Value)} (r : RI F H l m) (r' : RI F H l' m') : RI F H (l ++ l') (m ++ m') := by
  induction r with
  | nil => exact r'
  | cons a b _ ih => exact .cons a b ih
theorem RI.put {l : List (D × D)} {m : List (Int × Value)} (r : RI F H l m) (i : Int) {v : V} {d : D} {u : Value} (rd : Rp F H v d) (rv : RelV v u) : RI F H (kvPut l (.int i) d) (stored m i u) := by
  unfold kvPut stored
  rw [r.any i]
  split
  · exact r.map i rd rv
  · exact r.app (.cons rd rv .nil)
theorem RI.find {l : List (D × D)} {m : List (Int × Value)} (r : RI F H l m) (i : Int) : (kvGet l (.int i) = none ∧ valueAt m i = none) ∨ ∃ d v u, kvGet l (.int i) = some d ∧ valueAt m i = some u ∧ Rp F H v d ∧ RelV v u := by
  induction r with
  | nil => exact .inl ⟨rfl, rfl⟩
  | cons a b _ ih =>
    rename_i j _ _ _ _ _ _
    unfold kvGet valueAt at *
    rw [List.find?_cons, List.find?_cons, eq_int]
    by_cases h : j = i
    · subst h
      simp only [decide_true]
      exact .inr ⟨_, _, _, rfl, rfl, a, b⟩
    · simp only [h, decide_false]
      exact ih
theorem RX.atk {l : List (D × D)} {m : List (NestedKey × Addr × Value)} (r : RX F H l m) (k : D) : (kvGet l k = none ∧ atKey m (keyN k) = none) ∨ ∃ d v b u, kvGet l k = some d ∧ atKey m (keyN k) = some (b, u) ∧ Rp F H v d ∧ RelV v u := by
  induction r with
  | nil => exact .inl ⟨rfl, rfl⟩
  | cons hk p a b _ ih =>
    rename_i j _ _ _ _ _ _ _
    unfold kvGet atKey at *
    rw [List.find?_cons, List.find?_cons]
    unfold keyEq
    by_cases h : keyN j = keyN k
    · simp only [h, decide_true]
      exact .inr ⟨_, _, _, _, rfl, rfl, a, b⟩
    · simp only [h, decide_false]
      exact ih
theorem kvGet_any (l : List (D × D)) (k : D) : l.any (fun p => keyEq p.1 k) = (kvGet l k).isSome := by
  induction l with
  | nil => rfl
  | cons p l ih =>
    unfold kvGet at *
    rw [List.any_cons, List.find?_cons, ih]
    cases keyEq p.1 k <;> rfl
theorem RX.map {l : List (D × D)} {m : List (NestedKey × Addr × Value)} (r : RX F H l m) (k : D) {v : V} {d : D} {u : Value} (rd : Rp F H v d) (rv : RelV v u) : RX F H (l.map fun p => if keyEq p.1 k then (p.1, d) else p) (m.map (putAt (keyN k) u)) := by
  induction r with
  | nil => exact .nil
  | cons hk p a b _ ih =>
    rename_i j _ _ _ _ _ _ _
    rw [List.map_cons, List.map_cons]
    unfold putAt keyEq
    by_cases h : keyN j = keyN k
    · rw [if_pos (decide_eq_true h), if_pos h]
      exact .cons hk p rd rv ih
    · rw [if_neg (by rw [decide_eq_false h]; exact Bool.false_ne_true), if_neg h]
      exact .cons hk p a b ih
theorem RX.app {l l' : List (D × D)} {m m' : List (NestedKey × Addr × Value)} (r : RX F H l m) (r' : RX F H l' m') : RX F H (l ++ l') (m ++ m') := by
  induction r with
  | nil => exact r'
  | cons hk p a b _ ih => exact .cons hk p a b ih
theorem RX.put {l : List (D × D)} {m : List (NestedKey × Addr × Value)} (r : RX F H l m) {k : D} {b : Addr} (hk : tupKey k = true) (rk : Rp F H (.ref b) k) {v : V} {d : D} {u : Value} (rd : Rp F H v d) (rv : RelV v u) : RX F H (kvPut l k d) (storedH m (keyN k) b u) := by
  unfold kvPut storedH
  rw [kvGet_any]
  rcases r.atk k with ⟨h1, h2⟩ | ⟨_, _, _, _, h1, h2, _⟩
  · rw [h1, h2]
    exact r.app (.cons hk rk rd rv .nil)
  · rw [h1, h2]
    exact r.map k rd rv
/-! each key stands once -/
theorem put_keys (l : List (D × D)) (k d : D) (n : ((l.map (·.1)).map keyN).Nodup) : (((kvPut l k d).map (·.1)).map keyN).Nodup := by
  unfold kvPut
  split
  · have : (l.map fun p => if keyEq p.1 k then (p.1, d) else p).map (·.1) = l.map (·.1) := by
      rw [List.map_map]
      apply List.map_congr_left
      intro p _
      simp only [Function.comp]
      split <;> rfl
    rw [this]
    exact n
  · rename_i h
    rw [List.map_append, List.map_append, List.nodup_append]
    refine ⟨n, by simp, fun a ha b hb e => ?_⟩
    simp at hb
    subst hb
    subst e
    obtain ⟨p, hp, e⟩ := List.mem_map.mp ha
    obtain ⟨q, hq, rfl⟩ := List.mem_map.mp hp
    exact h (List.any_eq_true.mpr ⟨q, hq, decide_eq_true e⟩)
theorem put_len (l : List (D × D)) (k d : D) : (kvPut l k d).length ≤ l.length + 1 := by
  unfold kvPut
  split
  · rw [List.length_map]; omega
  · rw [List.length_append]; exact Nat.le_refl _
end
/-! the pairs of a list -/
def pairsD : List D → Option (List (D × D))
  | [] => some []
  | .tuple [k, v] :: r => (pairsD r).map ((k, v) :: ·)
  | _ :: _ => none
def mergeD (l ps : List (D × D)) : List (D × D) := ps.foldl (fun acc p => kvPut acc p.1 p.2) l
theorem merge_keys : ∀ (ps l : List (D × D)), ((l.map (·.1)).map keyN).Nodup → (((mergeD l ps).map (·.1)).map keyN).Nodup
  | [], l, h => h
  | p :: ps, l, h => merge_keys ps (kvPut l p.1 p.2) (put_keys l p.1 p.2 h)
theorem merge_len : ∀ (ps l : List (D × D)), (mergeD l ps).length ≤ l.length + ps.length
  | [], l => Nat.le_refl _
  | p :: ps, l => by
    have h1 := merge_len ps (kvPut l p.1 p.2)
    have h2 := put_len l p.1 p.2
    show (mergeD (kvPut l p.1 p.2) ps).length ≤ _
    rw [List.length_cons]
    omega
section
variable {F : Addr → Prop} {H : Hp}
theorem RI.merge {ps : List (D × D)} {m : List (Int × Value)} (r : RI F H ps m) : ∀ {l : List (D × D)} {n : List (Int × Value)}, RI F H l n → RI F H (mergeD l ps) (merged n m) := by
  induction r with
  | nil => intro l n h; exact h
  | cons a b _ ih => intro l n h; exact ih (h.put _ a b)
theorem RX.merge {ps : List (D × D)} {m : List (NestedKey × Addr × Value)} (r : RX F H ps m) : ∀ {l : List (D × D)} {n : List (NestedKey × Addr × Value)}, RX F H l n → RX F H (mergeD l ps) (storedAllH n m) := by
  induction r with
  | nil => intro l n h; exact h
  | cons hk p a b _ ih => intro l n h; exact ih (h.put hk p a b)
end
end BA

/-! BA32: {}, dict(..) of a list of pairs, len of a dictionary -/
namespace BA
open PySem PySem.Spec
open PyProof.Rows
open L2 hiding St

section
variable {X : Cx} {pins : List (Addr × Obj)} {σ : L2.St} {H : Hp} {s : Shared}
theorem at_dict (I : Inv X pins σ H s) {a : Addr} {ds : List D} {ks vs : List V} (h : H a = some (DO a ds ks vs)) : DRaw a ds ks vs s.heap :=
  (show ObjOk X.prog X.w H s.heap a (DO a ds ks vs) from I.hok a _ h).1
theorem ok_dict {H' : Hp} {h' : Heap} {a : Addr} {ds : List D} {ks vs : List V} (x : DRaw a ds ks vs h') : ObjOk X.prog X.w H' h' a (DO a ds ks vs) := by
  obtain ⟨n, o, es, ep, h1, c⟩ := id x
  exact ⟨x, ⟨o, h1⟩, DRaw.stay⟩
theorem zip_len {ds es : List D} (l : ds.length = es.length) : (ds.zip es).length = ds.length := by
  rw [List.length_zip, ← l, Nat.min_self]
/-- both sorts, with what stands in the heap -/
theorem view_dict (I : Inv X pins σ H s) {F : Addr → Prop} {a : Addr} {ds es : List D} {ks vs : List V} (h : H a = some (DO a ds ks vs)) (r : Rps F H ks ds) (r' : Rps F H vs es) (k : keysOk ds = true) :
    (ds.all intKey = true ∧ ∃ m, RI F H (ds.zip es) m ∧ s.heap.DictOf (PySem.intKind X.prog X.w) a m) ∨ (ds.all tupKey = true ∧ ∃ m, RX F H (ds.zip es) m ∧ s.heap.DictOfH (nestedKind X.prog X.w) a m) := by
  obtain ⟨k1, k2⟩ := keysOk_some k
  have x := at_dict I h
  rcases k1 with k1 | k1
  · obtain ⟨m, c, d⟩ := x.viewI (P := X.prog) (w := X.w) r k1 k2
    exact .inl ⟨k1, m, .of c r', d⟩
  · obtain ⟨m, c, d⟩ := x.viewX I.hok r k1 k2
    exact .inr ⟨k1, m, .of c r r', d⟩
theorem RI.len {F : Addr → Prop} {l : List (D × D)} {m : List (Int × Value)} (r : RI F H l m) : l.length = m.length := by
  induction r with
  | nil => rfl
  | cons _ _ _ ih => rw [List.length_cons, List.length_cons, ih]
theorem RX.len {F : Addr → Prop} {l : List (D × D)} {m : List (NestedKey × Addr × Value)} (r : RX F H l m) : l.length = m.length := by
  induction r with
  | nil => rfl
  | cons _ _ _ _ _ ih => rw [List.length_cons, List.length_cons, ih]
/-! {} -/
def xD0 : E := fun _ _ => pur (.dict [])
theorem raw_empty (h : Heap) (hb : sysModules < h.objs.size) : DRaw h.objs.size [] [] [] (h.push { cls := .type "dict", data := .dict #[] }) :=
  ⟨beq_eq_false_iff_ne.mpr (Ne.symm (Nat.ne_of_lt hb)), _, #[], 0, Heap.get?_push_size _ rfl, ⟨rfl, rfl, rfl⟩, rfl, .nil⟩
variable {G : Gx} {W : Nat → Kd} {pos : Pos}
theorem own_dict {F : Addr → Prop} {l : List (D × D)} {p : Addr} {ds : List D} {ks vs : List V} (n : H p = none) (e : ds = l.map (·.1)) (z : ks.length ≤ sizeLine) (r : Rps F H ks ds) (r' : Rps F H vs (l.map (·.2))) (k : keysOk ds = true) : Own (fun b => F b ∨ b = p) (upd H p (DO p ds ks vs)) p (.dict l) := by
  have mv : ∀ a, H a ≠ none → (F a ∨ a = p) → F a := fun a k f => f.elim (fun f => f) fun e => absurd n (by rw [← e]; exact k)
  refine .inr ⟨ks, vs, ds, l.map (·.2), ?_, upd_same, z, (r.move mv).pres (Grow.new n).pres, (r'.move mv).pres (Grow.new n).pres, k, ?_⟩
  · rw [e, ← zip_self]
  · rw [e, List.length_map, List.length_map]
theorem sf_d0 : PE X (.Dict [] [] pos) (tF G W xD0) := by
  refine ⟨fun pins s σ H Q I ⟨F, S, ρ, s0, ok, p⟩ => ?_⟩
  have hp := I.hok.fresh (Nat.le_refl s.heap.objs.size)
  exact wpAny_Dict_empty ⟨.ref s.heap.objs.size, _, I.laid (a := s.heap.objs.size) (o := DO _ [] [] []) (t' := s.toks) (fun _ _ q => Heap.get?_push_of_some _ q) (Nat.le_refl _) (ok_dict (raw_empty s.heap I.big)), rfl,
    p _ _ (Grow.new hp).pres (ok.src.grow (.new hp)) hp (own_dict (l := []) hp rfl (Nat.zero_le _) .nil .nil rfl)⟩
/-! len -/
def lenY (x : D) : Option D := match x with
  | .dict l => if szOk l.length then some (.int l.length) else none
  | x => prim .len [x]
def xLenY (a : E) : E := fun C ρ => bnd (a C ρ) fun x => opt (lenY x)
def rLenY : List V → Hp → VK → Prop := fun vs H Q => ∃ (F : Addr → Prop) (d r : D) (v : V), Live F H ∧ vs = [v] ∧ RpB F H v d ∧ lenY d = some r ∧ ∀ v H', Grow H H' → Rp F H' v r → Q v H'
theorem cr_lenY : CallR X (.builtin "len") rLenY := by
  intro pins s σ H vs us Q I r ⟨F, d, o, v, lv, e, rb, ho, q⟩
  subst e
  by_cases hd : ∃ l, d = .dict l
  · obtain ⟨l, rfl⟩ := hd
    obtain ⟨a, ks, us', ds, es, rfl, rfl, h, z, ra, rc, k, le⟩ := rb.dict
    unfold lenY at ho
    simp only at ho
    split at ho
    · rename_i hz
      cases ho
      rw [Vals.ref1 r]
      have hs := (at_dict I h).1
      have hz := szOk_le hz
      rw [sizeLine_eq] at hz
      rcases view_dict I h ra rc k with ⟨_, m, rm, x⟩ | ⟨_, m, rm, x⟩
      · have hl := rm.len
        refine call_len_dict hs x (by omega) ?_
        rw [← hl]
        exact ⟨.int _, H, I.tok _, ⟨_, rfl⟩, q _ _ (.refl _) (.int _)⟩
      · have hl := rm.len
        refine call_len_dictH hs x (by omega) ?_
        rw [← hl]
        exact ⟨.int _, H, I.tok _, ⟨_, rfl⟩, q _ _ (.refl _) (.int _)⟩
    · cases ho
  · have e : lenY d = prim .len [d] := by
      cases d <;> first | rfl | exact (hd ⟨_, rfl⟩).elim
    rw [e] at ho
    exact pr_len pins s σ H _ us Q I r ⟨F, [d], o, lv, .cons rb .nil, ho, q⟩
theorem lenY_ {p : Pos} {e : Expr} {m : E} (hm : X.mg "len" = none) (ha : PE X e (tB G W m)) (hg : Gl X "len" := by rfl) (hv : bootBuiltins "len" = some (.builtin "len") := by decide +kernel) (he : starEach [e] X.env = [(false, eval e X.env)] := by rfl) : PE X (.Call (.Name "len" p) [e] [] pos) (tE G W (xLenY m)) :=
  (pe_callB cr_lenY hg hm hv (pa_one ha he) (by decide) rfl he rfl).weak fun σ H Q ⟨F, S, ρ, s, ok, p⟩ => tB.go ok p fun d s1 v H1 g1 ok1 r1 p1 => by
    obtain ⟨r, e, q⟩ := post_opt.mp p1
    exact ⟨F, d, r, v, ok1.live, rfl, r1.b, e, fun v H' g rv => q v H' (g1.trans g.pres) (ok1.src.grow g) rv⟩
/-! dict(..) -/
def dictV (x : D) : Option D := match x with
  | .list ds => match pairsD ds with
    | some ps => if ((ps.all fun p => intKey p.1) || (ps.all fun p => tupKey p.1)) && szOk ds.length then some (.dict (mergeD [] ps)) else none
    | none => none
  | _ => none
def xDictOf (a : E) : E := fun C ρ => bnd (a C ρ) fun x => opt (dictV x)
/-- where the pairs lie -/
def tupsAt : List V → Nat → Addr
  | [], _ => 0
  | .ref T :: _, 0 => T
  | _ :: _, 0 => 0
  | _ :: r, j + 1 => tupsAt r j
theorem pairs_some {d : D} {ds : List D} {ps : List (D × D)} (h : pairsD (d :: ds) = some ps) : ∃ k v r, d = .tuple [k, v] ∧ pairsD ds = some r ∧ ps = (k, v) :: r := by
  unfold pairsD at h
  split at h
  · rename_i e
    cases e
  · rename_i k v r e
    cases e
    obtain ⟨r, h1, rfl⟩ := Option.map_eq_some_iff.mp h
    exact ⟨k, v, r, rfl, h1, rfl⟩
  · cases h
theorem pairs_view (I : Inv X pins σ H s) {F : Addr → Prop} : ∀ {xs : List V} {ds : List D} {ps : List (D × D)} {its : List Value}, Rps F H xs ds → pairsD ds = some ps → Vals xs its →
    ∃ pv : List (Value × Value), its.length = pv.length ∧ (∀ (j : Nat) (k v : Value), pv[j]? = some (k, v) → its[j]? = some (Value.ref (tupsAt xs j)) ∧ s.heap.IsTuple (tupsAt xs j) #[k, v]) ∧
      ((ps.all fun p => intKey p.1) = true → ∃ m, RI F H ps m ∧ m.length = pv.length ∧ ∀ (j : Nat) (k v : Value), pv[j]? = some (k, v) → ∃ i, m[j]? = some (i, v) ∧ (PySem.intKind X.prog X.w).is i k = true) ∧
      ((ps.all fun p => tupKey p.1) = true → ∃ m, RX F H ps m ∧ m.length = pv.length ∧ (∀ (j : Nat) (k v : Value), pv[j]? = some (k, v) → ∃ n b, m[j]? = some (n, b, v) ∧ k = Value.ref b) ∧ ∀ x ∈ m, (nestedKind X.prog X.w).is s.heap x.1 x.2.1)
  | [], [], ps, [], .nil, e, .nil => by
    cases e
    exact ⟨[], rfl, fun j k v h => by simp at h, fun _ => ⟨[], .nil, rfl, fun j k v h => by simp at h⟩, fun _ => ⟨[], .nil, rfl, fun j k v h => by simp at h, fun x hx => by cases hx⟩⟩
  | x :: xs, d :: ds, ps, it :: its, .cons r t, e, .cons ru tu => by
    obtain ⟨k, d2, ps', rfl, hp, rfl⟩ := pairs_some e
    obtain ⟨pv, c1, c2, c3, c4⟩ := pairs_view I t hp tu
    cases r with
    | tup n hT z q =>
      rename_i T ys
      cases q with
      | cons rk q =>
        rename_i kv ys
        cases q with
        | cons rv q =>
          rename_i vv ys
          cases q
          cases (show it = Value.ref T from ru)
          obtain ⟨ts, tv, tt⟩ := Inv.heldT I hT
          cases tv with
          | cons a1 tv =>
            rename_i k1 ts
            cases tv with
            | cons a2 tv =>
              rename_i v1 ts
              cases tv
              refine ⟨(k1, v1) :: pv, by rw [List.length_cons, List.length_cons, c1], fun j k v h => ?_, fun hi => ?_, fun ht => ?_⟩
              · cases j with
                | zero =>
                  simp at h
                  obtain ⟨rfl, rfl⟩ := h
                  exact ⟨rfl, tt⟩
                | succ j => exact c2 j k v (by simpa using h)
              · rw [List.all_cons, Bool.and_eq_true] at hi
                obtain ⟨i, rfl⟩ := intKey_some hi.1
                obtain ⟨m, m1, m2, m3⟩ := c3 hi.2
                refine ⟨(i, v1) :: m, .cons rv a2 m1, by rw [List.length_cons, List.length_cons, m2], fun j k v h => ?_⟩
                cases j with
                | zero =>
                  simp at h
                  obtain ⟨rfl, rfl⟩ := h
                  cases rk
                  obtain ⟨tk, ek⟩ := (show ∃ t, k1 = Value.int i t from a1)
                  subst ek
                  refine ⟨i, rfl, ?_⟩
                  show Value.isInt i (.int i tk) = true
                  simp [Value.isInt]
                | succ j => exact m3 j k v (by simpa using h)
              · rw [List.all_cons, Bool.and_eq_true] at ht
                obtain ⟨m, m1, m2, m3, m4⟩ := c4 ht.2
                obtain ⟨b, eb, eu, is⟩ := tupKey_is I.hok rk ht.1 a1
                subst eb eu
                refine ⟨(keyN k, b, v1) :: m, .cons ht.1 rk rv a2 m1, by rw [List.length_cons, List.length_cons, m2], fun j k v h => ?_, fun x hx => ?_⟩
                · cases j with
                  | zero =>
                    simp at h
                    obtain ⟨rfl, rfl⟩ := h
                    exact ⟨_, b, rfl, rfl⟩
                  | succ j => exact m3 j k v (by simpa using h)
                · rcases List.mem_cons.mp hx with rfl | hx
                  · exact is
                  · exact m4 x hx
def rDictL : List V → Hp → VK → Prop := fun vs H Q => ∃ (F : Addr → Prop) (a : Addr) (xs : List V) (ds : List D) (ps : List (D × D)), vs = [.ref a] ∧ H a = some (.lst xs) ∧ xs.length ≤ sizeLine ∧ Rps F H xs ds ∧ pairsD ds = some ps ∧ ((ps.all fun p => intKey p.1) = true ∨ (ps.all fun p => tupKey p.1) = true) ∧
  ∀ (p : Addr) (ks vs : List V), H p = none → ks.length ≤ sizeLine → Rps F H ks ((mergeD [] ps).map (·.1)) → Rps F H vs ((mergeD [] ps).map (·.2)) → keysOk ((mergeD [] ps).map (·.1)) = true → Q (.ref p) (upd H p (DO p ((mergeD [] ps).map (·.1)) ks vs))
theorem pairs_len : ∀ {ds : List D} {ps : List (D × D)}, pairsD ds = some ps → ds.length = ps.length
  | [], ps, e => by cases e; rfl
  | d :: ds, ps, e => by
    obtain ⟨k, v, r, _, hp, rfl⟩ := pairs_some e
    rw [List.length_cons, List.length_cons, pairs_len hp]
theorem cr_dict (hc : X.calm = true) (hu : X.A.units + 65 < cLine) : CallR X (.type "dict") rDictL := by
  intro pins s σ H vs us Q I r ⟨F, a, xs, ds, ps, e, ha, hz, ra, hp, hk, q⟩
  subst e
  rw [Vals.ref1 r]
  obtain ⟨_, its, n, rv, hl⟩ := (show ObjOk X.prog X.w H s.heap a (.lst xs) from I.hok a _ ha)
  obtain ⟨pv, c1, c2, c3, c4⟩ := pairs_view I ra hp rv
  have hlen : pv.length ≤ sizeLine := by rw [← c1, ← rv.length]; exact hz
  have hpl : ps.length ≤ sizeLine := by rw [← pairs_len hp, ← ra.len]; exact hz
  have nd := merge_keys ps [] (by simp)
  have ml : (mergeD [] ps).length ≤ sizeLine := by
    have := merge_len ps []
    rw [List.length_nil] at this
    omega
  have OK : PlainSeq "list" s.heap a its.toArray ∧ PairItems s.heap its.toArray (tupsAt xs) pv :=
    ⟨⟨_, n, hl, rfl, rfl, rfl⟩, by rw [List.size_toArray]; exact c1, fun j k v h => ⟨by simpa using (c2 j k v h).1, .inl (c2 j k v h).2⟩⟩
  have big := I.big
  have sz : (s.heap.objs.size == sysModules) = false := beq_eq_false_iff_ne.mpr (Ne.symm (Nat.ne_of_lt big))
  have hp0 := I.hok.fresh (Nat.le_refl s.heap.objs.size)
  have fin : ∀ (h' : Heap) (tk : Nat) (ks vs : List V), DRaw s.heap.objs.size ((mergeD [] ps).map (·.1)) ks vs h' → (∀ b o, b ∉ ([] : List Addr) → s.heap.get? b = some o → h'.get? b = some o) → ks.length ≤ sizeLine → Rps F H ks ((mergeD [] ps).map (·.1)) → Rps F H vs ((mergeD [] ps).map (·.2)) → keysOk ((mergeD [] ps).map (·.1)) = true →
      EP X pins σ Q (.ref s.heap.objs.size) { s with heap := h', toks := tk } := fun h' tk ks vs hd kp z r1 r2 ko =>
    ⟨.ref _, _, I.laid (t' := tk) (o := DO _ _ ks vs) (fun b o g => kp b o (by simp) g) (Nat.le_refl _) (ok_dict hd), rfl, q _ ks vs hp0 z r1 r2 ko⟩
  rcases hk with hk | hk
  · obtain ⟨m, m1, m2, m3⟩ := c3 hk
    refine call_dict_pairs (knd := PySem.intKind X.prog X.w) (kvs := m) (PairArg.list a its.toArray (tupsAt xs) pv) (I.ok.hd hc) OK ⟨m2, fun j k v h => m3 j k v h⟩ hlen fun h' tk hd kp => ?_
    have rm := m1.merge (l := []) (n := []) .nil
    obtain ⟨vs, d1, d2, d3, d4⟩ := rm.out
    refine fin h' tk _ vs (DRaw.ofI sz hd d1) kp ?_ d3 d2 ?_
    · rw [d3.len, List.length_map]; exact ml
    · unfold keysOk
      rw [d4, decide_eq_true nd]
      rfl
  · obtain ⟨m, m1, m2, m3, m4⟩ := c4 hk
    have room : (nestedKind X.prog X.w).room X.A.in1.in1 := by
      show X.A.units + 1 + 1 + 8 < cLine
      omega
    refine call_dict_pairsH (knd := nestedKind X.prog X.w) (ps := m) (PairArg.list a its.toArray (tupsAt xs) pv) (I.ok.hd hc) room OK ⟨m2, fun j k v h => m3 j k v h⟩ (fun h' kp x hx => ?_) hlen fun h' tk hd kp => ?_
    · refine nestedKind_stays.stays (fun b o vs n g e => kp b o (fun z => ?_) (by simp) g) (m4 x hx)
      rw [z] at g
      exact absurd (Heap.lt_size g) (Nat.lt_irrefl _)
    · have rm := m1.merge (l := []) (n := []) .nil
      obtain ⟨ks, vs, d1, d2, d3, d4, d5⟩ := rm.out
      refine fin h' tk ks vs (DRaw.ofX sz hd d1) kp ?_ d3 d2 ?_
      · rw [d3.len, List.length_map]; exact ml
      · unfold keysOk
        rw [d4, decide_eq_true nd, Bool.or_true]
        rfl
theorem dictV_some {x d : D} (h : dictV x = some d) : ∃ ds ps, x = .list ds ∧ pairsD ds = some ps ∧ ((ps.all fun p => intKey p.1) = true ∨ (ps.all fun p => tupKey p.1) = true) ∧ d = .dict (mergeD [] ps) := by
  unfold dictV at h
  split at h
  · split at h
    · rename_i ps hp
      split at h
      · rename_i k
        cases h
        rw [Bool.and_eq_true, Bool.or_eq_true] at k
        exact ⟨_, ps, rfl, hp, k.1, rfl⟩
      · cases h
    · cases h
  · cases h
theorem sf_dict {p : Pos} {e : Expr} {m : E} (hc : X.calm = true) (hu : X.A.units + 65 < cLine) (hm : X.mg "dict" = none) (ha : PE X e (tB G W m)) (hg : Gl X "dict" := by rfl) (hv : bootBuiltins "dict" = some (.type "dict") := by decide +kernel) (he : starEach [e] X.env = [(false, eval e X.env)] := by rfl) : PE X (.Call (.Name "dict" p) [e] [] pos) (tF G W (xDictOf m)) :=
  (pe_callTy (cr_dict hc hu) hg hm hv (pa_one ha he) (by decide) rfl he rfl).weak fun σ H Q ⟨F, S, ρ, s, ok, p⟩ => tB.go ok p fun d s1 v H1 g1 ok1 r1 p1 => by
    obtain ⟨r, e, q⟩ := post_opt.mp p1
    obtain ⟨ds, ps, rfl, hp, hk, rfl⟩ := dictV_some e
    obtain ⟨a, xs, rfl, h, z, ra⟩ := r1.b.list
    refine ⟨F, a, xs, ds, ps, rfl, h, z, ra, hp, hk, fun p ks vs n kz rk rv ko => ?_⟩
    have hp0 : H p = none := by
      cases e : H p with
      | none => rfl
      | some o => rw [g1 p o (fun f => ok1.live.new n (ok.sub p f)) e] at n; cases n
    exact q _ _ (g1.trans (Grow.new n).pres) (ok1.src.grow (.new n)) hp0 (own_dict n rfl kz rk rv ko)
end
end BA

/-! BA33: d[k], k in d, d.get(k, x) -/
namespace BA
open PySem PySem.Spec
open PyProof.Rows
open L2 hiding St

theorem zip_fst {ds es : List D} (l : ds.length = es.length) : (ds.zip es).map (·.1) = ds := List.map_fst_zip (Nat.le_of_eq l)
theorem all_zip {p : D → Bool} {ds es : List D} (l : ds.length = es.length) : ((ds.zip es).all fun q => p q.1) = ds.all p := by
  conv => rhs; rw [← zip_fst l, List.all_map]
  rfl
theorem fit_cases {l : List (D × D)} {k : D} (h : fitK l k = true) : ((∃ i, k = .int i) ∧ (l.all fun p => intKey p.1) = true) ∨ (tupKey k = true ∧ (l.all fun p => tupKey p.1) = true) := by
  unfold fitK at h
  rw [Bool.or_eq_true, Bool.and_eq_true, Bool.and_eq_true] at h
  exact h.imp (fun h => ⟨intKey_some h.1, h.2⟩) fun h => h
section
variable {X : Cx} {pins : List (Addr × Obj)} {σ : L2.St} {H : Hp} {s : Shared}
inductive At (X : Cx) (s : Shared) (F : Addr → Prop) (H : Hp) (a : Addr) (l : List (D × D)) (k : D) (u : Value) : Prop
  | num (i : Int) (m : List (Int × Value)) (ek : k = .int i) (is : (PySem.intKind X.prog X.w).is i u = true) (r : RI F H l m) (x : s.heap.DictOf (PySem.intKind X.prog X.w) a m)
  | tpl (b : Addr) (m : List (NestedKey × Addr × Value)) (tk : tupKey k = true) (eu : u = .ref b) (rb : Rp F H (.ref b) k) (is : (nestedKind X.prog X.w).is s.heap (keyN k) b) (r : RX F H l m) (x : s.heap.DictOfH (nestedKind X.prog X.w) a m)
theorem tup_strict {F : Addr → Prop} {v : V} {d : D} (r : RpB F H v d) (k : tupKey d = true) : Rp F H v d := by
  rcases r with r | ⟨a, rfl, o⟩
  · exact r
  · rcases o.is with ⟨_, rfl⟩ | ⟨_, rfl⟩ <;> cases k
theorem at_key (I : Inv X pins σ H s) {F : Addr → Prop} {a : Addr} {ds es : List D} {ks vs : List V} (h : H a = some (DO a ds ks vs)) (r : Rps F H ks ds) (r' : Rps F H vs es) (ko : keysOk ds = true) (le : ds.length = es.length)
    {k : D} {y : V} {u : Value} (f : fitK (ds.zip es) k = true) (rk : RpB F H y k) (ry : RelV y u) : At X s F H a (ds.zip es) k u := by
  have x := at_dict I h
  have nd := (keysOk_some ko).2
  rcases fit_cases f with ⟨⟨i, rfl⟩, hi⟩ | ⟨tk, ht⟩
  · rw [all_zip le] at hi
    obtain ⟨m, c, d⟩ := x.viewI (P := X.prog) (w := X.w) r hi nd
    rw [rk.int] at ry
    obtain ⟨t, eu⟩ := (show ∃ t, u = Value.int i t from ry)
    subst eu
    refine .num i m rfl ?_ (.of c r') d
    show Value.isInt i (.int i t) = true
    simp [Value.isInt]
  · rw [all_zip le] at ht
    obtain ⟨m, c, d⟩ := x.viewX I.hok r ht nd
    have rs := tup_strict rk tk
    obtain ⟨b, rfl, eu, is⟩ := tupKey_is I.hok rs tk ry
    exact .tpl b m tk eu rs is (.of c r r') d
/-! d[k] -/
def ixY (x y : D) : Option D := match x with
  | .dict l => if fitK l y then kvGet l y else none
  | x => ixD x y
def xSubY (a i : E) : E := fun C ρ => bnd (a C ρ) fun x => bnd (i C ρ) fun y => opt (ixY x y)
theorem ix_dict (hu : X.A.units + 65 < cLine) : IxR X (fun x y H Q => ∃ F d1 d2 d, RpB F H x d1 ∧ RpB F H y d2 ∧ ixY d1 d2 = some d ∧ ∀ v, Rp F H v d → Q v H) := by
  intro va sl pins s σ H x y v u Q I rx ry ⟨F, d1, d2, d, r1, r2, e, q⟩ hsub
  by_cases hd : ∃ l, d1 = .dict l
  · obtain ⟨l, rfl⟩ := hd
    obtain ⟨a, ks, vs, ds, es, rfl, rfl, h, z, ra, rc, k, le⟩ := r1.dict
    unfold ixY at e
    simp only at e
    split at e
    · rename_i f
      cases (show v = Value.ref a from rx)
      have room : (nestedKind X.prog X.w).room X.A.in1 := by
        show X.A.units + 1 + 8 < cLine
        omega
      cases at_key I h ra rc k le f r2 ry with
      | num i m ek is r x =>
        subst ek
        rcases r.find i with ⟨h1, _⟩ | ⟨d', v', u', h1, h2, h3, h4⟩
        · rw [h1] at e; cases e
        · rw [h1] at e
          cases e
          exact subscriptTail_builtinR (x := u') x.typeIs slot_dict_getitem.lookup (wpAny_getItem_of (Q := fun r s' => r = u' ∧ EP X pins σ Q r s') is x.mapOf h2 ⟨rfl, v', H, I.tok _, h4, q v' h3⟩) hsub
      | tpl b m tk eu rb is r x =>
        subst eu
        rcases r.atk d2 with ⟨h1, _⟩ | ⟨d', v', b', u', h1, h2, h3, h4⟩
        · rw [h1] at e; cases e
        · rw [h1] at e
          cases e
          exact subscriptTail_builtinR (x := u') x.typeIs slot_dict_getitem.lookup (wpAny_getItem_heap (Q := fun r s' => r = u' ∧ EP X pins σ Q r s') room is x h2 ⟨rfl, v', H, I.tok _, h4, q v' h3⟩) hsub
    · cases e
  · have e2 : ixY d1 d2 = ixD d1 d2 := by
      cases d1 <;> first | rfl | exact (hd ⟨_, rfl⟩).elim
    rw [e2] at e
    exact ix_ok va sl pins s σ H x y v u Q I rx ry ⟨F, d1, d2, d, r1, r2, e, q⟩ hsub
variable {G : Gx} {W : Nat → Kd} {a b c : Expr} {ma mb mc : E} {pos : Pos}
theorem subY_ (hu : X.A.units + 65 < cLine) (ha : PE X a (tB G W ma)) (hb : PE X b (tB G W mb)) (hs : PlainIx b := by intro _ _; rfl) : PE X (.Subscript a b pos) (tE G W (xSubY ma mb)) :=
  (pe_ix (ix_dict hu) ha hb hs).weak fun σ H Q ⟨F, S, ρ, s, ok, p⟩ => tB.go ok p fun d s1 v H1 g1 ok1 r1 p1 => tB.go ok1 p1 fun d2 s2 v2 H2 g2 ok2 r2 p2 => by
    obtain ⟨k, e, q⟩ := post_opt.mp p2
    exact ⟨F, _, _, k, (r1.pres g2 ok.sub).b, r2.b, e, fun v r => q _ _ (g1.trans g2) ok2.src r⟩
/-! k in d -/
def inY (x y : D) : Option Bool := match y with
  | .dict l => if fitK l x then some (kvGet l x).isSome else none
  | y => inF x y
def cmpY (o : CmpOp) (x y : D) : Option Bool := match o with
  | .In => inY x y
  | .NotIn => (inY x y).map (! ·)
  | o => cmpF o x y
def xCmpY (o : CmpOp) (a b : E) : E := fun C ρ => bnd (a C ρ) fun x => bnd (b C ρ) fun y => bnd (opt (cmpY o x y)) fun k => pur (.bool k)
theorem in_dict (hu : X.A.units + 65 < cLine) {F : Addr → Prop} {x y : V} {v u : Value} {d1 : D} {l : List (D × D)} {Q : VK} (I : Inv X pins σ H s) (rx : RelV x v) (ry : RelV y u) (r1 : RpB F H x d1) (r2 : RpB F H y (.dict l)) (f : fitK l d1 = true) :
    (Q (.bl (kvGet l d1).isSome) H → wpAny (model X.prog X.w) X.A (compareOp .In v u) (EP X pins σ Q) X.xe s) ∧ (Q (.bl (!(kvGet l d1).isSome)) H → wpAny (model X.prog X.w) X.A (compareOp .NotIn v u) (EP X pins σ Q) X.xe s) := by
  obtain ⟨a, ks, vs, ds, es, rfl, rfl, h, z, ra, rc, k, le⟩ := r2.dict
  cases (show u = Value.ref a from ry)
  have hd := (at_dict I h).1
  have room : (nestedKind X.prog X.w).room X.A.in1 := by
    show X.A.units + 1 + 8 < cLine
    omega
  cases at_key I h ra rc k le f r1 rx with
  | num i m ek is r x =>
    subst ek
    have e : (kvGet (ds.zip es) (.int i)).isSome = (valueAt m i).isSome := by
      rcases r.find i with ⟨h1, h2⟩ | ⟨d', v', u', h1, h2, _⟩ <;> rw [h1, h2] <;> rfl
    rw [e]
    exact ⟨fun q => wpAny_in_of is hd x.mapOf ⟨.bl _, H, I.tok _, rfl, q⟩, fun q => wpAny_notIn_of is hd x.mapOf ⟨.bl _, H, I.tok _, rfl, q⟩⟩
  | tpl b m tk eu rb is r x =>
    subst eu
    have e : (kvGet (ds.zip es) d1).isSome = (atKey m (keyN d1)).isSome := by
      rcases r.atk d1 with ⟨h1, h2⟩ | ⟨d', v', b', u', h1, h2, _⟩ <;> rw [h1, h2] <;> rfl
    rw [e]
    exact ⟨fun q => wpAny_in_heap room is hd x ⟨.bl _, H, I.tok _, rfl, q⟩, fun q => wpAny_notIn_heap room is hd x ⟨.bl _, H, I.tok _, rfl, q⟩⟩
theorem inY_other {x y : D} (hd : ¬ ∃ l, y = .dict l) : inY x y = inF x y := by
  cases y <;> first | rfl | exact (hd ⟨_, rfl⟩).elim
theorem cprY (hu : X.A.units + 65 < cLine) (o : CmpOp) : OpR X (compareOp o) (RB (cmpY o)) := by
  intro pins s σ H x y v u Q I rx ry ⟨F, d1, d2, d, r1, r2, e, q⟩
  have other : cmpF o d1 d2 = some d → wpAny (model X.prog X.w) X.A (compareOp o v u) (EP X pins σ Q) X.xe s := fun e => cpr_all hu o pins s σ H x y v u Q I rx ry ⟨F, d1, d2, d, r1, r2, cmpF_D e, q⟩
  by_cases hd : ∃ l, d2 = .dict l
  · obtain ⟨l, rfl⟩ := hd
    cases o with
    | In =>
      have e : (if fitK l d1 then some (kvGet l d1).isSome else none) = some d := e
      split at e
      · rename_i f
        cases e
        exact (in_dict hu I rx ry r1 r2 f).1 q
      · cases e
    | NotIn =>
      have e : (if fitK l d1 then some (kvGet l d1).isSome else none).map (! ·) = some d := e
      split at e
      · rename_i f
        cases e
        exact (in_dict hu I rx ry r1 r2 f).2 q
      · cases e
    | _ => exact other e
  · cases o with
    | In => exact other (by show inF d1 d2 = _; rw [← inY_other hd]; exact e)
    | NotIn => exact other (by show (inF d1 d2).map (! ·) = _; rw [← inY_other hd]; exact e)
    | _ => exact other e
theorem cmpY_ {o : CmpOp} (hu : X.A.units + 65 < cLine) (ha : PE X a (tB G W ma)) (hb : PE X b (tB G W mb)) (hm : behindInMarks o b = false := by rfl) : PE X (.Compare a [o] [b] pos) (tE G W (xCmpY o ma mb)) :=
  (pe_cmpR (cprY hu o) ha hb hm).weak fun σ H Q ⟨F, S, ρ, s, ok, p⟩ => tB.go ok p fun d s1 v H1 g1 ok1 r1 p1 => tB.go ok1 p1 fun d2 s2 v2 H2 g2 ok2 r2 p2 => by
    rw [post_bnd] at p2
    obtain ⟨k, e, q⟩ := post_opt.mp p2
    exact ⟨F, _, _, k, (r1.pres g2 ok.sub).b, r2.b, e, q _ _ (g1.trans g2) ok2.src (.bl _)⟩
theorem tcmpY_ {o : CmpOp} (hu : X.A.units + 65 < cLine) (ha : PE X a (tB G W ma)) (hb : PE X b (tB G W mb)) (hm : behindInMarks o b = false := by rfl) : PT X (.Compare a [o] [b] pos) (tT G W (xCmpY o ma mb)) :=
  (pt_cmpR (cprY hu o) ha hb hm).weak fun σ H Q ⟨F, S, ρ, s, ok, p⟩ => by
    unfold xCmpY at p
    rw [bnd_assoc] at p
    refine tB.go ok p fun d s1 v H1 g1 ok1 r1 p1 => ?_
    rw [bnd_assoc] at p1
    refine tB.go ok1 p1 fun d2 s2 v2 H2 g2 ok2 r2 p2 => ?_
    rw [bnd_assoc, post_bnd] at p2
    obtain ⟨k, e, q⟩ := post_opt.mp p2
    exact ⟨F, _, _, k, (r1.pres g2 ok.sub).b, r2.b, e, k, rfl, q _ (g1.trans g2) ok2.src⟩
/-! d.get(k, x) -/
def dictL (x : D) : Option (List (D × D)) := match x with
  | .dict l => some l
  | _ => none
def getL (l : List (D × D)) (y z : D) : Option D := if fitK l y then some ((kvGet l y).getD z) else none
def xGetY (a b c : E) : E := fun C ρ => bnd (a C ρ) fun x => bnd (opt (dictL x)) fun l => bnd (b C ρ) fun y => bnd (c C ρ) fun z => opt (getL l y z)
theorem dictL_some {x : D} {l : List (D × D)} (h : dictL x = some l) : x = .dict l := by
  cases x <;> first | (cases h; done) | (cases h; rfl)
theorem get_dict (hu : X.A.units + 65 < cLine) {F : Addr → Prop} {x y z : V} {v u t : Value} {d1 d2 d : D} {l : List (D × D)} {Q : VK} (I : Inv X pins σ H s) (rx : RelV x v) (ry : RelV y u) (rz : RelV z t) (r1 : RpB F H x (.dict l)) (r2 : RpB F H y d1) (r3 : Rp F H z d2) (e : getL l d1 d2 = some d) (q : ∀ v, Rp F H v d → Q v H) :
    wpAny (model X.prog X.w) X.A (call (.builtin "dict.get") [v, u, t]) (EP X pins σ Q) X.xe s := by
  obtain ⟨a, ks, vs, ds, es, rfl, rfl, h, zz, ra, rc, k, le⟩ := r1.dict
  cases (show v = Value.ref a from rx)
  have hd := (at_dict I h).1
  have room : (nestedKind X.prog X.w).room X.A.in1 := by
    show X.A.units + 1 + 8 < cLine
    omega
  unfold getL at e
  split at e
  · rename_i f
    cases e
    cases at_key I h ra rc k le f r2 ry with
    | num i m ek is r x =>
      subst ek
      refine call_meetsIn PySem.F.slot_dict_get x.typeIs PySem.F.entry_dict_get (PySem.F.args_dict_get_3 _ _ _) (meets_dict_get_default (PySem.intKind X.prog X.w) a is hd t) ⟨_, x.mapOf, ?_⟩
      rcases r.find i with ⟨h1, h2⟩ | ⟨d', v', u', h1, h2, h3, h4⟩
      · rw [h1] at q
        rw [h2]
        exact ⟨z, H, I.tok _, rz, q z r3⟩
      · rw [h1] at q
        rw [h2]
        exact ⟨v', H, I.tok _, h4, q v' h3⟩
    | tpl b m tk eu rb is r x =>
      subst eu
      refine call_meetsIn PySem.F.slot_dict_get x.typeIs PySem.F.entry_dict_get (PySem.F.args_dict_get_3 _ _ _) (meetsH_dict_get_default (nestedKind X.prog X.w) a b hd t) ⟨room, _, m, is, x, ?_⟩
      rcases r.atk d1 with ⟨h1, h2⟩ | ⟨d', v', b', u', h1, h2, h3, h4⟩
      · rw [h1] at q
        rw [h2]
        exact ⟨z, H, I.tok _, rz, q z r3⟩
      · rw [h1] at q
        rw [h2]
        exact ⟨v', H, I.tok _, h4, q v' h3⟩
  · cases e
theorem getY_ {x y : D} {apos cpos : Pos} {o e f : Expr} {mo me mf : E} (hu : X.A.units + 65 < cLine) (ho : PE X o (tB G W mo)) (he : PE X e (tB G W me)) (hf : PE X f (tE G W mf)) (m : M2 X o "get" apos e f cpos) : PE X (.Call (.Attribute o "get" apos) [e, f] [] cpos) (tE G W (xGetY mo me mf)) := by
  refine ⟨fun pins s σ H Q I ⟨F, S, ρ, s0, ok, p⟩ => ?_⟩
  have h : tB G W mo σ H fun v1 H1 => ∃ l, RpB F H1 v1 (.dict l) ∧ tB G W me σ H1 fun v2 H2 => tE G W mf σ H2 fun v3 H3 => RpB F H3 v1 (.dict l) ∧ ∃ d1 d2 d, RpB F H3 v2 d1 ∧ Rp F H3 v3 d2 ∧ getL l d1 d2 = some d ∧ ∀ v, Rp F H3 v d → Q v H3 :=
    tB.go ok p fun d s1 v H1 g1 ok1 r1 p1 => by
      rw [post_bnd] at p1
      obtain ⟨l, e, p1⟩ := post_opt.mp p1
      cases dictL_some e
      refine ⟨l, r1.b, tB.go ok1 p1 fun d2 s2 v2 H2 g2 ok2 r2 p2 => tE.go ok2 p2 fun d3 s3 v3 H3 g3 ok3 r3 p3 => ?_⟩
      obtain ⟨k, e, q⟩ := post_opt.mp p3
      exact ⟨((r1.pres g2 ok.sub).pres g3 ok.sub).b, d2, d3, k, (r2.pres g3 ok.sub).b, r3, e, fun v rv => q v H3 ((g1.trans g2).trans g3) ok3.src rv⟩
  refine wpAny_Call_method m.base m.few m.line PySem.F.plainAttrs_dict PySem.F.slot_dict_get PySem.F.type_dict_get (thn (ho.run pins s σ H _ I h) fun u s1 ⟨v1, H1, I1, rx, l, rb, q1⟩ => ?_)
  obtain ⟨a, ks, vs, ds, es, rfl, rfl, ha, zz, ra, rc, k, le⟩ := rb.dict
  cases (show u = Value.ref a from rx)
  obtain ⟨_, ob, _, _, g1, g2, _⟩ := at_dict I1 ha
  refine ⟨⟨ob, g1, g2.1⟩, fun b q => by cases q; exact ⟨ob, g1, g2.2.1⟩, ?_⟩
  rw [m.trees]
  refine Calls.callWith_builtin rfl (Calls.evalArgs_plain (Calls.spliced_cons (thn (he.run pins s1 σ H1 _ I1 q1) fun iv s2 ⟨v2, H2, I2, ry, q2⟩ =>
    Calls.spliced_cons (thn (hf.run pins s2 σ H2 _ I2 q2) fun fv s3 ⟨v3, H3, I3, rz, r1, d1, d2, d, r2, r3, e, q3⟩ => Calls.spliced_nil ?_))))
  exact get_dict (x := .ref a) hu I3 rfl ry rz r1 r2 r3 e q3
end
end BA

/-! BA34: d[k] = v -/
namespace BA
open PySem PySem.Spec
open PyProof.Rows
open L2 hiding St

section
variable {X : Cx} {pins : List (Addr × Obj)} {σ : L2.St} {H : Hp} {s : Shared}
def rSetY : V → V → V → Hp → (Hp → Prop) → Prop := fun o i v H Q => ∃ (F : Addr → Prop) (a : Addr) (ds es : List D) (ks vs : List V) (k d : D), o = .ref a ∧ H a = some (DO a ds ks vs) ∧ Rps F H ks ds ∧ Rps F H vs es ∧ keysOk ds = true ∧ ds.length = es.length ∧ fitK (ds.zip es) k = true ∧
  RpB F H i k ∧ Rp F H v d ∧ (ds.zip es).length < sizeLine ∧ ∀ ks' vs', Rps F H ks' ((kvPut (ds.zip es) k d).map (·.1)) → Rps F H vs' ((kvPut (ds.zip es) k d).map (·.2)) → keysOk ((kvPut (ds.zip es) k d).map (·.1)) = true → ks'.length ≤ sizeLine →
    Q (upd H a (DO a ((kvPut (ds.zip es) k d).map (·.1)) ks' vs'))
theorem set_dict (hu : X.A.units + 65 < cLine) : PSet X rSetY := by
  intro pins s σ H o i v ov iv u Q I ro ri rv ⟨F, a, ds, es, ks, vs, k, d, eo, h, ra, rc, ko, le, f, rk, rd, hz, q⟩
  subst eo
  cases (show ov = Value.ref a from ro)
  have sz := (at_dict I h).1
  have nd : (((ds.zip es).map (·.1)).map keyN).Nodup := by
    rw [zip_fst le]
    exact (keysOk_some ko).2
  have nd2 := put_keys (ds.zip es) k d nd
  have pl := put_len (ds.zip es) k d
  have mu : Mut (H a) := by rw [h]; exact True.intro
  cases at_key I h ra rc ko le f rk ri with
  | num j m ek is r x =>
    subst ek
    have hm : m.length ≤ sizeLine := by rw [← r.len]; omega
    refine wpAny_setItem_pairs (hsz := hm) is x fun h' dd hs => ?_
    obtain ⟨vs', d1, d2, d3, d4⟩ := (r.put j rd rv).out
    have raw := DRaw.ofI sz dd d1
    obtain ⟨_, ob, _, _, g1, _⟩ := id raw
    refine ⟨_, d_write I mu hs ⟨ob, g1⟩ (ok_dict raw), q _ vs' d3 d2 ?_ ?_⟩
    · unfold keysOk
      rw [d4, decide_eq_true nd2]
      rfl
    · rw [d3.len, List.length_map]
      omega
  | tpl b m tk eu rb is r x =>
    subst eu
    have room : (nestedKind X.prog X.w).room X.A.in1 := by
      show X.A.units + 1 + 8 < cLine
      omega
    have hm : m.length ≤ sizeLine := by rw [← r.len]; omega
    refine wpAny_setItem_heap (hsz := hm) room is x fun h' dd hs => ?_
    obtain ⟨ks', vs', d1, d2, d3, d4, _⟩ := (r.put tk rb rd rv).out
    have raw := DRaw.ofX sz dd d1
    obtain ⟨_, ob, _, _, g1, _⟩ := id raw
    refine ⟨_, d_write I mu hs ⟨ob, g1⟩ (ok_dict raw), q ks' vs' d3 d2 ?_ ?_⟩
    · unfold keysOk
      rw [d4, decide_eq_true nd2, Bool.or_true]
      rfl
    · rw [d3.len, List.length_map]
      omega
def storeY (x k v : D) : Option D := match x with
  | .dict l => if fitK l k && Nat.ble (l.length + 1) 16777216 then some (.dict (kvPut l k v)) else none
  | x => storeD x k v
def sStoreY (i : Nat) (k e : E) : St := fun C ρ => bnd (e C ρ) fun d => bnd (opt (getV ρ i)) fun x => bnd (k C ρ) fun j => bnd (opt (storeY x j d)) fun x' => pur (.next (setV ρ i x'))
theorem set_any (hu : X.A.units + 65 < cLine) : PSet X (fun o i v H Q => rSetL o i v H Q ∨ rSetY o i v H Q) := by
  intro pins s σ H o i v ov iv u Q I ro ri rv q
  rcases q with q | q
  · exact set_list pins s σ H o i v ov iv u Q I ro ri rv q
  · exact set_dict hu pins s σ H o i v ov iv u Q I ro ri rv q
theorem storeY_list {ds : List D} {k v d : D} (h : storeY (.list ds) k v = some d) : storeD (.list ds) k v = some d := h
theorem storeY_dict {l : List (D × D)} {k v d : D} (h : storeY (.dict l) k v = some d) : fitK l k = true ∧ l.length + 1 ≤ 16777216 ∧ d = .dict (kvPut l k v) := by
  have h : (if fitK l k && Nat.ble (l.length + 1) 16777216 then some (PyData.dict (kvPut l k v)) else none) = some d := h
  split at h
  · rename_i c
    cases h
    rw [Bool.and_eq_true] at c
    exact ⟨c.1, Nat.le_of_ble_eq_true c.2, rfl⟩
  · cases h
variable {G : Gx} {W : Nat → Kd} {x : Str} {i : Nat} {p0 pos tpos : Pos} {e k : Expr} {m mk : E}
theorem storeY_ (i : Nat) (hu : X.A.units + 65 < cLine) (he : PE X e (tE G W m)) (hk : PE X k (tB G W mk)) (hN : X.N[i]? = some x := by rfl) (hv : Vis X.env.scope x := by first | exact Or.inl rfl | exact Or.inr (Or.inl rfl) | exact Or.inr (Or.inr rfl)) (hw : W i = .own := by rfl)
    (ha : ∀ v, assign (.Subscript (.Name x p0) k tpos) X.env v = (do
      let ov ← holding [v] (eval (.Name x p0) X.env)
      let iv ← holding [v, ov] (eval k X.env)
      standAt tpos
      holding [v, ov, iv] (setItem ov iv v)
      release [v, ov, iv] []) := by intro _; rfl)
    (hs : swapsWithSole [.Subscript (.Name x p0) k tpos] e pos.line X.env = pure false := by rfl) (hsw : swappedStores [.Subscript (.Name x p0) k tpos] e X.env = pure none := by rfl)
    (h1 : (assignEach [.Subscript (.Name x p0) k tpos] X.env).map (·.2) = [assign (.Subscript (.Name x p0) k tpos) X.env] := by rfl) (hd : (x == ("__debug__" : Str)) = false := by decide) (hcd : (x == ("__classdict__" : Str)) = false := by decide) :
    PS X (.Assign [.Subscript (.Name x p0) k tpos] e pos) (tS G W (sStoreY i mk m)) :=
  (ps_asg he (pg_sub (pe_var hN hv hd hcd) hk (set_any hu) ha) hs hsw h1).weak fun D σ H ⟨F0, H0, L, F, S, ρ, s, sa, p⟩ => tE.go sa.ok p fun d s1 v H1 g1 ok1 r1 p1 => by
    rw [post_bnd] at p1
    obtain ⟨dl, eg, p2⟩ := post_opt.mp p1
    have sa1 := sa.step g1 ok1.src
    have hc : cont dl = true := by
      by_cases c : cont dl = true
      · exact c
      · exact (post_dead (fun _ => by cases dl <;> first | rfl | exact (c rfl).elim) p2).elim
    obtain ⟨a, hσ, f, n, o⟩ := sa1.ownG hw eg hc
    have hsub : ∀ a, inS S a → F a := ok1.sub
    refine ⟨_, hσ, tB.go ok1 p2 fun dk s2 w H2 g2 ok2 r2 p3 => ?_⟩
    rw [post_bnd] at p3
    obtain ⟨d', es, q⟩ := post_opt.mp p3
    have sa2 := sa1.step g2 ok2.src
    rcases o.is with ⟨ds, rfl⟩ | ⟨l, rfl⟩
    · obtain ⟨xs, hH, z, r⟩ := o.list
      obtain ⟨xs', k', j, e1, rfl, ej, rfl⟩ := storeD_some (storeY_list es)
      cases e1
      refine .inl ⟨a, xs, k', j, rfl, r2.b.int, g2 _ _ n hH, by rw [r.len]; exact ej, ?_⟩
      exact q _ _ _ (sa2.write hw eg hσ f n (by rw [List.length_set]; exact z) ((r.pres (g2.mono hsub)).set (r1.pres (g2.mono hsub)) j))
    · obtain ⟨ks, vs, ds, es', rfl, hH, z, ra, rc, ko, le⟩ := o.dict
      obtain ⟨fk, hz, rfl⟩ := storeY_dict es
      have pm := g2.mono hsub
      refine .inr ⟨F, a, ds, es', ks, vs, dk, d, rfl, g2 _ _ n hH, ra.pres pm, rc.pres pm, ko, le, fk, r2.b, r1.pres pm, by rw [sizeLine_eq]; omega, fun ks' vs' rk rv ko' z' => ?_⟩
      have pr : Pres F H2 (upd H2 a (DO a ((kvPut (ds.zip es') dk d).map (·.1)) ks' vs')) := fun b o n e => by rw [upd_ne fun z => n (by rw [z]; exact f)]; exact e
      exact q _ _ _ (sa2.writeG hw eg hσ f n trivial (.inr ⟨ks', vs', _, (kvPut (ds.zip es') dk d).map (·.2), by rw [← zip_self], upd_same, z', rk.pres pr, rv.pres pr, ko', by rw [List.length_map, List.length_map]⟩))
end
end BA

/-! BA35: the keys of a dictionary: sorted(d), list(d) -/
namespace BA
open PySem PySem.Spec
open PyProof.Rows
open L2 hiding St
section
open PySem.W PySem.Calls
variable {prog : Program} {w : World} {A : Around} {E : Value → Shared → Prop} {s : Shared}
theorem items_all {es : Array DictEntry} {acc : Array Value} (h : ItemsOf (fun i v => ∃ hi : i < es.size, v = es[i].key) acc es.size) : acc.toList = es.toList.map (·.key) := by
  obtain ⟨h1, h2⟩ := h
  apply List.ext_getElem
  · rw [List.length_map, Array.length_toList, Array.length_toList, h1]
  · intro i g1 g2
    rw [Array.length_toList] at g1
    obtain ⟨hi, e⟩ := h2 i acc[i] (Array.getElem?_eq_getElem g1)
    rw [List.getElem_map, Array.getElem_toList, Array.getElem_toList]
    exact e
/-- the keys of a dict, gathered -/
theorem collect_dict {d : Addr} {es : Array DictEntry} {ep : Nat} {Q : List Value → Shared → Prop} (hh : A.handled = none) (lo : (d == sysModules) = false) (hm : s.heap.DictRaw d es ep) (hz : es.size ≤ sizeLine)
    (h : ∀ h' tk, (∀ b o, s.heap.get? b = some o → h'.get? b = some o) → s.heap.objs.size < h'.objs.size → Q (es.toList.map (·.key)) { s with heap := h', toks := tk }) : wpAny (model prog w) A (collect (.ref d)) Q E s := by
  unfold collect
  refine wpAny_bind (wpAny_runValue (codeAny_builtin entry_proto_collect' ?_))
  show wpAny _ _ (do again (.builtin "list.__iadd__" ⟨[← newList [], .ref d], []⟩)) _ _ s
  refine wpAny_bind (wpAny_newList (wpAny_pure ⟨Code.quiet_builtin _ (by decide +kernel), codeAny_builtin entry_list_iadd' ?_⟩))
  show wpAny _ _ (Builtin.List.listExtendWith (.ref s.heap.objs.size) (.ref d) (.ref s.heap.objs.size)) _ _ { s with heap := s.heap.push (seqObj "list" #[] 0) }
  have hd : d < s.heap.objs.size := hm.lt_size
  have hS : (s.heap.push (seqObj "list" #[] 0)).get? s.heap.objs.size = some { cls := .type "list", data := .seq #[] 0 } := Heap.get?_push_size _ rfl
  have key := fun (R : Result → Shared → Prop) hR => kdl_extend (prog := prog) (w := w) (A := A) (s := { s with heap := s.heap.push (seqObj "list" #[] 0) }) (R := R) (KdlSrc.rawDict (es := es) (ep := ep) lo) hh (hm.push _) s.heap.objs.size (Nat.ne_of_gt hd) (Nat.ne_of_gt hd) (.ref s.heap.objs.size) 0 hS hR hz
  refine key (fun r s' => match r with
    | .ok (.ret v) => wpAny (model prog w) A (match v with
      | Value.ref a => do
        let o ← load a
        match o.data with
          | Data.seq xs epoch => pure xs.toList
          | x => unsupported "internal:collect"
      | x => unsupported "internal:collect") Q E s'
    | .ok _ => False
    | .error e => E e s') fun h' tk acc c hk hS' ha => ?_
  have hk' : ∀ b o, s.heap.get? b = some o → h'.get? b = some o := fun b o g => hk b o (Nat.ne_of_lt (Heap.lt_size g)) (Heap.get?_push_of_some _ g)
  show wpAny (model prog w) A (do
      let o ← load s.heap.objs.size
      match o.data with
      | .seq xs _ => pure xs.toList
      | _ => unsupported "internal:collect") Q E { s with heap := h', toks := tk }
  refine wpAny_bind (wpAny_load hS' ?_)
  show wpAny _ _ (pure acc.toList) Q E _
  rw [items_all ha]
  exact wpAny_pure (h h' tk hk' (Heap.lt_size hS'))
/-- sorted(d), the keys read as data -/
theorem sorted_ddata {β : Type} {enc : β → PyData} {R : Value → β → Prop} {d : Addr} {es : Array DictEntry} {ep : Nat} {bs : List β} {Q : Value → Shared → Prop} (hh : A.in1.handled = none) (lo : (d == sysModules) = false) (hm : s.heap.DictRaw d es ep)
    (e : EachIs R (es.toList.map (·.key)) bs) (er : EachIs (fun v b => ∃ as, Reads s.heap v (enc b) as) (es.toList.map (·.key)) bs) (hal : AllAlike (bs.map enc)) (hk : SortE (bs.map enc)) (hL : bs.length ≤ sizeLine)
    (hu : ∀ b, b ∈ bs → A.units + 2 + (enc b).depth < cLine)
    (h : ∀ h' tk a out, (∀ b o, s.heap.get? b = some o → h'.get? b = some o) → s.heap.objs.size ≤ a → (∃ n, h'.get? a = some (seqObj "list" (List.toArray out) n)) → out.length = bs.length → EachIs R out (bs.mergeSort (dataLe false enc)) → Q (.ref a) { s with heap := h', toks := tk }) :
    wpAny (model prog w) A (call (.builtin "sorted") [.ref d]) Q E s := by
  have hz : es.size ≤ sizeLine := by
    have := e.length
    rw [List.length_map, Array.length_toList] at this
    omega
  refine call_function_entry_kw kind_sorted plain_sorted entry_sorted (args_sorted1 _) ?_
  unfold Builtin.«sorted»
  refine wpAny_bind (m := checkCount "sorted" 1 1 _) (wpAny_pure ?_)
  refine wpAny_bind (collect_dict hh lo hm hz fun h1 tk k1 sz1 => ?_)
  have hvl : (es.toList.map (·.key)).length ≤ sizeLine := by rw [List.length_map, Array.length_toList]; exact hz
  refine wpAny_bind (wpAny_newList ?_ hvl)
  have sz : s.heap.objs.size ≤ h1.objs.size := Nat.le_of_lt sz1
  have at1 : (h1.push (seqObj "list" (es.toList.map (·.key)).toArray 0)).get? h1.objs.size = some (seqObj "list" (es.toList.map (·.key)).toArray 0) := Heap.get?_push_size _ rfl
  have old : ∀ b o, s.heap.get? b = some o → (sortingHeap (h1.push (seqObj "list" (es.toList.map (·.key)).toArray 0)) h1.objs.size (es.toList.map (·.key))).get? b = some o := fun b o g =>
    sortingHeap_old (Nat.ne_of_lt (Heap.lt_size (k1 b o g))) (Heap.get?_push_of_some _ (k1 b o g))
  refine wpAny_bind (wpAny_holding (wpAny_call_entry_kw slot_list_sort ⟨_, at1, rfl⟩ entry_list_sort ?body (args_list_sort _)))
  case body =>
    show wpAny (model prog w) A.in1.in1 (Builtin.«list.sort» ⟨[.ref h1.objs.size], []⟩) _ _ _
    have er' : EachIs (fun v b => ∃ as, Reads (sortingHeap (h1.push (seqObj "list" (es.toList.map (·.key)).toArray 0)) h1.objs.size (es.toList.map (·.key))) v (enc b) as) (es.toList.map (·.key)) bs := er.mono fun _ _ ⟨as, r⟩ => ⟨as, PyProof.Rows.Reads.keeps old r⟩
    refine list_sort_vals (s := { s with heap := h1.push (seqObj "list" (es.toList.map (·.key)).toArray 0), toks := tk }) at1 (sorts_of (s := { s with heap := sortingHeap (h1.push (seqObj "list" (es.toList.map (·.key)).toArray 0)) h1.objs.size (es.toList.map (·.key)), toks := tk }) (each_map (R := fun v d => ∃ as, Reads (sortingHeap (h1.push (seqObj "list" (es.toList.map (·.key)).toArray 0)) h1.objs.size (es.toList.map (·.key))) v d as) enc er') hal hk (bound_map hu)) hvl ?_
    refine ⟨_, rfl, wpAny_pure ⟨_, rfl, h _ _ _ _ (fun b o g => ?_) sz (sortedHeap_at at1) (by rw [sortVals_length false rfl]; exact e.length) (sortVals_data false e er' hal)⟩⟩
    have lt := Heap.lt_size (k1 b o g)
    rw [sortedHeap_old (Nat.ne_of_lt lt) (Nat.lt_of_lt_of_le lt (by rw [size_push']; exact Nat.le_succ _))]
    exact Heap.get?_push_of_some _ (k1 b o g)
end
theorem Ent.keys : ∀ {ds : List D} {ks vs : List V} {es : List DictEntry}, Ent ds ks vs es → Vals ks (es.map (·.key))
  | _, _, _, _, .nil => .nil
  | _, _, _, _, .cons _ r _ t => .cons r t.keys
section
variable {X : Cx}
def sortY (x : D) : Option D := match x with
  | .dict l => if sortOk (l.map (·.1)) then some (.list (sortD (l.map (·.1)))) else none
  | x => sortV x
def xSortY (a : E) : E := fun C ρ => bnd (a C ρ) fun x => opt (sortY x)
def rSortK : List V → Hp → VK → Prop := fun vs H Q => ∃ (F : Addr → Prop) (l : List (D × D)) (v : V), vs = [v] ∧ RpB F H v (.dict l) ∧ sortOk (l.map (·.1)) = true ∧
  ∀ (zs : List V) (p : Addr), Rps F H zs (sortD (l.map (·.1))) → zs.length ≤ sizeLine → H p = none → Q (.ref p) (upd H p (.lst zs))
theorem cr_sortedK (hc : X.calm = true) (hu : X.A.units + 65 < cLine) : CallR X (.builtin "sorted") rSortK := by
  intro pins s σ H vs us Q I r ⟨F, l, v, e, rb, ho, q⟩
  subst e
  obtain ⟨a, ks, vs, ds, es', rfl, rfl, h, z, rp, rc, ko, le⟩ := rb.dict
  rw [zip_fst le] at ho q
  obtain ⟨hlen, hal, hst, hdp⟩ := sortOk_some ho
  rw [Vals.ref1 r]
  obtain ⟨lo, o, es, ep, g1, g2, g3, en⟩ := at_dict I h
  have rv := en.keys
  have ez := zip_snd rp
  have eb := each_of rp rv
  have er : PySem.W.EachIs (fun u (b : V × D) => ∃ as, Reads s.heap u b.2 as) (es.toList.map (·.key)) (ks.zip ds) := (each_ofN rp rv (sortOk_noD ho)).mono fun u b ⟨⟨h1, h2⟩, n⟩ => Dp.reads I b.2 b.1 u (h2.dp (K := X.K) n) h1
  have el : (ks.zip ds).length = ds.length := by
    have := congrArg List.length ez
    rw [List.length_map] at this
    exact this
  have hu2 : ∀ b : V × D, b ∈ ks.zip ds → X.A.units + 2 + (b.2).depth < cLine := fun b hb => by
    have hm : b.2 ∈ ds := by rw [← ez]; exact List.mem_map.mpr ⟨b, hb, rfl⟩
    have := hdp _ hm
    omega
  have h1 : PySem.W.AllAlike ((ks.zip ds).map fun b : V × D => b.2) := by rw [show (ks.zip ds).map (fun b : V × D => b.2) = ds from ez]; exact hal
  have h2 : SortE ((ks.zip ds).map fun b : V × D => b.2) := by rw [show (ks.zip ds).map (fun b : V × D => b.2) = ds from ez]; exact hst
  have h3 : (ks.zip ds).length ≤ sizeLine := by rw [el, sizeLine_eq]; exact hlen
  refine sorted_ddata (enc := fun b : V × D => b.2) (R := fun u (b : V × D) => RelV b.1 u ∧ Rp F H b.1 b.2) (I.ok.hd hc) lo ⟨o, g1, g2, g3⟩ eb er h1 h2 h3 hu2 fun h' tk p out kp ap he ho' eo => ?_
  obtain ⟨n, he⟩ := he
  obtain ⟨vo, ro⟩ := each_back eo
  have es2 : ((ks.zip ds).mergeSort (PySem.W.dataLe false fun b : V × D => b.2)).map Prod.snd = sortD ds := by
    rw [sortD_is, PySem.W.sort_maps (r := PySem.W.dataLe false fun b : V × D => b.2) (s := leS) (f := Prod.snd) fun a _ b _ => rfl, ez]
  rw [es2] at ro
  have hzs : (((ks.zip ds).mergeSort (PySem.W.dataLe false fun b : V × D => b.2)).map Prod.fst).length ≤ sizeLine := by
    rw [List.length_map, List.length_mergeSort, el, sizeLine_eq]
    exact hlen
  exact ⟨.ref _, upd H p (.lst _), I.laid (t' := tk) kp ap ⟨hzs, out, n, vo, he⟩, rfl, q _ _ ro hzs (I.hok.fresh ap)⟩
variable {G : Gx} {W : Nat → Kd} {pos p : Pos} {e : Expr} {m : E}
theorem cr_sortedY (hc : X.calm = true) (hu : X.A.units + 65 < cLine) : CallR X (.builtin "sorted") (fun vs H Q => rSortD vs H Q ∨ rSortK vs H Q) := by
  intro pins s σ H vs us Q I r q
  rcases q with q | q
  · exact cr_sortedD hu pins s σ H vs us Q I r q
  · exact cr_sortedK hc hu pins s σ H vs us Q I r q
theorem soY_ (hc : X.calm = true) (hu : X.A.units + 65 < cLine) (hm : X.mg "sorted" = none) (ha : PE X e (tB G W m)) (hg : Gl X "sorted" := by rfl) (hv : bootBuiltins "sorted" = some (.builtin "sorted") := by decide +kernel) (he : starEach [e] X.env = [(false, eval e X.env)] := by rfl) : PE X (.Call (.Name "sorted" p) [e] [] pos) (tF G W (xSortY m)) :=
  (pe_callB (cr_sortedY hc hu) hg hm hv (pa_one ha he) (by decide) rfl he rfl).weak fun σ H Q ⟨F, S, ρ, s, ok, p⟩ => tB.go ok p fun d s1 v H1 g1 ok1 r1 p1 => by
    obtain ⟨d', e', q⟩ := post_opt.mp p1
    have done : ∀ (zs : List V) (ls : List D) (p : Addr), d' = .list ls → Rps F H1 zs ls → zs.length ≤ sizeLine → H1 p = none → Q (.ref p) (upd H1 p (.lst zs)) := fun zs ls p ed rz hz hp => by
      subst ed
      have hp0 : H p = none := by
        cases e : H p with
        | none => rfl
        | some o => rw [g1 p o (fun f => ok1.live.new hp (ok.sub p f)) e] at hp; cases hp
      refine q _ _ (g1.trans (Grow.new hp).pres) (ok1.src.grow (.new hp)) hp0 (.inl ⟨_, _, rfl, upd_same, hz, ?_⟩)
      exact (rz.move fun b n f => f.elim (fun f => f) fun z => absurd hp (by rw [← z]; exact n)).pres (Grow.new hp).pres
    by_cases hd : ∃ l, d = .dict l
    · obtain ⟨l, rfl⟩ := hd
      have e' : (if sortOk (l.map (·.1)) then some (PyData.list (sortD (l.map (·.1)))) else none) = some d' := e'
      split at e'
      · rename_i h
        cases e'
        exact .inr ⟨F, l, v, rfl, r1.b, h, fun zs p rz hz hp => done zs _ p rfl rz hz hp⟩
      · cases e'
    · have e2 : sortY d = sortV d := by
        cases d <;> first | rfl | exact (hd ⟨_, rfl⟩).elim
      rw [e2] at e'
      unfold sortV at e'
      split at e'
      · rename_i ds
        split at e'
        · rename_i h
          cases e'
          exact .inl ⟨F, _, ds, v, rfl, .inl rfl, r1.b, h, fun zs p rz hz hp => done zs _ p rfl rz hz hp⟩
        · cases e'
      · rename_i ds
        split at e'
        · rename_i h
          cases e'
          exact .inl ⟨F, _, ds, v, rfl, .inr rfl, r1.b, h, fun zs p rz hz hp => done zs _ p rfl rz hz hp⟩
        · cases e'
      · cases e'
end
end BA

/-! BA36: an own slot that takes data, and is read as data -/
namespace BA
open PySem PySem.Spec
open PyProof.Rows
open L2 hiding St
section
variable {G : Gx} {W : Nat → Kd} {X : Cx} {F0 : Addr → Prop} {H0 : Hp} {L : List ((Addr → Prop) × Hp)} {F : Addr → Prop} {S : SA} {σ : L2.St} {H : Hp} {ρ : Rho} {s : Src}
theorem Rp.ref_out {b : Addr} {d : D} (r : Rp F H (.ref b) d) : ¬ F b ∧ H b ≠ none := by
  cases r with
  | lst n h z r => exact ⟨n, by rw [h]; exact fun e => nomatch e⟩
  | tup n h z r => exact ⟨n, by rw [h]; exact fun e => nomatch e⟩
  | dct n h => exact ⟨n, by rw [h]; exact fun e => nomatch e⟩
theorem Sat.setD (h : Sat G W F0 H0 L F S σ H ρ s) {i : Nat} {v : V} {d : D} (w : W i = .own) (hi : i < σ.length) (r : Rp F H v d) (c : cont d = false) : Sat G W F0 H0 L F S (σ.set i (some v)) H (setV ρ i d) s := by
  have at' : ∀ {j : Nat} {b : Addr}, (σ.set i (some v))[j]? = some (some (V.ref b)) → (i = j ∧ v = .ref b) ∨ (i ≠ j ∧ σ[j]? = some (some (V.ref b))) := fun {j b} q => by
    by_cases z : i = j
    · subst z
      rw [List.getElem?_set_self hi] at q
      cases q
      exact .inl ⟨rfl, rfl⟩
    · rw [List.getElem?_set_ne z] at q
      exact .inr ⟨z, q⟩
  have out : ∀ b, v = .ref b → ¬ F b ∧ H b ≠ none := fun b e => by subst e; exact r.ref_out
  refine ⟨h.ok.set (by unfold Slot; rw [w]; exact .inr ⟨c, r⟩) hi, h.f0, h.ent, fun j b wj q => ?_, fun j b wj q fb => ?_, fun j k b hjk wj wk q1 q2 fb => ?_, h.rf, h.liv⟩
  · rcases at' q with ⟨_, e⟩ | ⟨_, q⟩
    · exact (out b e).2
    · exact h.trk j b wj q
  · rcases at' q with ⟨_, e⟩ | ⟨_, q⟩
    · exact ((out b e).1 fb).elim
    · exact h.nf j b wj q fb
  · rcases at' q1 with ⟨_, e⟩ | ⟨_, q1⟩
    · exact (out b e).1 fb
    · rcases at' q2 with ⟨_, e⟩ | ⟨_, q2⟩
      · exact (out b e).1 fb
      · exact h.dis j k b hjk wj wk q1 q2 fb
/-- name = e, no container -/
def sSetD (i : Nat) (e : E) : BA.St := fun C ρ => bnd (e C ρ) fun d => if cont d then bad else pur (.next (setV ρ i d))
variable {x : Str} {e : Expr} {m : E} {p pos : Pos}
theorem setD_ (i : Nat) (hN : X.N.Nodup) (he : PE X e (tE G W m)) (hi : X.N[i]? = some x := by rfl) (hx : Loc X.env.scope x := by first | exact Or.inl rfl | exact Or.inr rfl) (hw : W i = .own := by rfl) (hs : swapsWith e (some (.Name x p)) pos.line X.env = pure false := by rfl)
    (hf : X.fn x = true ∨ X.env.scope.names.lookup x = some .local := by first | exact .inl rfl | exact .inr rfl) : PS X (.Assign [.Name x p] e pos) (tS G W (sSetD i m)) :=
  ⟨fun pins s0 σ H D I ⟨F0, H0, L, F, S, ρ, s, sa, p⟩ => (ps_set hN hi hx he hs hf).run pins s0 σ H D I (tE.go sa.ok p fun d s1 v H1 g1 ok1 r1 p1 => by
    split at p1
    · exact p1.elim
    · rename_i c
      exact p1 _ _ _ ((sa.step g1 ok1.src).setD hw (by rw [I.len]; exact ltN hi) r1 (by simpa using c)))⟩
theorem vD_ (i : Nat) (hN : X.N[i]? = some x := by rfl) (hv : Vis X.env.scope x := by first | exact Or.inl rfl | exact Or.inr (Or.inl rfl) | exact Or.inr (Or.inr rfl)) (hk : W i = .own := by rfl)
    (hd : (x == ("__debug__" : Str)) = false := by decide) (hcd : (x == ("__classdict__" : Str)) = false := by decide) : PE X (.Name x pos) (tE G W (xVarD i)) := se_varD hN hv hd hcd hk
end
end BA

/-! BA37: comprehensions that make a dictionary -/
namespace BA
open PySem PySem.Spec
open PyProof.Rows
open L2 hiding St

section
variable {X : Cx} {pins : List (Addr × Obj)} {σ : L2.St} {H : Hp} {s : Shared}
/-- a key and its value, laid into the dictionary under way -/
theorem put_in (hu : X.A.units + 65 < cLine) {D : Addr} {y z : V} {u r : Value} {Nx : Hp → Prop} {Q : Unit → Shared → Prop} {E : Value → Shared → Prop} (I : Inv X pins σ H s) (hy : RelV y u) (hz : RelV z r) (st : rSetY (.ref D) y z H Nx)
    (go : ∀ s' H', Inv X pins σ H' s' → Nx H' → Q () s') : wpAny (model X.prog X.w) X.A (dictSet D u r) Q E s := by
  obtain ⟨F, a, ds, es, ks, vs, k, d, eo, h, ra, rc, ko, le, f, rk, rd, hl, q⟩ := st
  cases eo
  have sz := (at_dict I h).1
  have nd : (((ds.zip es).map (·.1)).map keyN).Nodup := by
    rw [zip_fst le]
    exact (keysOk_some ko).2
  have nd2 := put_keys (ds.zip es) k d nd
  have pl := put_len (ds.zip es) k d
  have mu : Mut (H D) := by rw [h]; exact True.intro
  cases at_key I h ra rc ko le f rk hy with
  | num j m ek is rm x =>
    subst ek
    have hm : m.length ≤ sizeLine := by rw [← rm.len]; omega
    refine wpAny_dictSet_pairs (hsz := hm) is x fun h' dd hs => ?_
    obtain ⟨vs', d1, d2, d3, d4⟩ := (rm.put j rd hz).out
    have raw := DRaw.ofI sz dd d1
    obtain ⟨_, ob, _, _, g1, _⟩ := id raw
    refine go _ _ (d_write I mu hs ⟨ob, g1⟩ (ok_dict raw)) (q _ vs' d3 d2 ?_ ?_)
    · unfold keysOk
      rw [d4, decide_eq_true nd2]
      rfl
    · rw [d3.len, List.length_map]
      omega
  | tpl b m tk eu rb is rm x =>
    subst eu
    have room : (nestedKind X.prog X.w).room X.A := by
      show X.A.units + 8 < cLine
      omega
    have hm : m.length ≤ sizeLine := by rw [← rm.len]; omega
    refine wpAny_dictSet_heap (hsz := hm) room is x fun h' dd hs => ?_
    obtain ⟨ks', vs', d1, d2, d3, d4, _⟩ := (rm.put tk rb rd hz).out
    have raw := DRaw.ofX sz dd d1
    obtain ⟨_, ob, _, _, g1, _⟩ := id raw
    refine go _ _ (d_write I mu hs ⟨ob, g1⟩ (ok_dict raw)) (q ks' vs' d3 d2 ?_ ?_)
    · unfold keysOk
      rw [d4, decide_eq_true nd2, Bool.or_true]
      rfl
    · rw [d3.len, List.length_map]
      omega
end
section
variable {X : Cx}
/-- what is asked of {k: v for target in iter if ..} -/
def tDX (wi : TI) (g : TG) (tt : TT) (tk tv : TE) (ws : List Nat) : TE := fun σ H Q => wi σ H fun J H1 => ∀ D, H1 D = none → ∃ T : Nat → Nat → Hp → Prop, (∃ m, T 0 m (upd H1 D (DO D [] [] []))) ∧ ∀ i m H, T i m H →
  (J.stop i H ∧ Q (.ref D) H) ∨ (J.go i H ∧ ∃ Nx : Hp → Prop, (∀ H', Nx H' → ∃ m', m' < m ∧ T (i + 1) m' H') ∧ ∀ x H', J.yld i H x H' → g x (wipe σ ws) H' fun σ2 H2 => wipe σ2 ws = wipe σ ws ∧ tt σ2 H2 fun b H3 =>
    if b = true then tk σ2 H3 fun y H4 => tv σ2 H4 fun z H5 => rSetY (.ref D) y z H5 Nx else Nx H3)
theorem dx_core {pins : List (Addr × Obj)} {s : Shared} {σ : L2.St} {H : Hp} {Q : VK} {kx vx tg iter : Expr} {ifs : List Expr} {scope : Scope} {own : List (Str × Nat)} {p1 p2 : Pos} {wi : TI} {g : TG} {tt : TT} {tk tv : TE} {use : Option (Value → Sem Unit)} {Qf : Value → Shared → Prop}
    (hu : X.A.units + 65 < cLine) (hc : X.calm = true) (hN : X.N.Nodup) (I : Inv X pins σ H s) (hi : PI X tg iter wi) (ok : BlkOk X.N X.env.scope scope own)
    (hg : ∀ (z : Shared) (h : Hp) (c : Addr) (ce : List (Str × Addr)) (fp : List Addr), PG (X.blk z h scope (compEnvC scope ce c X.env) fp) tg g)
    (ht : ∀ (z : Shared) (h : Hp) (c : Addr) (ce : List (Str × Addr)) (fp : List Addr), PTs (X.blk z h scope (compEnvC scope ce c X.env) fp) ifs tt)
    (hk : ∀ (z : Shared) (h : Hp) (c : Addr) (ce : List (Str × Addr)) (fp : List Addr), PE (X.blk z h scope (compEnvC scope ce c X.env) fp) kx tk)
    (he : ∀ (z : Shared) (h : Hp) (c : Addr) (ce : List (Str × Addr)) (fp : List Addr), PE (X.blk z h scope (compEnvC scope ce c X.env) fp) vx tv) (hs : ∀ x, foldedSetIterable iter X.env x = pure x)
    (q0 : tDX wi g tt tk tv (own.map (·.2)) σ H Q)
    (fin : ∀ D C s' m H', Inv X pins σ H' s' → Q (.ref D) H' → s'.heap.Ns C m → FpOk X pins H' C → compPost (model X.prog X.w) X.A X.xe use Qf (.ref D) C (.ok .next) s') :
    wpAny (model X.prog X.w) X.A (comprehension (.DictComp kx vx [⟨tg, iter, ifs, 0⟩] scope p1) scope X.env p2 newDict false (eval iter X.env) use) Qf X.xe s := by
  have free : ∀ y ∈ scope.names, y.2 = .free → ∃ c, X.env.cells.lookup y.1 = some c := fun y hy e => (ok.free y hy e).elim (fun k => I.ok.has _ (.inl k)) fun k => I.ok.has _ (.inr k)
  refine wpAny_comprehension_free (use := use) rfl hs (closure_ok free) ok.kind (fun y hy e => by rw [ok.uniq y hy, e]) (thn (hi.run pins s σ H _ I q0) fun xv sa ha => thn ha fun iv sb hb => ?_)
  obtain ⟨it, fp, tn, J, Hb, e, Ib, T, stb, fb, q⟩ := hb
  subst e
  refine wpAny_newObj_type (newEnv_comp ?_)
  obtain ⟨D, hD⟩ : ∃ D, sb.heap.objs.size = D := ⟨_, rfl⟩
  rw [hD]
  have nD : Hb D = none := Ib.hok.fresh (Nat.le_of_eq hD)
  obtain ⟨W, ⟨m0, w0⟩, turn⟩ := q D nD
  obtain ⟨sc, esc⟩ : ∃ sc, ({ sb with heap := sb.heap.push { cls := .type "dict", data := .dict #[] } } : Shared) = sc := ⟨_, rfl⟩
  rw [esc]
  have hsc : sc.heap = sb.heap.push { cls := .type "dict", data := .dict #[] } := by rw [← esc]
  obtain ⟨Hc, eHc⟩ : ∃ Hc, upd Hb D (DO D [] [] []) = Hc := ⟨_, rfl⟩
  have Ic : Inv X pins σ Hc sc := by
    rw [← esc, ← eHc]
    refine Ib.laid (t' := sb.toks) (fun b o e => Heap.get?_push_of_some _ e) (Nat.le_of_eq hD) ?_
    rw [← hD]
    exact ok_dict (raw_empty sb.heap Ib.big)
  have lt : ∀ b ∈ fp, b < sb.heap.objs.size := fun b hb => by
    obtain ⟨o, e, _⟩ := T.obj _ _ stb b hb
    exact Heap.lt_size e
  have fc : ∀ b ∈ fp, FpOk X pins Hc b ∧ b < sc.heap.objs.size := fun b hb => by
    have hlt := lt b hb
    refine ⟨⟨?_, (fb b hb).2⟩, by rw [hsc, Heap.size_push]; exact Nat.lt_succ_of_lt hlt⟩
    rw [← eHc, upd_ne (by rw [← hD]; exact Nat.ne_of_lt hlt)]
    exact (fb b hb).1
  have stc : tn 0 sc.heap := T.keep _ _ _ stb fun b _ o e => by rw [hsc]; exact Heap.get?_push_of_some _ e
  have Id := block_start Ic ok hN fc
  obtain ⟨cl, ecl⟩ : ∃ cl, cellsFrom (sc.heap.objs.size + 1) scope.names (cloFrom X.env.cells scope.names []) = cl := ⟨_, rfl⟩
  rw [ecl] at Id
  have pg := hg sc Hc sc.heap.objs.size cl fp
  have pt := ht sc Hc sc.heap.objs.size cl fp
  have pk := hk sc Hc sc.heap.objs.size cl fp
  have pe := he sc Hc sc.heap.objs.size cl fp
  show codeAny _ _ (.compStart (.DictComp kx vx [⟨tg, iter, ifs, 0⟩] scope p1) 0 (.ref it) (.ref D) (compEnvC scope (cellsFrom (sc.heap.objs.size + 1) scope.names (cloFrom X.env.cells scope.names [])) sc.heap.objs.size X.env)) (compPost (model X.prog X.w) X.A X.xe use Qf (.ref D) sc.heap.objs.size) { sc with heap := pushCells (sc.heap.push { cls := .type "dict", data := .dict #[] }) scope.names }
  rw [ecl]
  have nfp : ∀ b ∈ fp, Hc b = none := fun b hb => (fc b hb).1.1
  obtain ⟨ce, ece⟩ : ∃ ce, compEnvC scope cl sc.heap.objs.size X.env = ce := ⟨_, rfl⟩
  rw [ece] at Id pg pt pk pe
  rw [ece]
  have cL : ce.locals = sc.heap.objs.size := by subst ece; rfl
  obtain ⟨sd, esd⟩ : ∃ sd, ({ sc with heap := pushCells (sc.heap.push { cls := .type "dict", data := .dict #[] }) scope.names } : Shared) = sd := ⟨_, rfl⟩
  rw [esd] at Id
  rw [esd]
  have std : tn 0 sd.heap := T.keep _ _ _ stc fun b _ o e => by rw [← esd]; exact pushCells_keeps _ _ _ _ (Heap.get?_push_of_some _ e)
  have stat : ∀ {σ' : L2.St} {H' : Hp} {s' : Shared}, Inv (X.blk sc Hc scope ce fp) [] σ' H' s' → (∀ b ∈ fp, H' b = none) → ∀ b ∈ fp, FpOk (X.blk sc Hc scope ce fp) [] H' b := fun {σ' H' s'} J' n b hb =>
    ⟨n b hb, (J'.ok.exf b hb).1, J'.ok.exfs b hb, .inl hb, fun x c e => (J'.ok.exf b hb).2 x c e, fun p hp => absurd (show p ∈ ([] : List (Addr × Obj)) ++ [] from hp) (by simp)⟩
  have loop : codeAny (model X.prog X.w) X.A (.compLoop (.DictComp kx vx [⟨tg, iter, ifs, 0⟩] scope p1) 0 (.ref it) (.ref D) ce) (compPost (model X.prog X.w) X.A X.xe use Qf (.ref D) sc.heap.objs.size) sd := by
    refine compLoop_anyD (fun n s' => ∃ i H', Inv (X.blk sc Hc scope ce fp) [] (wipe σ (own.map (·.2))) H' s' ∧ tn i s'.heap ∧ (∀ b ∈ fp, H' b = none) ∧ W i n H') ?_ m0 ⟨0, Hc, Id, std, nfp, by rw [← eHc]; exact w0⟩
    rintro n s5 ⟨i, H5, I5, st5, n5, w5⟩
    rcases turn i n H5 w5 with ⟨stop, done⟩ | ⟨go, Nx, hNx, step⟩
    · refine thnF (T.done (X.blk sc Hc scope ce fp) rfl rfl rfl hc i [] s5 _ H5 (fun _ _ => False) I5 (stat I5 n5) st5 stop) fun r s6 ⟨hr, I6⟩ => ?_
      subst hr
      have I7 : Inv X pins σ H5 s6 := Ic.call' (ch := fp) I6.os I6.base I6.hok I6.bare fun b hb => ⟨(fc b hb).1.2.2.2.1, (fc b hb).1.2.1, (fc b hb).1.2.2.2.2.1, (fc b hb).1.2.2.2.2.2⟩
      have nC : H5 sc.heap.objs.size = none := by
        have z : H5 ce.locals = none := I6.free
        rwa [cL] at z
      obtain ⟨m, hn, _⟩ := I6.loc
      have hn : s6.heap.Ns ce.locals m := hn
      rw [cL] at hn
      exact fin D sc.heap.objs.size s6 m H5 I7 done hn (Ic.fpOk (Nat.le_refl _) nC)
    · refine thnF (T.item (X.blk sc Hc scope ce fp) rfl rfl rfl hc i [] s5 _ H5 (fun _ _ => False) I5 (stat I5 n5) st5 go) fun r s6 ⟨u, hr, h6⟩ => ?_
      subst hr
      refine thnF h6 fun _ s7 ⟨x, H7, I7, r7, y7, st7, n7⟩ => ?_
      have I7' := I7.pinned (stat I7 n7) (T.obj _ _ st7)
      refine thnF (pg.run _ s7 _ H7 x u _ I7' r7 (step x H7 y7)) fun _ s8 ⟨σ8, H8, I8, hw8, q8⟩ => ?_
      refine thnF (pt.run _ s8 σ8 H8 _ I8 q8) fun b s9 ⟨H9, I9, q9⟩ => ?_
      have back : ∀ {s' : Shared} {H' : Hp}, Inv (X.blk sc Hc scope ce fp) ([] ++ pinsAt fp s7.heap) σ8 H' s' → Nx H' → ∃ m, m < n ∧ ∃ i H', Inv (X.blk sc Hc scope ce fp) [] (wipe σ (own.map (·.2))) H' s' ∧ tn i s'.heap ∧ (∀ b ∈ fp, H' b = none) ∧ W i m H' := fun {s' H'} J' nx => by
        obtain ⟨m', hm, w'⟩ := hNx H' nx
        have pin : ∀ b ∈ fp, ∀ o, s7.heap.get? b = some o → s'.heap.get? b = some o ∧ H' b = none := fun b hb o e =>
          let z := J'.pin (b, o) (List.mem_append_right _ (List.mem_append_right _ (mem_pinsAt hb e)))
          ⟨z.1, z.2.1⟩
        refine ⟨m', hm, i + 1, H', (J'.unpinned (pins := [])).weak (by rw [← hw8, wipe_length]) (fun j v e => ?_), T.keep _ _ _ st7 fun b hb o e => (pin b hb o e).1, fun b hb => ?_, w'⟩
        · rw [← hw8] at e
          exact (wipe_some e).1
        · obtain ⟨o, e, _⟩ := T.obj _ _ st7 b hb
          exact (pin b hb o e).2
      cases b with
      | false =>
        rw [if_neg Bool.false_ne_true] at q9 ⊢
        exact back I9 q9
      | true =>
        rw [if_pos rfl] at q9 ⊢
        refine thnF (pk.run _ s9 σ8 H9 _ I9 q9) fun z1 s10 ⟨yk, H10, I10, r10, q10⟩ => ?_
        refine thnF (pe.run _ s10 σ8 H10 _ I10 q10) fun z2 s11 ⟨yv, H11, I11, r11, nx⟩ => ?_
        exact put_in (X := X.blk sc Hc scope ce fp) hu I11 r10 r11 nx fun s12 H12 I12 nx' => back I12 nx'
  exact codeAny_compStart_dict loop (T.self X.A 0 _ _ _ std loop)
theorem pe_dx {kx vx tg iter : Expr} {ifs : List Expr} {scope : Scope} {own : List (Str × Nat)} {pos : Pos} {wi : TI} {g : TG} {tt : TT} {tk tv : TE} (hu : X.A.units + 65 < cLine) (hc : X.calm = true) (hN : X.N.Nodup) (hi : PI X tg iter wi) (ok : BlkOk X.N X.env.scope scope own)
    (hg : ∀ (z : Shared) (h : Hp) (c : Addr) (ce : List (Str × Addr)) (fp : List Addr), PG (X.blk z h scope (compEnvC scope ce c X.env) fp) tg g)
    (ht : ∀ (z : Shared) (h : Hp) (c : Addr) (ce : List (Str × Addr)) (fp : List Addr), PTs (X.blk z h scope (compEnvC scope ce c X.env) fp) ifs tt)
    (hk : ∀ (z : Shared) (h : Hp) (c : Addr) (ce : List (Str × Addr)) (fp : List Addr), PE (X.blk z h scope (compEnvC scope ce c X.env) fp) kx tk)
    (he : ∀ (z : Shared) (h : Hp) (c : Addr) (ce : List (Str × Addr)) (fp : List Addr), PE (X.blk z h scope (compEnvC scope ce c X.env) fp) vx tv) (hs : ∀ x, foldedSetIterable iter X.env x = pure x) :
    PE X (.DictComp kx vx [⟨tg, iter, ifs, 0⟩] scope pos) (tDX wi g tt tk tv (own.map (·.2))) := by
  refine ⟨fun pins s σ H Q I h => ?_⟩
  rw [arm_eval_DictComp]
  refine dx_core hu hc hN I hi ok hg ht hk he hs h fun D C s' m H' I' q hn f => ⟨m, hn, fun h'' sb => ?_⟩
  exact ⟨.ref D, H', I'.turned (t' := s'.toks) (fun b o hb e => (sb.2 b hb).trans e) f.1 f.2.1 f.2.2.2.1 f.2.2.2.2.1 f.2.2.2.2.2, rfl, q⟩
end
end BA

/-! BA38: comprehensions that make a dictionary, by data -/
namespace BA
open PySem PySem.Spec
open PyProof.Rows
open L2 hiding St
def dcM (g : G) (c : Rho → M Bool) (ke ve : Rho → M D) (ρ : Rho) : List D → List (D × D) → M (List (D × D))
  | [], acc => pur acc
  | x :: xs, acc => bnd (opt (g x ρ)) fun ρ1 => bnd (c ρ1) fun b =>
    if b then bnd (ke ρ1) fun k => bnd (ve ρ1) fun v => if fitK acc k && Nat.ble (acc.length + 1) 16777216 then dcM g c ke ve ρ xs (kvPut acc k v) else bad
    else dcM g c ke ve ρ xs acc
def xDC (own : List Nat) (it : Es) (g : G) (c : Et) (ke ve : E) : E := fun C ρ => bnd (it C ρ) fun xs => bnd (dcM g (c C) (ke C) (ve C) (blank ρ own) xs []) fun l => pur (.dict l)
/-- the dictionary under way -/
structure Cd (G : Gx) (W : Nat → Kd) (F : Addr → Prop) (S : SA) (g : BA.G) (c : Et) (ke ve : E) (σ : L2.St) (ρ : Rho) (H1 : Hp) (D : Addr) (ds : List BA.D) (R : List (BA.D × BA.D) → Src → Prop) (i : Nat) (H : Hp) : Prop where
  ex : ∃ s l, Ok G W (fun a => F a ∨ a = D) S σ H ρ s ∧ Pres (inS S) H1 H ∧ Own (fun a => F a ∨ a = D) H D (.dict l) ∧ l.length ≤ i ∧ post (dcM g (c G.C) (ke G.C) (ve G.C) ρ (ds.drop i) l) R s
/-- a new container D stands -/
theorem ok_new {G : Gx} {W : Nat → Kd} {F : Addr → Prop} {S : SA} {σ : L2.St} {ρ : Rho} {s : Src} {H : Hp} {D : Addr} {o : HO} (ok : Ok G W F S σ H ρ s) (hD : H D = none) (hm : mutO (some o)) : Ok G W (fun a => F a ∨ a = D) S σ (upd H D o) ρ s := by
  have ok2 := ok.grow (Grow.new (o := o) hD)
  refine ⟨fun a f => ?_, fun a f => .inl (ok.sub a f), ok2.src, fun j e h => ?_, ok2.len⟩
  · rcases f with f | rfl
    · exact ok2.live a f
    · rw [upd_same]; exact hm
  · obtain ⟨v, h1, h2⟩ := ok.slot j e h
    refine ⟨v, h1, ?_⟩
    have live : ∀ a, H a ≠ none → a ≠ D := fun a n z => n (by rw [z]; exact hD)
    have mv : ∀ a, H a ≠ none → (F a ∨ a = D) → F a := fun a n f => f.elim (fun f => f) fun z => absurd z (live a n)
    unfold Slot at *
    cases w : W j with
    | dat =>
      rw [w] at h2
      exact (h2.move mv).pres (Grow.new hD).pres
    | own =>
      rw [w] at h2
      rcases h2 with ⟨a, rfl, f, n, ow⟩ | ⟨c, r⟩
      · exact .inl ⟨a, rfl, .inl f, n, (ow.move mv).grow (Grow.new hD)⟩
      · exact .inr ⟨c, (r.move mv).pres (Grow.new hD).pres⟩
    | fn => rw [w] at h2; exact h2
    | src => rw [w] at h2; exact h2
    | cel => rw [w] at h2; exact h2
    | scr => rw [w] at h2; exact ScrV.pres h2 fun a o u q => Grow.new hD _ _ q
/-- D is written -/
theorem ok_put {G : Gx} {W : Nat → Kd} {F : Addr → Prop} {S : SA} {σ : L2.St} {ρ : Rho} {s0 s : Src} {H1 H : Hp} {D : Addr} {o0 o : HO} (okb : Ok G W F S σ H1 ρ s0) (hD : H1 D = none) (nF : ¬ F D) (ok : Ok G W (fun a => F a ∨ a = D) S σ H ρ s) (hH : H D = some o0) (ht : plainO o0) (hm : mutO (some o)) :
    Ok G W (fun a => F a ∨ a = D) S σ (upd H D o) ρ s := by
  have nS : ¬ inS S D := fun f => nF (okb.sub D f)
  have pr : Pres (fun a => F a ∨ a = D) H (upd H D o) := fun b u n e => by rw [upd_ne fun z => n (.inr z)]; exact e
  refine ⟨fun a f => ?_, ok.sub, ?_, fun j e h => ?_, ok.len⟩
  · by_cases z : a = D
    · subst z; rw [upd_same]; exact hm
    · rw [upd_ne z]; exact ok.live a f
  · exact ok.src.upd nS hH ht
  · obtain ⟨v, h1, h2⟩ := ok.slot j e h
    refine ⟨v, h1, ?_⟩
    unfold Slot at *
    cases w : W j with
    | dat => rw [w] at h2; exact h2.pres pr
    | own =>
      rw [w] at h2
      rcases h2 with ⟨a, rfl, f, n, ow⟩ | ⟨c0, r0⟩
      · have ha : a ≠ D := by
          rintro rfl
          obtain ⟨v0, hv0, hs0⟩ := okb.slot j e h
          rw [h1] at hv0
          cases hv0
          unfold Slot at hs0
          rw [w] at hs0
          rcases hs0 with ⟨a0, ea, f0, _⟩ | ⟨c0, _⟩
          · cases ea
            exact nF f0
          · rcases ow.is with ⟨_, rfl⟩ | ⟨_, rfl⟩ <;> cases c0
        exact .inl ⟨a, rfl, f, n, ow.pres pr (upd_ne ha)⟩
      · exact .inr ⟨c0, r0.pres pr⟩
    | fn => rw [w] at h2; exact h2
    | src => rw [w] at h2; exact h2
    | cel => rw [w] at h2; exact h2
    | scr =>
      rw [w] at h2
      exact ScrV.pres h2 fun a o u q => by rw [upd_ne (fun z => by rw [z, hH] at q; rw [Option.some.inj q] at ht; exact ht)]; exact q
theorem dc_data {G : Gx} {W : Nat → Kd} {F : Addr → Prop} {S : SA} {σ : L2.St} {ρ : Rho} {s : Src} {wi : It} {g : BA.G} {c : Et} {ke ve : E} {vs ts : List Nat} {H1 : Hp} {D : Addr} {ds : List BA.D} {Q : Hp → Prop} {R : List (BA.D × BA.D) → Src → Prop}
    (ok : Ok G W F S σ H1 ρ s) (hD : H1 D = none) (ht : ∀ i ∈ ts, i ∈ vs) (Y : Yl (inS S) F H1 wi ds) (p : post (dcM g (c G.C) (ke G.C) (ve G.C) (BA.blank ρ vs) ds []) R s)
    (done : ∀ H s' l, Pres (inS S) H1 H → SrcOk S H s' → Own (fun a => F a ∨ a = D) H D (.dict l) → R l s' → Q H) :
    ∃ T : Nat → Nat → Hp → Prop, (∃ m, T 0 m (upd H1 D (DO D [] [] []))) ∧ ∀ i m H, T i m H →
      (wi.stop i H ∧ Q H) ∨ (wi.go i H ∧ ∃ Nx : Hp → Prop, (∀ H', Nx H' → ∃ m', m' < m ∧ T (i + 1) m' H') ∧ ∀ x H', wi.yld i H x H' → tG G W ts g x (wipe σ vs) H' fun σ2 H2 => wipe σ2 vs = wipe σ vs ∧ tC1 G W c σ2 H2 fun b H3 =>
        if b = true then tE G W ke σ2 H3 fun y H4 => tE G W ve σ2 H4 fun z H5 => rSetY (.ref D) y z H5 Nx else Nx H3) := by
  have nF : ¬ F D := ok.live.new hD
  have nS : ¬ inS S D := fun f => nF (ok.sub D f)
  refine ⟨fun i m H => m = ds.length - i ∧ i ≤ ds.length ∧ Cd G W F S g c ke ve (wipe σ vs) (BA.blank ρ vs) H1 D ds R i H, ⟨ds.length, by simp, Nat.zero_le _, ⟨s, [], ok_new (ok.blank vs) hD trivial, (Grow.new hD).pres, own_dict (l := []) hD rfl (Nat.zero_le _) .nil .nil rfl, Nat.le_refl _, ?_⟩⟩, ?_⟩
  · rw [List.drop_zero]
    exact p
  · rintro i m H ⟨rfl, hi, s1, l, ok1, g1, ow, hz, p1⟩
    by_cases hlt : i < ds.length
    · refine .inr ⟨Y.go i hlt H g1, fun H' => i + 1 ≤ ds.length ∧ Cd G W F S g c ke ve (wipe σ vs) (BA.blank ρ vs) H1 D ds R (i + 1) H', fun H' h => ⟨ds.length - (i + 1), by omega, rfl, h.1, h.2⟩, fun x H' y => ?_⟩
      rw [List.drop_eq_getElem_cons hlt] at p1
      unfold dcM at p1
      rw [post_bnd] at p1
      obtain ⟨ρ1, e1, p1⟩ := post_opt.mp p1
      obtain ⟨gr, rx⟩ := Y.yld i ds[i] (List.getElem?_eq_getElem hlt) (fun a => F a ∨ a = D) H x H' g1 (g1.mono ok.sub) (fun a n f => f.elim (fun f => f) fun z => absurd hD (by rw [← z]; exact n)) ok1.live y
      refine ⟨_, S, _, s1, _, ρ1, ok1.grow gr, rx, e1, fun σ2 ok2 t2 => ⟨(t2.mono ht).wipe.trans (Touch.wipe ⟨wipe_length _ _, fun i n => wipe_get n⟩), ?_⟩⟩
      rw [post_bnd] at p1
      refine ⟨_, S, _, s1, ok2, post_mono p1 fun b s2 p2 H3 g3 k3 => ?_⟩
      have ok3 := ok2.step g3 k3
      obtain ⟨oD, hoD⟩ := ow.some
      have ok1' : Ok G W (fun a => F a ∨ a = D) S (wipe σ vs) H3 (BA.blank ρ vs) s2 := (ok1.grow gr).step g3 k3
      have g03 : Pres (inS S) H H3 := gr.pres.trans g3
      have g13 : Pres (inS S) H1 H3 := g1.trans g03
      have sub' : ∀ a, inS S a → (F a ∨ a = D) := fun a q => .inl (ok.sub a q)
      have keep : ∀ {Ha Hb : Hp} {d : BA.D}, Pres (inS S) Ha Hb → Own (fun a => F a ∨ a = D) Ha D d → Own (fun a => F a ∨ a = D) Hb D d := fun gg o => by
        obtain ⟨o1, h1⟩ := o.some
        exact o.pres (gg.mono sub') (by rw [h1]; exact gg _ _ nS h1)
      have ow3 := keep g03 ow
      cases b with
      | true =>
        refine iteT ?_
        have p2 : post (bnd (ke G.C ρ1) fun k => bnd (ve G.C ρ1) fun v => if fitK l k && Nat.ble (l.length + 1) 16777216 then dcM g (c G.C) (ke G.C) (ve G.C) (BA.blank ρ vs) (ds.drop (i + 1)) (kvPut l k v) else bad) _ s2 := p2
        refine tE.go ok3 p2 fun dk s3 y H4 g4 ok4 ry p3 => tE.go ok4 p3 fun dv s4 z H5 g5 ok5 rz p4 => ?_
        split at p4
        · rename_i hb
          rw [Bool.and_eq_true] at hb
          have g35 := g4.trans g5
          obtain ⟨ks, vals, ds0, es0, el, hH, zz, ra, rc, ko, le⟩ := (keep g35 ow3).dict
          subst el
          have hl := Nat.le_of_ble_eq_true hb.2
          refine ⟨fun a => F a ∨ a = D, D, ds0, es0, ks, vals, dk, dv, rfl, hH, ra, rc, ko, le, hb.1, .inl (ry.pres (g5.mono sub')), rz, by rw [sizeLine_eq]; omega, fun ks' vs' rk rv ko' z' => ⟨by omega, s4, kvPut (ds0.zip es0) dk dv, ?_, ?_, ?_, ?_, p4⟩⟩
          · exact ok_put (ok.blank vs) hD nF (ok1'.step g35 ok5.src) hH ⟨_, _, _, _, rfl⟩ trivial
          · intro b o n e
            have hb : b ≠ D := fun z => by rw [z, hD] at e; cases e
            rw [upd_ne hb]
            exact (g13.trans g35) b o n e
          · have pr : Pres (fun a => F a ∨ a = D) H5 (upd H5 D (DO D ((kvPut (ds0.zip es0) dk dv).map (·.1)) ks' vs')) := fun b o n e => by rw [upd_ne fun z => n (.inr z)]; exact e
            exact .inr ⟨ks', vs', _, (kvPut (ds0.zip es0) dk dv).map (·.2), by rw [← zip_self], upd_same, z', rk.pres pr, rv.pres pr, ko', by rw [List.length_map, List.length_map]⟩
          · have := put_len (ds0.zip es0) dk dv
            omega
        · exact p4.elim
      | false => exact iteF ⟨by omega, s2, l, ok1', g13, ow3, by omega, p2⟩
    · have e : i = ds.length := by omega
      subst e
      refine .inl ⟨Y.stop H g1, done H s1 l g1 ok1.src ow ?_⟩
      rw [List.drop_length] at p1
      exact p1
theorem dc_of {G : Gx} {W : Nat → Kd} {m : Es} {g : BA.G} {c : Et} {ke ve : E} {vs ts : List Nat} {σ : L2.St} {H : Hp} {Q : VK} (ht : ∀ i ∈ ts, i ∈ vs) (h : tF G W (xDC vs m g c ke ve) σ H Q) :
    tDX (tI G W false m) (tG G W ts g) (tC1 G W c) (tE G W ke) (tE G W ve) vs σ H Q := by
  obtain ⟨F, S, ρ, s, ok, p⟩ := h
  unfold xDC at p
  rw [post_bnd] at p
  refine ⟨F, S, ρ, s, ok, post_mono p fun ds s1 p1 J H1 g1 k1 Y => ?_⟩
  intro D hD
  rw [post_bnd] at p1
  have ok1 := ok.step g1 k1
  have nS : ¬ inS S D := fun f => ok1.live.new hD (ok.sub D f)
  refine dc_data (Q := fun H => Q (.ref D) H) (R := fun r s' => post (pur (PyData.dict r)) _ s') ok1 hD ht Y p1 fun H2 s2 l g2 k2 ow q => ?_
  have hD0 : H D = none := by
    cases e : H D with
    | none => rfl
    | some o => rw [g1 D o nS e] at hD; cases hD
  exact q D H2 (g1.trans g2) k2 hD0 ow
section
variable {G : Gx} {W : Nat → Kd} {X : Cx} {kx vx tg iter : Expr} {ifs : List Expr} {scope : Scope} {pos : Pos} {me : Es} {g : BA.G} {ct : Et} {ke ve : E} {ts : List Nat}
theorem dc_ (hu : X.A.units + 65 < cLine) (own : List (Str × Nat)) (hN : X.N.Nodup) (hi : PI X tg iter (tI G W false me))
    (hg : ∀ (s : Shared) (H : Hp) (C : Addr) (cl : List (Str × Addr)) (fp : List Addr), PG (X.blk s H scope (compEnvC scope cl C X.env) fp) tg (tG G W ts g))
    (hif : ∀ (s : Shared) (H : Hp) (C : Addr) (cl : List (Str × Addr)) (fp : List Addr), PTs (X.blk s H scope (compEnvC scope cl C X.env) fp) ifs (tC1 G W ct))
    (hk : ∀ (s : Shared) (H : Hp) (C : Addr) (cl : List (Str × Addr)) (fp : List Addr), PE (X.blk s H scope (compEnvC scope cl C X.env) fp) kx (tE G W ke))
    (he : ∀ (s : Shared) (H : Hp) (C : Addr) (cl : List (Str × Addr)) (fp : List Addr), PE (X.blk s H scope (compEnvC scope cl C X.env) fp) vx (tE G W ve))
    (hc : X.calm = true := by rfl) (ht : ∀ i ∈ ts, i ∈ own.map (·.2) := by decide) (ok : blkC X.N X.env.scope scope own = true := by rfl) (hs : ∀ x, foldedSetIterable iter X.env x = pure x := by intro _; rfl) :
    PE X (.DictComp kx vx [⟨tg, iter, ifs, 0⟩] scope pos) (tF G W (xDC (own.map (·.2)) me g ct ke ve)) :=
  (pe_dx hu hc hN hi (blkOk_by ok) hg hif hk he hs).weak fun σ H Q q => dc_of ht q
end
end BA

/-! BA39: comprehensions with two for -/
namespace BA
open PySem PySem.Spec
open PyProof.Rows
open L2 hiding St
def comp2M (g : G) (c : Rho → M Bool) (it : Rho → M (List D)) (g1 : G) (c1 : Rho → M Bool) (el : Rho → M D) (vs1 : List Nat) (ρ : Rho) : List D → List D → M (List D)
  | [], acc => pur acc
  | x :: xs, acc => bnd (opt (g x ρ)) fun ρ1 => bnd (c ρ1) fun b =>
    if b then bnd (it ρ1) fun ys => if szOk (acc.length + ys.length) then bnd (compM g1 c1 el (blank ρ1 vs1) ys) fun r => comp2M g c it g1 c1 el vs1 ρ xs (acc ++ r) else bad
    else comp2M g c it g1 c1 el vs1 ρ xs acc
def xComp2 (own vs1 : List Nat) (it : Es) (g : G) (c : Et) (it1 : Es) (g1 : G) (c1 : Et) (el : E) : E := fun C ρ => bnd (it C ρ) fun xs => bnd (comp2M g (c C) (it1 C) g1 (c1 C) (el C) vs1 (blank ρ own) xs []) fun ds => pur (.list ds)
/-- a target leaves the slots of containers of one's own -/
def KeepOwn (W : Nat → Kd) (g : G) : Prop := ∀ d ρ ρ', g d ρ = some ρ' → ∀ j, W j = .own → getV ρ' j = getV ρ j
def KeepOwns (W : Nat → Kd) (g : Gs) : Prop := ∀ ds ρ ρ', g ds ρ = some ρ' → ∀ j, W j = .own → getV ρ' j = getV ρ j
theorem getV_other : ∀ (ρ : Rho) (i j : Nat) (d : D), j ≠ i → getV (setV ρ i d) j = getV ρ j
  | [], _, _, _, _ => rfl
  | _ :: _, 0, 0, _, n => (n rfl).elim
  | _ :: _, 0, _ + 1, _, _ => rfl
  | _ :: _, _ + 1, 0, _, _ => rfl
  | _ :: r, i + 1, j + 1, d, n => getV_other r i j d fun z => n (congrArg (· + 1) z)
theorem ko_var {W : Nat → Kd} (i : Nat) (h : W i = .dat := by rfl) : KeepOwn W (gVar i) := fun d ρ ρ' e j hj => by
  cases e
  exact getV_other ρ i j d fun z => by rw [z, h] at hj; cases hj
theorem ko_nil {W : Nat → Kd} : KeepOwns W gNil := fun ds ρ ρ' e j _ => by
  cases ds with
  | nil => cases e; rfl
  | cons _ _ => cases e
theorem ko_cons {W : Nat → Kd} {g : G} {gs : Gs} (h : KeepOwn W g) (t : KeepOwns W gs) : KeepOwns W (gCons g gs) := fun ds ρ ρ' e j hj => by
  cases ds with
  | nil => cases e
  | cons d ds =>
    simp only [gCons] at e
    split at e
    · rename_i ρ1 e1
      rw [t ds ρ1 ρ' e j hj, h d ρ ρ1 e1 j hj]
    · cases e
theorem ko_tup {W : Nat → Kd} {gs : Gs} (h : KeepOwns W gs) : KeepOwn W (gTup gs) := fun d ρ ρ' e j hj => by
  unfold gTup at e
  split at e
  · exact h _ ρ ρ' e j hj
  · cases e
/-- D is written, where no container of one's own is D -/
theorem ok_put' {G : Gx} {W : Nat → Kd} {F : Addr → Prop} {S : SA} {σ : L2.St} {ρ : Rho} {s : Src} {H : Hp} {D : Addr} {o0 o : HO} (hown : ∀ j a e, W j = .own → getV ρ j = some e → σ[j]? = some (some (.ref a)) → a ≠ D) (nS : ¬ inS S D) (ok : Ok G W (fun a => F a ∨ a = D) S σ H ρ s) (hH : H D = some o0) (ht : plainO o0) (hm : mutO (some o)) :
    Ok G W (fun a => F a ∨ a = D) S σ (upd H D o) ρ s := by
  have pr : Pres (fun a => F a ∨ a = D) H (upd H D o) := fun b u n e => by rw [upd_ne fun z => n (.inr z)]; exact e
  refine ⟨fun a f => ?_, ok.sub, ?_, fun j e h => ?_, ok.len⟩
  · by_cases z : a = D
    · subst z; rw [upd_same]; exact hm
    · rw [upd_ne z]; exact ok.live a f
  · exact ok.src.upd nS hH ht
  · obtain ⟨v, h1, h2⟩ := ok.slot j e h
    refine ⟨v, h1, ?_⟩
    unfold Slot at *
    cases w : W j with
    | dat => rw [w] at h2; exact h2.pres pr
    | own =>
      rw [w] at h2
      rcases h2 with ⟨a, rfl, f, n, ow⟩ | ⟨c0, r0⟩
      · exact .inl ⟨a, rfl, f, n, ow.pres pr (upd_ne (hown j a e w h h1))⟩
      · exact .inr ⟨c0, r0.pres pr⟩
    | fn => rw [w] at h2; exact h2
    | src => rw [w] at h2; exact h2
    | cel => rw [w] at h2; exact h2
    | scr =>
      rw [w] at h2
      exact ScrV.pres h2 fun a o u q => by rw [upd_ne (fun z => by rw [z, hH] at q; rw [Option.some.inj q] at ht; exact ht)]; exact q
structure C2 (G : Gx) (W : Nat → Kd) (F : Addr → Prop) (S : SA) (g : BA.G) (c : Et) (it : Es) (g1 : BA.G) (c1 : Et) (el : E) (vs1 : List Nat) (σ : L2.St) (ρ : Rho) (H1 : Hp) (D : Addr) (ds : List BA.D) (R : List BA.D → Src → Prop) (i : Nat) (H : Hp) : Prop where
  ex : ∃ s acc es, Ok G W (fun a => F a ∨ a = D) S σ H ρ s ∧ Pres (inS S) H1 H ∧ H D = some (.lst acc) ∧ acc.length ≤ sizeLine ∧ Rps (fun a => F a ∨ a = D) H acc es ∧ post (comp2M g (c G.C) (it G.C) g1 (c1 G.C) (el G.C) vs1 ρ (ds.drop i) es) R s
structure C2i (G : Gx) (W : Nat → Kd) (F : Addr → Prop) (S : SA) (g : BA.G) (c : Et) (it : Es) (g1 : BA.G) (c1 : Et) (el : E) (vs1 : List Nat) (σ : L2.St) (ρ : Rho) (σ1 : L2.St) (ρ1 : Rho) (H1 H0 : Hp) (D : Addr) (rest ys : List BA.D) (b0 : Nat) (R : List BA.D → Src → Prop) (j : Nat) (H : Hp) : Prop where
  ex : ∃ s acc es, Ok G W (fun a => F a ∨ a = D) S σ H ρ s ∧ Ok G W (fun a => F a ∨ a = D) S σ1 H ρ1 s ∧ Pres (inS S) H1 H ∧ Pres (fun a => F a ∨ a = D) H0 H ∧ H D = some (.lst acc) ∧ acc.length ≤ b0 + j ∧ Rps (fun a => F a ∨ a = D) H acc es ∧ post (bnd (compM g1 (c1 G.C) (el G.C) ρ1 (ys.drop j)) fun r => comp2M g (c G.C) (it G.C) g1 (c1 G.C) (el G.C) vs1 ρ rest (es ++ r)) R s
theorem c2_data {F : Addr → Prop} {S : SA} {G : Gx} {W : Nat → Kd} {σ : L2.St} {ρ : Rho} {s : Src} {wi : It} {g g1 : BA.G} {c c1 : Et} {it : Es} {el : E} {vs vs1 ts ts1 : List Nat} {H1 : Hp} {D : Addr} {ds : List BA.D} {Q : Hp → Prop} {R : List BA.D → Src → Prop}
    (ok : Ok G W F S σ H1 ρ s) (hD : H1 D = none) (ht : ∀ i ∈ ts, i ∈ vs) (ht1 : ∀ i ∈ ts1, i ∈ vs1) (hw : ∀ i ∈ ts, W i ≠ .own) (hk : KeepOwn W g) (Y : Yl (inS S) F H1 wi ds) (p : post (comp2M g (c G.C) (it G.C) g1 (c1 G.C) (el G.C) vs1 (BA.blank ρ vs) ds []) R s)
    (done : ∀ H s' acc es, Pres (inS S) H1 H → SrcOk S H s' → H D = some (.lst acc) → acc.length ≤ sizeLine → Rps (fun a => F a ∨ a = D) H acc es → R es s' → Q H) :
    ∃ T : Nat → Nat → Hp → Prop, (∃ m, T 0 m (upd H1 D (.lst []))) ∧ ∀ i m H, T i m H →
      (wi.stop i H ∧ Q H) ∨ (wi.go i H ∧ ∃ Nx : Hp → Prop, (∀ H', Nx H' → ∃ m', m' < m ∧ T (i + 1) m' H') ∧ ∀ x H', wi.yld i H x H' → tG G W ts g x (wipe σ vs) H' fun σ2 H2 => wipe σ2 vs = wipe σ vs ∧ tC1 G W c σ2 H2 fun b H3 =>
        if b = true then tI G W true it σ2 H3 fun J1 H4 => ∃ T1 : Nat → Nat → Hp → Prop, (∃ m, T1 0 m H4) ∧ ∀ j k H, T1 j k H →
          (J1.stop j H ∧ Nx H) ∨ (J1.go j H ∧ ∃ Nx1 : Hp → Prop, (∀ H', Nx1 H' → ∃ k', k' < k ∧ T1 (j + 1) k' H') ∧ ∀ x H', J1.yld j H x H' → tG G W ts1 g1 x (wipe σ2 vs1) H' fun σ3 H5 => wipe σ3 vs1 = wipe σ2 vs1 ∧ tC1 G W c1 σ3 H5 fun b H6 =>
            if b = true then tE G W el σ3 H6 fun y H7 => ∃ acc, H7 D = some (.lst acc) ∧ acc.length < sizeLine ∧ Nx1 (upd H7 D (.lst (acc ++ [y]))) else Nx1 H6)
        else Nx H3) := by
  have nF : ¬ F D := ok.live.new hD
  have nS : ¬ inS S D := fun f => nF (ok.sub D f)
  have keepD : ∀ {Ha Hb : Hp} {acc : List V}, Pres (inS S) Ha Hb → Ha D = some (.lst acc) → Hb D = some (.lst acc) := fun g h => g _ _ nS h
  refine ⟨fun i m H => m = ds.length - i ∧ i ≤ ds.length ∧ C2 G W F S g c it g1 c1 el vs1 (wipe σ vs) (BA.blank ρ vs) H1 D ds R i H, ⟨ds.length, by simp, Nat.zero_le _, ⟨s, [], [], ok_new (ok.blank vs) hD trivial, (Grow.new hD).pres, upd_same, Nat.zero_le _, .nil, ?_⟩⟩, ?_⟩
  · rw [List.drop_zero]
    exact p
  · rintro i m H ⟨rfl, hi, s1, acc, es, ok1, g1p, hH, hz, ra, p1⟩
    by_cases hlt : i < ds.length
    · refine .inr ⟨Y.go i hlt H g1p, fun H' => i + 1 ≤ ds.length ∧ C2 G W F S g c it g1 c1 el vs1 (wipe σ vs) (BA.blank ρ vs) H1 D ds R (i + 1) H', fun H' h => ⟨ds.length - (i + 1), by omega, rfl, h.1, h.2⟩, fun x H' y => ?_⟩
      rw [List.drop_eq_getElem_cons hlt] at p1
      unfold comp2M at p1
      rw [post_bnd] at p1
      obtain ⟨ρ1, e1, p1⟩ := post_opt.mp p1
      have noD : ∀ a, H1 a ≠ none → (F a ∨ a = D) → F a := fun a n f => f.elim (fun f => f) fun z => absurd hD (by rw [← z]; exact n)
      obtain ⟨gr, rx⟩ := Y.yld i ds[i] (List.getElem?_eq_getElem hlt) (fun a => F a ∨ a = D) H x H' g1p (g1p.mono ok.sub) noD ok1.live y
      refine ⟨_, S, _, s1, _, ρ1, ok1.grow gr, rx, e1, fun σ2 ok2 t2 => ⟨(t2.mono ht).wipe.trans (Touch.wipe ⟨wipe_length _ _, fun i n => wipe_get n⟩), ?_⟩⟩
      rw [post_bnd] at p1
      refine ⟨_, S, _, s1, ok2, post_mono p1 fun b s2 p2 H3 g3 k3 => ?_⟩
      have ok3 := ok2.step g3 k3
      have sub' : ∀ a, inS S a → (F a ∨ a = D) := fun a q => .inl (ok.sub a q)
      have g03 : Pres (inS S) H H3 := gr.pres.trans g3
      have okb3 : Ok G W (fun a => F a ∨ a = D) S (wipe σ vs) H3 (BA.blank ρ vs) s2 := (ok1.grow gr).step g3 k3
      have hD3 : H3 D = some (.lst acc) := keepD g03 hH
      have ra3 := ra.pres (g03.mono sub')
      cases b with
      | false => exact iteF ⟨by omega, s2, acc, es, okb3, g1p.trans g03, hD3, hz, ra3, p2⟩
      | true =>
        refine iteT ?_
        have p2 : post (bnd (it G.C ρ1) fun ys => if szOk (es.length + ys.length) then bnd (compM g1 (c1 G.C) (el G.C) (BA.blank ρ1 vs1) ys) fun r => comp2M g (c G.C) (it G.C) g1 (c1 G.C) (el G.C) vs1 (BA.blank ρ vs) (ds.drop (i + 1)) (es ++ r) else bad) R s2 := p2
        rw [post_bnd] at p2
        refine ⟨_, S, _, s2, ok3, post_mono p2 fun ys s3 p3 J1 H4 g4 k4 Y1 => ?_⟩
        split at p3
        · rename_i hsz
          have hsz := szOk_le hsz
          have ok4 := ok3.step g4 k4
          have okb4 := okb3.step g4 k4
          have g04 := g03.trans g4
          have hD4 := keepD g4 hD3
          have ra4 := ra3.pres (g4.mono sub')
          have Y1 : Yl (fun a => F a ∨ a = D) (fun a => F a ∨ a = D) H4 J1 ys := Y1
          have hinn : ∀ j a e, W j = .own → getV (BA.blank ρ1 vs1) j = some e → (wipe σ2 vs1)[j]? = some (some (.ref a)) → a ≠ D := fun j a e w h1 h2 => by
            obtain ⟨n1, h1⟩ := getV_blank ρ1 j e vs1 h1
            rw [wipe_get n1] at h2
            rw [hk _ _ _ e1 j w] at h1
            rw [t2.2 j fun z => hw j z w] at h2
            obtain ⟨v0, q1, q2⟩ := (ok.blank vs).slot j e h1
            rw [h2] at q1
            cases q1
            unfold Slot at q2
            rw [w] at q2
            rintro rfl
            rcases q2 with ⟨a0, ea, f0, _⟩ | ⟨c0, r0⟩
            · cases ea
              exact nF f0
            · cases r0 with
              | lst _ h _ _ => cases c0
              | tup _ h _ _ => rw [hD] at h; cases h
              | dct _ h _ _ _ _ _ _ => cases c0
          refine ⟨fun j k H => k = ys.length - j ∧ j ≤ ys.length ∧ C2i G W F S g c it g1 c1 el vs1 (wipe σ vs) (BA.blank ρ vs) (wipe σ2 vs1) (BA.blank ρ1 vs1) H1 H4 D (ds.drop (i + 1)) ys es.length R j H, ⟨ys.length, by simp, Nat.zero_le _, ⟨s3, acc, es, okb4, ok4.blank vs1, g1p.trans g04, .refl _, hD4, by rw [ra.len]; exact Nat.le_refl _, ra4, by rw [List.drop_zero]; exact p3⟩⟩, ?_⟩
          rintro j k H5 ⟨rfl, hj, s4, acc5, es5, okb5, oki5, g15, g45, hD5, hz5, ra5, p5⟩
          by_cases hjt : j < ys.length
          · refine .inr ⟨Y1.go j hjt H5 g45, fun H' => j + 1 ≤ ys.length ∧ C2i G W F S g c it g1 c1 el vs1 (wipe σ vs) (BA.blank ρ vs) (wipe σ2 vs1) (BA.blank ρ1 vs1) H1 H4 D (ds.drop (i + 1)) ys es.length R (j + 1) H', fun H' h => ⟨ys.length - (j + 1), by omega, rfl, h.1, h.2⟩, fun x2 H6 y2 => ?_⟩
            rw [List.drop_eq_getElem_cons hjt] at p5
            unfold compM at p5
            rw [bnd_assoc, post_bnd] at p5
            obtain ⟨ρ2, e2, p5⟩ := post_opt.mp p5
            obtain ⟨gr2, rx2⟩ := Y1.yld j ys[j] (List.getElem?_eq_getElem hjt) (fun a => F a ∨ a = D) H5 x2 H6 g45 g45 (fun a n f => f) okb5.live y2
            refine ⟨_, S, _, s4, _, ρ2, oki5.grow gr2, rx2, e2, fun σ3 ok6 t3 => ⟨(t3.mono ht1).wipe.trans (Touch.wipe ⟨wipe_length _ _, fun i n => wipe_get n⟩), ?_⟩⟩
            rw [bnd_assoc, post_bnd] at p5
            refine ⟨_, S, _, s4, ok6, post_mono p5 fun b2 s5 p6 H7 g7 k7 => ?_⟩
            have ok7 := ok6.step g7 k7
            have g57 : Pres (inS S) H5 H7 := gr2.pres.trans g7
            have okb7 : Ok G W (fun a => F a ∨ a = D) S (wipe σ vs) H7 (BA.blank ρ vs) s5 := (okb5.grow gr2).step g7 k7
            have oki7 : Ok G W (fun a => F a ∨ a = D) S (wipe σ2 vs1) H7 (BA.blank ρ1 vs1) s5 := (oki5.grow gr2).step g7 k7
            have hD7 : H7 D = some (.lst acc5) := keepD g57 hD5
            have ra7 := ra5.pres (g57.mono sub')
            cases b2 with
            | false =>
              have p6 : post (bnd (compM g1 (c1 G.C) (el G.C) (BA.blank ρ1 vs1) (ys.drop (j + 1))) fun r => comp2M g (c G.C) (it G.C) g1 (c1 G.C) (el G.C) vs1 (BA.blank ρ vs) (ds.drop (i + 1)) (es5 ++ r)) R s5 := p6
              exact iteF ⟨by omega, s5, acc5, es5, okb7, oki7, g15.trans g57, g45.trans (g57.mono sub'), hD7, by omega, ra7, p6⟩
            | true =>
              refine iteT ?_
              have p6 : post (bnd (bnd (el G.C ρ2) fun d => bnd (compM g1 (c1 G.C) (el G.C) (BA.blank ρ1 vs1) (ys.drop (j + 1))) fun r => pur (d :: r)) fun r => comp2M g (c G.C) (it G.C) g1 (c1 G.C) (el G.C) vs1 (BA.blank ρ vs) (ds.drop (i + 1)) (es5 ++ r)) R s5 := p6
              rw [bnd_assoc] at p6
              refine tE.go ok7 p6 fun d s6 yv H8 g8 ok8 ry p7 => ⟨acc5, keepD g8 hD7, by omega, by omega, s6, acc5 ++ [yv], es5 ++ [d], ?_, ?_, ?_, ?_, upd_same, by rw [List.length_append]; show _ + 1 ≤ _; omega, ?_, ?_⟩
              · exact ok_put (ok.blank vs) hD nF (okb7.step g8 ok8.src) (keepD g8 hD7) trivial trivial
              · exact ok_put' hinn nS (oki7.step g8 ok8.src) (keepD g8 hD7) trivial trivial
              · intro b o n e
                have hb : b ≠ D := fun z => by rw [z, hD] at e; cases e
                rw [upd_ne hb]
                exact ((g15.trans g57).trans g8) b o n e
              · intro b o n e
                have hb : b ≠ D := fun z => n (.inr z)
                rw [upd_ne hb]
                exact ((g45.trans (g57.mono sub')).trans (g8.mono sub')) b o n e
              · have pr : Pres (fun a => F a ∨ a = D) H8 (upd H8 D (.lst (acc5 ++ [yv]))) := fun b o n e => by rw [upd_ne fun z => n (.inr z)]; exact e
                exact ((ra7.pres (g8.mono sub')).app (.cons ry .nil)).pres pr
              · rw [bnd_assoc, post_bnd] at p7
                rw [post_bnd]
                refine post_mono p7 fun r s7 h => ?_
                rw [bnd_pur] at h
                rw [List.append_assoc]
                exact h
          · have e : j = ys.length := by omega
            subst e
            refine .inl ⟨Y1.stop H5 g45, by omega, s4, acc5, es5, okb5, g15, hD5, by omega, ra5, ?_⟩
            rw [List.drop_length] at p5
            have p5 : post (comp2M g (c G.C) (it G.C) g1 (c1 G.C) (el G.C) vs1 (BA.blank ρ vs) (ds.drop (i + 1)) (es5 ++ [])) R s4 := p5
            rw [List.append_nil] at p5
            exact p5
        · exact p3.elim
    · have e : i = ds.length := by omega
      subst e
      refine .inl ⟨Y.stop H g1p, done H s1 acc es g1p ok1.src hH hz ra ?_⟩
      rw [List.drop_length] at p1
      exact p1
theorem lc2_of {G : Gx} {W : Nat → Kd} {m m1 : Es} {g g1 : BA.G} {c c1 : Et} {el : E} {vs vs1 ts ts1 : List Nat} {σ : L2.St} {H : Hp} {Q : VK} (ht : ∀ i ∈ ts, i ∈ vs) (ht1 : ∀ i ∈ ts1, i ∈ vs1) (hw : ∀ i ∈ ts, W i ≠ .own) (hk : KeepOwn W g) (h : tF G W (xComp2 vs vs1 m g c m1 g1 c1 el) σ H Q) :
    tLc2 (tI G W false m) (tG G W ts g) (tC1 G W c) (tI G W true m1) (tG G W ts1 g1) (tC1 G W c1) (tE G W el) vs vs1 σ H Q := by
  obtain ⟨F, S, ρ, s, ok, p⟩ := h
  unfold xComp2 at p
  rw [post_bnd] at p
  refine ⟨F, S, ρ, s, ok, post_mono p fun ds s1 p1 J H1 g1 k1 Y => ?_⟩
  intro D hD
  rw [post_bnd] at p1
  have ok1 := ok.step g1 k1
  have nS : ¬ inS S D := fun f => ok1.live.new hD (ok.sub D f)
  refine c2_data (Q := fun H => Q (.ref D) H) (R := fun r s' => post (pur (PyData.list r)) _ s') ok1 hD ht ht1 hw hk Y p1 fun H2 s2 acc es g2 k2 hH hz ra q => ?_
  have hD0 : H D = none := by
    cases e : H D with
    | none => rfl
    | some o => rw [g1 D o nS e] at hD; cases hD
  exact q D H2 (g1.trans g2) k2 hD0 (.inl ⟨acc, es, rfl, hH, hz, ra⟩)
section
variable {G : Gx} {W : Nat → Kd} {X : Cx} {elt tg iter tg1 iter1 : Expr} {ifs ifs1 : List Expr} {scope : Scope} {pos : Pos} {me me1 : Es} {g g1 : BA.G} {ct ct1 : Et} {el : E} {ts ts1 : List Nat}
theorem lc2_ (own : List (Str × Nat)) (vs1 : List Nat) (hN : X.N.Nodup) (hi : PI X tg iter (tI G W false me))
    (hg : ∀ (s : Shared) (H : Hp) (C : Addr) (cl : List (Str × Addr)) (fp : List Addr), PG (X.blk s H scope (compEnvC scope cl C X.env) fp) tg (tG G W ts g))
    (hif : ∀ (s : Shared) (H : Hp) (C : Addr) (cl : List (Str × Addr)) (fp : List Addr), PTs (X.blk s H scope (compEnvC scope cl C X.env) fp) ifs (tC1 G W ct))
    (hi1 : ∀ (s : Shared) (H : Hp) (C : Addr) (cl : List (Str × Addr)) (fp : List Addr), PI (X.blk s H scope (compEnvC scope cl C X.env) fp) tg1 iter1 (tI G W true me1))
    (hg1 : ∀ (s : Shared) (H : Hp) (C : Addr) (cl : List (Str × Addr)) (fp : List Addr), PG (X.blk s H scope (compEnvC scope cl C X.env) fp) tg1 (tG G W ts1 g1))
    (hif1 : ∀ (s : Shared) (H : Hp) (C : Addr) (cl : List (Str × Addr)) (fp : List Addr), PTs (X.blk s H scope (compEnvC scope cl C X.env) fp) ifs1 (tC1 G W ct1))
    (he : ∀ (s : Shared) (H : Hp) (C : Addr) (cl : List (Str × Addr)) (fp : List Addr), PE (X.blk s H scope (compEnvC scope cl C X.env) fp) elt (tE G W el)) (hk : KeepOwn W g)
    (hc : X.calm = true := by rfl) (ht : ∀ i ∈ ts, i ∈ own.map (·.2) := by decide) (ht1 : ∀ i ∈ ts1, i ∈ vs1 := by decide) (hw : ∀ i ∈ ts, W i ≠ .own := by decide) (hv : ∀ i ∈ vs1, i ∈ own.map (·.2) := by decide) (ok : blkC X.N X.env.scope scope own = true := by rfl) (hs : ∀ x, foldedSetIterable iter X.env x = pure x := by intro _; rfl) (hs1 : ∀ env x, foldedSetIterable iter1 env x = pure x := by intro _ _; rfl) :
    PE X (.ListComp elt [⟨tg, iter, ifs, 0⟩, ⟨tg1, iter1, ifs1, 0⟩] scope pos) (tF G W (xComp2 (own.map (·.2)) vs1 me g ct me1 g1 ct1 el)) :=
  (pe_lc2 hc hN hi (blkOk_by ok) hv hg hif hi1 hg1 hif1 he hs hs1).weak fun σ H Q q => lc2_of ht ht1 hw hk q
theorem setL2_ (i : Nat) (own : List (Str × Nat)) (vs1 : List Nat) {y : Str} {p p1 : Pos} (hN : X.N.Nodup) (hi : PI X tg iter (tI G W false me))
    (hg : ∀ (s : Shared) (H : Hp) (C : Addr) (cl : List (Str × Addr)) (fp : List Addr), PG (X.blk s H scope (compEnvC scope cl C X.env) fp) tg (tG G W ts g))
    (hif : ∀ (s : Shared) (H : Hp) (C : Addr) (cl : List (Str × Addr)) (fp : List Addr), PTs (X.blk s H scope (compEnvC scope cl C X.env) fp) ifs (tC1 G W ct))
    (hi1 : ∀ (s : Shared) (H : Hp) (C : Addr) (cl : List (Str × Addr)) (fp : List Addr), PI (X.blk s H scope (compEnvC scope cl C X.env) fp) tg1 iter1 (tI G W true me1))
    (hg1 : ∀ (s : Shared) (H : Hp) (C : Addr) (cl : List (Str × Addr)) (fp : List Addr), PG (X.blk s H scope (compEnvC scope cl C X.env) fp) tg1 (tG G W ts1 g1))
    (hif1 : ∀ (s : Shared) (H : Hp) (C : Addr) (cl : List (Str × Addr)) (fp : List Addr), PTs (X.blk s H scope (compEnvC scope cl C X.env) fp) ifs1 (tC1 G W ct1))
    (he : ∀ (s : Shared) (H : Hp) (C : Addr) (cl : List (Str × Addr)) (fp : List Addr), PE (X.blk s H scope (compEnvC scope cl C X.env) fp) elt (tE G W el)) (hk : KeepOwn W g)
    (hy : X.N[i]? = some y := by rfl) (hyl : X.env.scope.names.lookup y = some .local := by rfl) (hwy : (W i = .own ∨ W i = .dat) := by first | exact .inl rfl | exact .inr rfl)
    (hsw : swapsWith (.ListComp elt [⟨tg, iter, ifs, 0⟩, ⟨tg1, iter1, ifs1, 0⟩] scope p) (some (.Name y p1)) pos.line X.env = pure true := by exact sw_true rfl rfl rfl rfl)
    (hc : X.calm = true := by rfl) (ht : ∀ i ∈ ts, i ∈ own.map (·.2) := by decide) (ht1 : ∀ i ∈ ts1, i ∈ vs1 := by decide) (hw : ∀ i ∈ ts, W i ≠ .own := by decide) (hv : ∀ i ∈ vs1, i ∈ own.map (·.2) := by decide) (ok : blkC X.N X.env.scope scope own = true := by rfl) (hs : ∀ x, foldedSetIterable iter X.env x = pure x := by intro _; rfl) (hs1 : ∀ env x, foldedSetIterable iter1 env x = pure x := by intro _ _; rfl) :
    PS X (.Assign [.Name y p1] (.ListComp elt [⟨tg, iter, ifs, 0⟩, ⟨tg1, iter1, ifs1, 0⟩] scope p) pos) (tS G W (sSet i (xComp2 (own.map (·.2)) vs1 me g ct me1 g1 ct1 el))) :=
  ⟨fun pins s0 σ H D I q => (ps_setLc2 hc hN hy hyl hsw hi (blkOk_by ok) hv hg hif hi1 hg1 hif1 he hs hs1).run pins s0 σ H D I (lc2_of ht ht1 hw hk (asg_any (by rw [I.len]; exact (List.getElem?_eq_some_iff.mp hy).1) hwy q))⟩
end
end BA

/-! BA40: a container of one's own that is only read from here on -/
namespace BA
open PySem PySem.Spec
open PyProof.Rows
open L2 hiding St
def frzK (W : Nat → Kd) (i : Nat) : Nat → Kd := fun j => bif Nat.beq j i then .dat else W j
theorem frzK_i (W : Nat → Kd) (i : Nat) : frzK W i i = .dat := by
  unfold frzK
  rw [Nat.beq_refl]
  rfl
theorem frzK_ne (W : Nat → Kd) {i j : Nat} (h : j ≠ i) : frzK W i j = W j := by
  unfold frzK
  have : Nat.beq j i = false := by
    cases e : Nat.beq j i with
    | false => rfl
    | true => exact absurd (Nat.eq_of_beq_eq_true e) h
  rw [this]
  rfl
/-- it must end with a value -/
def sFrz (m : BA.St) : BA.St := fun C ρ => bnd (m C ρ) fun f => match f with
  | .ret d => pur (.ret d)
  | _ => bad
theorem Own.rp {F : Addr → Prop} {H : Hp} {a : Addr} {d : D} (o : Own F H a d) {F' : Addr → Prop} (h : ∀ b, F' b → F b) (n : ¬ F' a) : Rp F' H (.ref a) d := by
  rcases o with ⟨xs, ds, rfl, h1, z, r⟩ | ⟨ks, vs, ds, es, rfl, h1, z, r, r', k, l⟩
  · exact .lst n h1 z (r.move fun b _ q => h b q)
  · exact .dct n h1 z (r.move fun b _ q => h b q) (r'.move fun b _ q => h b q) k rfl l
theorem Own.less {F : Addr → Prop} {H : Hp} {a : Addr} {d : D} (o : Own F H a d) {F' : Addr → Prop} (h : ∀ b, F' b → F b) : Own F' H a d := by
  rcases o with ⟨xs, ds, rfl, h1, z, r⟩ | ⟨ks, vs, ds, es, rfl, h1, z, r, r', k, l⟩
  · exact .inl ⟨xs, ds, rfl, h1, z, r.move fun b _ q => h b q⟩
  · exact .inr ⟨ks, vs, ds, es, rfl, h1, z, r.move fun b _ q => h b q, r'.move fun b _ q => h b q, k, l⟩
theorem Sat.frz {G : Gx} {W : Nat → Kd} {F0 : Addr → Prop} {H0 : Hp} {L : List ((Addr → Prop) × Hp)} {F : Addr → Prop} {S : SA} {σ : L2.St} {H : Hp} {ρ : Rho} {s : Src} (sa : Sat G W F0 H0 L F S σ H ρ s) (i : Nat) (hw : W i = .own) : ∃ F', Sat G (frzK W i) F0 H0 L F' S σ H ρ s := by
  obtain ⟨ok, f0, ent, trk, nf, dis, rf, liv⟩ := sa
  have wne : ∀ j, frzK W i j = .own → j ≠ i ∧ W j = .own := fun j h => by
    by_cases e : j = i
    · subst e
      rw [frzK_i] at h
      cases h
    · rw [frzK_ne W e] at h
      exact ⟨e, h⟩
  have go : ∀ F' : Addr → Prop, (∀ b, F' b → F b) → (∀ b, inS S b → F' b) → (∀ b, F0 b → F' b) → (∀ j b, j ≠ i → W j = .own → σ[j]? = some (some (.ref b)) → F b → F' b) → (∀ d, getV ρ i = some d → ∃ v, σ[i]? = some (some v) ∧ Rp F' H v d) → Sat G (frzK W i) F0 H0 L F' S σ H ρ s := fun F' h1 h2 h3 h4 h5 => by
    refine ⟨⟨fun a q => ok.live a (h1 a q), h2, ok.src, fun j d e => ?_, ok.len⟩, h3, ent, fun j a w q => trk j a (wne j w).2 q, fun j a w q f => nf j a (wne j w).2 q (h1 a f), fun j k a n w w' q q' f => dis j k a n (wne j w).2 (wne k w').2 q q' (h1 a f), fun r hr => ⟨(rf r hr).1, fun a f => (rf r hr).2.1 a (h1 a f), (rf r hr).2.2⟩, liv⟩
    by_cases e' : j = i
    · subst e'
      obtain ⟨v, q1, q2⟩ := h5 d e
      refine ⟨v, q1, ?_⟩
      unfold Slot
      rw [frzK_i]
      exact q2
    · obtain ⟨v, q1, q2⟩ := ok.slot j d e
      refine ⟨v, q1, ?_⟩
      unfold Slot at q2 ⊢
      rw [frzK_ne W e']
      cases hk : W j with
      | dat =>
        simp only [hk] at q2 ⊢
        exact q2.move fun b _ q => h1 b q
      | own =>
        simp only [hk] at q2 ⊢
        rcases q2 with ⟨a, rfl, fa, na, o⟩ | ⟨c, r⟩
        · exact .inl ⟨a, rfl, h4 j a e' hk q1 fa, na, o.less h1⟩
        · exact .inr ⟨c, r.move fun b _ q => h1 b q⟩
      | fn => simp only [hk] at q2 ⊢; exact q2
      | src => simp only [hk] at q2 ⊢; exact q2
      | cel => simp only [hk] at q2 ⊢; exact q2
      | scr => simp only [hk] at q2 ⊢; exact q2
  cases hd : getV ρ i with
  | none => exact ⟨F, go F (fun _ h => h) ok.sub f0 (fun _ _ _ _ _ h => h) fun d e => by rw [hd] at e; cases e⟩
  | some d =>
    obtain ⟨v, q1, q2⟩ := ok.slot i d hd
    unfold Slot at q2
    simp only [hw] at q2
    rcases q2 with ⟨a, rfl, fa, na, o⟩ | ⟨c, r⟩
    · refine ⟨fun b => F b ∧ b ≠ a, go _ (fun b h => h.1) (fun b h => ⟨ok.sub b h, fun e => na (by rw [← e]; exact h)⟩) (fun b h => ⟨f0 b h, fun e => ?_⟩) (fun j b n w q f => ⟨f, fun e => ?_⟩) fun d' e => ?_⟩
      · subst e
        exact liv.ne h (nf i b hw q1 fa)
      · subst e
        exact dis j i b n w hw q q1 f
      · rw [hd] at e
        cases e
        exact ⟨.ref a, q1, o.rp (fun b h => h.1) fun h => h.2 rfl⟩
    · exact ⟨F, go F (fun _ h => h) ok.sub f0 (fun _ _ _ _ _ h => h) fun d' e => by
        rw [hd] at e
        cases e
        exact ⟨v, q1, r⟩⟩
theorem ss_frz {G : Gx} {W : Nat → Kd} {X : Cx} {e : List Stmt} {m : BA.St} (i : Nat) (h : PSs X e (tS G (frzK W i) m)) (hw : W i = .own := by rfl) : PSs X e (tS G W (sFrz m)) :=
  h.weak fun D σ H ⟨F0, H0, L, F, S, ρ, s, sa, p⟩ => by
    obtain ⟨F', sa'⟩ := sa.frz i hw
    refine ⟨F0, H0, L, F', S, ρ, s, sa', ?_⟩
    unfold sFrz at p
    rw [post_bnd] at p
    refine post_mono p fun f s' q => ?_
    cases f with
    | ret d => exact q
    | next ρ' => exact q.elim
    | brk ρ' => exact q.elim
    | cont ρ' => exact q.elim
end BA

set_option maxHeartbeats 1000000
/-! BA43: a lambda as the key of sorted -/
namespace BA
open PySem PySem.Spec
open PyProof.Rows
open L2 hiding St

/-! ### the making of the lambda -/
section
variable {X : Cx} {pins : List (Addr × Obj)} {σ : L2.St} {H : Hp} {s : Shared}
theorem lam_new {c P : Addr} {params : Arguments} {body : Expr} {scope : Scope} {pos : Pos} {E : Value → Shared → Prop} {Q : Value → Shared → Prop} (I : Inv X pins σ H s) (TB : LamX.TabB X.base X.mg c P) (hcode : X.env.code = .ref c)
    (hT : LamX.TabS H P (X.env.qual ++ "<lambda>")) (hdef : defaultsOf params X.env = ([], [])) (hfree : ∀ y ∈ scope.names, y.2 = .free → ∃ c, X.env.cells.lookup y.1 = some c)
    (h : ∀ (f c' : Addr) (pm ctv : Value) (H1 : Hp) (s' : Shared), Inv X pins σ H1 s' → (∀ b o, b ≠ P → H b = some o → H1 b = some o) → LamX.TabS H1 P (X.env.qual ++ "<lambda>") →
      s'.heap.get? f = some (PySem.W.kla_obj "<lambda>" (X.env.qual ++ "<lambda>") params body scope (cloFrom X.env.cells scope.names []) pm c' ctv) → s'.heap.CodeRec (.ref c') (X.env.qual ++ "<lambda>") → Q (.ref f) s') :
    wpAny (model X.prog X.w) X.A (eval (.Lambda params body scope pos) X.env) Q E s := by
  obtain ⟨ps, hP, ht, ha⟩ := hT
  refine PySem.W.kla_eval hdef ?_
  have bP : s.heap.BuiltinsAt X.mg P := TB.bm.keeps I.bk
  have hP' : s.heap.get? P = some { cls := .none, data := .fields ps } := I.hok P _ hP
  have glob := I.mod.glob.keeps I.bk
  have code := TB.code.keeps I.bk
  cases hc : codeAmong pos ps.toList with
  | none =>
    refine PySem.W.kla_makeFunction (mg := X.mg) (c := c) (P := P) (ps := ps) (closure_ok hfree) I.ok.glob glob hcode code hP' ht hc TB.gP bP fun c' ctv h' tk hx hge hlt hrec htb => ?_
    have rec2 := hrec
    obtain ⟨c2, oc, vs, t, e2, hoc, hd, hv⟩ := hrec
    cases e2
    have nC : H c' = none := I.hok.fresh hge
    have nPc : P ≠ c' := ne_of_none hP nC
    have I1 := LamX.inv_table (t' := tk) (more := #[rawInt pos.line, rawInt pos.col, .ref c']) (h' := h'.push (PySem.W.kla_obj "<lambda>" (X.env.qual ++ "<lambda>") params body scope (cloFrom X.env.cells scope.names []) ((X.mg "__name__").getD .none) c' ctv)) I hP
      (fun b o hb e => Heap.get?_push_of_some _ (hx b o hb e)) (Heap.get?_push_of_some _ htb) hge ⟨oc, vs, t, Heap.get?_push_of_some _ hoc, hd, hv⟩
    have kp : ∀ b o, b ≠ P → H b = some o → upd (upd H P (.tbl (ps ++ #[rawInt pos.line, rawInt pos.col, .ref c']))) c' (LamX.CodeO c' (X.env.qual ++ "<lambda>")) b = some o := fun b o hb e => by rw [upd_ne (ne_of_none e nC), upd_ne hb]; exact e
    refine h h'.objs.size c' _ ctv _ _ I1 kp ⟨_, by rw [upd_ne nPc, upd_same], by rw [Array.toList_append]; exact PySem.TriplesOk_snoc _ _ _ _ ht, fun p' cv hcv => ?_⟩ (Heap.get?_push_size _ rfl) ?_
    · rw [Array.toList_append] at hcv
      rcases LamX.among_app _ ht hcv with z | z
      · obtain ⟨c0, e1, e2⟩ := ha p' cv z
        exact ⟨c0, e1, kp _ _ (fun z => by rw [z, hP] at e2; exact LamX.codeO_ne ps (Option.some.inj e2).symm) e2⟩
      · exact ⟨c', z, upd_same⟩
    · obtain ⟨c3, oc3, vs3, t3, q1, q2, q3, q4⟩ := rec2
      exact ⟨c3, oc3, vs3, t3, q1, Heap.get?_push_of_some _ q2, q3, q4⟩
  | some cv =>
    obtain ⟨c', e, hco⟩ := ha pos cv hc
    subst e
    refine PySem.W.kla_makeFunctionHit (mg := X.mg) (c := c) (P := P) (ps := ps) (closure_ok hfree) I.ok.glob glob hcode code hP' ht hc bP fun ctv h' tk hx hsz => ?_
    have I1 : Inv X pins σ H { s with heap := h'.push (PySem.W.kla_obj "<lambda>" (X.env.qual ++ "<lambda>") params body scope (cloFrom X.env.cells scope.names []) ((X.mg "__name__").getD .none) c' ctv), toks := tk } := I.kept fun b o e => Heap.get?_push_of_some _ (hx b o e)
    obtain ⟨⟨oc, vs, t, hoc, hdc, hvc⟩, _, _⟩ := I1.hok c' _ hco
    exact h h'.objs.size c' _ ctv H _ I1 (fun b o _ e => e) ⟨ps, hP, ht, ha⟩ (Heap.get?_push_size _ rfl) ⟨c', oc, vs, t, rfl, hoc, hdc, hvc⟩
end
/-! ### the lambda called -/
section
variable {P : Program} {w : World} {A : Around} {s : Shared}
theorem lam_call {x name qual : Str} {f c' : Addr} {params : Arguments} {body : Expr} {scope : Scope} {pm ctv v : Value} {Q : Value → Shared → Prop} (ho : s.heap.get? f = some (PySem.W.kla_obj name qual params body scope [] pm c' ctv)) (hcd : s.heap.CodeRec (.ref c') qual)
    (hbind : bindArgs (PySem.W.kla_fn name qual params body scope [] pm (.ref c') ctv) ⟨[v], []⟩ = pure [(x, v)]) (hk : scope.kind = .function) (hco : scope.isCoroutine = false) (hgen : scope.isGenerator = false) (hcell : ∀ y ∈ scope.names, y.2 ≠ .cell) (hx : scope.names.lookup x = some .local)
    (lim : s.heap.NoLimit) (room : A.depth < recursionLimit)
    (h : ∀ h₁ tk, (∀ b o, s.heap.get? b = some o → h₁.get? b = some o) → h₁.Ns s.heap.objs.size (fun y => [(x, v)].reverse.lookup y) →
      wpAny (model P w) (A.deeper (PySem.W.envX qual scope s.heap.objs.size f (.ref c') [])) (eval body (PySem.W.envX qual scope s.heap.objs.size f (.ref c') [])) Q (fun _ _ => False) { s with heap := h₁, toks := tk }) :
    wpAny (model P w) A (call (.ref f) [v]) Q (fun _ _ => False) s := by
  refine wpAny_call (PySem.W.kla_callFunE room ho rfl hco hgen rfl hcd ?_)
  rw [hbind]
  refine wpAny_pure (wpAny_newFunctionEnv hcell (fun y hy => ?_) (fun h₁ hns hsb => ?_) hk)
  · rw [List.mem_singleton] at hy
    rw [hy]
    exact hx
  · have kp : ∀ b o, s.heap.get? b = some o → h₁.get? b = some o := fun b o e => hsb.extBut b o (Nat.ne_of_lt (Heap.lt_size e)) (Heap.get?_push_of_some _ e)
    refine ⟨lim.keeps kp, ?_⟩
    show codeAny _ _ (.expr body (PySem.W.envX qual scope s.heap.objs.size f (.ref c') [])) _ _
    exact PySem.W.kla_codeExpr (wpAny_mono (h h₁ _ kp hns) (fun u s' q => q) fun e s' q => q.elim)
end
/-- data without lists and dictionaries -/
def noL : D → Bool
  | .list _ => false
  | .dict _ => false
  | .tuple xs => noLs xs
  | _ => true
where noLs : List D → Bool
  | [] => true
  | d :: ds => noL d && noLs ds
mutual
theorem reads_noL {h : Heap} : ∀ {v : Value} {d : D} {as : List Addr}, Reads h v d as → noL d = true → as = []
  | _, _, _, .none, _ => rfl
  | _, _, _, .bool _, _ => rfl
  | _, _, _, .int _ _, _ => rfl
  | _, _, _, .str _ _, _ => rfl
  | _, _, _, .list _ _ _ _, n => by simp [noL] at n
  | _, _, _, .tuple _ _ _ r, n => readsAll_noL r (by simpa [noL] using n)
  | _, _, _, .dict _ _ _ _ _, n => by simp [noL] at n
theorem readsAll_noL {h : Heap} : ∀ {vs : List Value} {ds : List D} {as : List Addr}, ReadsAll h vs ds as → noL.noLs ds = true → as = []
  | _, _, _, .nil, _ => rfl
  | _, _, _, .cons r t, n => by
    simp only [noL.noLs, Bool.and_eq_true] at n
    rw [reads_noL r n.1, readsAll_noL t n.2]
    rfl
end
/-! ### (-len(x), x) -/
section
variable {P : Program} {w : World} {A : Around} {s : Shared} {mg mb : Str → Option Value}
theorem body_len {env : Env} {x : Str} {t : Addr} {xs : Array Value} {Q : Value → Shared → Prop} {E : Value → Shared → Prop} {p1 p2 p3 : Pos} (hk : env.scope.kind = .function) (hx : env.kindOf x = some .local) (hns : s.heap.Ns env.locals (fun y => [(x, Value.ref t)].reverse.lookup y))
    (hl : env.kindOf "len" = some .globalImplicit) (hg : s.heap.Ns env.globals mg) (hm : mg "len" = none) (hb : s.heap.Ns env.builtins mb) (hbl : mb "len" = some (.builtin "len")) (ht : s.heap.IsTuple t xs) (hz : xs.size ≤ sizeLine) (hd : (x == ("__debug__" : Str)) = false)
    (h : Q (.int xs.size (s.toks + 1)) { s with toks := s.toks + 1 + 1 }) : wpAny (model P w) A (eval (.Call (.Name "len" p1) [.Name x p2] [] p3) env) Q E s := by
  refine wpAny_Call_Name_kw (Calls.Name_function_global hk hl (Calls.loadGlobal_builtin hg hm hb hbl ?_))
  refine Calls.callWith_builtin rfl (Calls.evalArgs_plain (Calls.spliced_cons (wpAny_Name (wpAny_loadName_local hk hx hns (v := .ref t) ?_ (Calls.spliced_nil ?_)) hd)))
  · simp
  · have hn := line63
    exact len_tuple ht (by omega) h
/-- a key's body: minus the length, then the thing itself -/
inductive NegB (x : Str) : Expr → Prop
  | neg {p1 p2 p3 p4 p5 p6 : Pos} {kk : Nat} : NegB x (.Tuple [.UnaryOp .USub (.Call (.Name "len" p1) [.Name x p2] [] p3) p4, .Name x p5] kk p6)
  | sub {p0 p1 p2 p3 p4 p5 p6 : Pos} {j kk : Nat} : NegB x (.Tuple [.BinOp (.Constant (.int 0) j p0) .Sub (.Call (.Name "len" p1) [.Name x p2] [] p3) p4, .Name x p5] kk p6)
theorem reads_tup {h : Heap} {t : Addr} {ds : List D} (r : Reads h (.ref t) (.tuple ds) []) : ∃ xs : Array Value, h.IsTuple t xs ∧ xs.size = ds.length := by
  cases r with
  | @tuple p o vs n _ as1 h1 h2 h3 h4 => exact ⟨vs, ⟨o, h1, h2, n, h3⟩, by simpa using PySem.SeqAt.ReadsAll.length _ _ _ h4⟩
theorem body_neg {env : Env} {x : Str} {t : Addr} {ds : List D} {body : Expr} (nb : NegB x body) (hk : env.scope.kind = .function) (hx : env.kindOf x = some .local) (hns : s.heap.Ns env.locals (fun y => [(x, Value.ref t)].reverse.lookup y))
    (hl : env.kindOf "len" = some .globalImplicit) (hg : s.heap.Ns env.globals mg) (hm : mg "len" = none) (hb : s.heap.Ns env.builtins mb) (hbl : mb "len" = some (.builtin "len")) (r : Reads s.heap (.ref t) (.tuple ds) []) (hz : ds.length ≤ sizeLine) (hd : (x == ("__debug__" : Str)) = false) :
    wpAny (model P w) A (eval body env) (PySem.W.KeyPure (.tuple [.int (-(ds.length : Int)), .tuple ds]) s) (fun _ _ => False) s := by
  obtain ⟨xs, ht, hs⟩ := reads_tup r
  have hz' : xs.size ≤ sizeLine := by rw [hs]; exact hz
  have last : ∀ {tk : Nat} {u : Nat} {pos : Pos} {p5 : Pos}, wpAny (model P w) A (spliced ((false, eval (.Name x p5) env) :: backTo pos (starEach [] env))) (fun vs s₂ => ([Value.int (-(ds.length : Int)) u] ++ vs).length ≤ sizeLine ∧ PySem.W.KeyPure (.tuple [.int (-(ds.length : Int)), .tuple ds]) s (.ref s₂.heap.objs.size) { s₂ with heap := s₂.heap.push { cls := .type "tuple", data := .seq ([Value.int (-(ds.length : Int)) u] ++ vs).toArray } }) (fun _ _ => False) { s with toks := tk } := by
    intro tk u pos p5
    refine Calls.spliced_cons (wpAny_Name (wpAny_loadName_local hk hx hns (v := .ref t) ?_ (Calls.spliced_nil ?_)) hd)
    · simp
    refine ⟨by show 2 ≤ sizeLine; decide, _, tk, rfl, fun b o e => Heap.get?_push_of_some _ e, ?_⟩
    refine Reads.tuple (as := []) (Heap.get?_push_size _ rfl) rfl rfl ?_
    show ReadsAll _ [Value.int (-(ds.length : Int)) u, .ref t] [.int (-(ds.length : Int)), .tuple ds] ([] ++ ([] ++ []))
    exact .cons (.int _ _) (.cons (PyProof.Rows.Reads.keeps (fun b o e => Heap.get?_push_of_some _ e) r) .nil)
  cases nb with
  | neg =>
    refine wpAny_Tuple_spliced (Calls.spliced_cons (wpAny_UnaryOp (body_len hk hx hns hl hg hm hb hbl ht hz' hd (neg_int ?_))))
    rw [hs]
    exact last
  | sub =>
    refine wpAny_Tuple_spliced (Calls.spliced_cons (wpAny_BinOp (wpAny_Constant_int ?_)))
    refine body_len (s := { s with toks := s.toks + 1 }) hk hx hns hl hg hm hb hbl ht hz' hd (sub_int ?_)
    rw [hs, Int.zero_sub]
    exact last
end
end BA

set_option maxHeartbeats 1000000
/-! BA44: sorted(xs, key=lambda x: (-len(x), x)) of a list of tuples -/
namespace BA
open PySem PySem.Spec
open PyProof.Rows
open L2 hiding St

/-! ### the data -/
def negK (d : D) : D := match d with
  | .tuple ds => .tuple [.int (-(ds.length : Int)), .tuple ds]
  | _ => .none
/-- longer ones first, then by their items -/
def insK (a : D) : List D → List D
  | [] => [a]
  | b :: l => if leD (negK a) (negK b) then a :: b :: l else b :: insK a l
def sortK : List D → List D
  | [] => []
  | a :: l => insK a (sortK l)
def papD (d : D) : Bool := match d with
  | .tuple ps => ps.all flatI
  | _ => false
def negOk (ds : List D) : Bool := Nat.ble ds.length 16777216 && ds.all papD
def sortNV (x : D) : Option D := match x with
  | .list ds => if negOk ds then some (.list (sortK ds)) else none
  | _ => none
def xSortN (a : E) : E := fun C ρ => bnd (a C ρ) fun x => opt (sortNV x)
def leK : D → D → Bool := PySem.W.dataLe false negK
theorem leK_is (x y : D) : leD (negK x) (negK y) = leK x y := by
  rw [leD_is]
  rfl
theorem leK_tot : PySem.W.TotalLe leK := by
  unfold leK PySem.W.dataLe
  exact PySem.W.sortLe_total _ _ _
theorem insK_into (a : D) : ∀ (l1 l2 : List D), (∀ b ∈ l1, leK a b = false) → (∀ b ∈ l2, leK a b = true) → insK a (l1 ++ l2) = l1 ++ a :: l2
  | [], [], _, _ => rfl
  | [], c :: r, _, h => by
    show (if leD (negK a) (negK c) then _ else _) = _
    rw [leK_is, h c List.mem_cons_self]
    rfl
  | b :: l1, l2, h1, h2 => by
    show (if leD (negK a) (negK b) then _ else b :: insK a (l1 ++ l2)) = _
    rw [leK_is, h1 b List.mem_cons_self, insK_into a l1 l2 (fun c hc => h1 c (List.mem_cons_of_mem _ hc)) h2]
    rfl
theorem sortK_is : ∀ l : List D, sortK l = l.mergeSort leK
  | [] => by simp [sortK]
  | a :: l => by
    obtain ⟨l1, l2, e1, e2, h⟩ := List.mergeSort_cons (le := leK) leK_tot.trans (fun a b => by have := leK_tot.total a b; simpa using this) a l
    have hp := List.pairwise_mergeSort (le := leK) leK_tot.trans (fun a b => by have := leK_tot.total a b; simpa using this) (a :: l)
    rw [e1] at hp
    rw [e1]
    show insK a (sortK l) = _
    rw [sortK_is l, e2]
    refine insK_into a l1 l2 (fun b hb => by simpa using h b hb) fun b hb => ?_
    have := (List.pairwise_append.mp hp).2.1
    exact (List.pairwise_cons.mp this).1 b hb
theorem sortK_perm (l : List D) : (sortK l).Perm l := by
  rw [sortK_is]
  exact List.mergeSort_perm l leK
theorem papD_some {d : D} (h : papD d = true) : ∃ ps : List D, d = .tuple ps ∧ ∀ p ∈ ps, ∃ ns : List Int, p = .tuple (ns.map PyData.int) := by
  unfold papD at h
  split at h
  · rename_i ps
    refine ⟨ps, rfl, fun p hp => ?_⟩
    have := List.all_eq_true.mp h p hp
    unfold flatI at this
    split at this
    · obtain ⟨ns, e⟩ := allInt_some this
      exact ⟨ns, by rw [e]⟩
    · cases this
  · cases h
theorem alike_flats : ∀ (xs ys : List D), (∀ p ∈ xs, ∃ ns : List Int, p = .tuple (ns.map PyData.int)) → (∀ p ∈ ys, ∃ ns : List Int, p = .tuple (ns.map PyData.int)) → PySem.W.alikeAll xs ys = true
  | [], _, _, _ => by simp [PySem.W.alikeAll]
  | _ :: _, [], _, _ => by simp [PySem.W.alikeAll]
  | x :: xs, y :: ys, h1, h2 => by
    obtain ⟨ns, rfl⟩ := h1 x List.mem_cons_self
    obtain ⟨ms, rfl⟩ := h2 y List.mem_cons_self
    simp only [PySem.W.alikeAll, PySem.W.alike, PySem.W.alike_ints, Bool.true_and]
    exact alike_flats xs ys (fun p hp => h1 p (List.mem_cons_of_mem _ hp)) fun p hp => h2 p (List.mem_cons_of_mem _ hp)
theorem depth_flats : ∀ (xs : List D), (∀ p ∈ xs, ∃ ns : List Int, p = .tuple (ns.map PyData.int)) → PyData.depthAll xs ≤ 1
  | [], _ => by simp [PyData.depthAll]
  | x :: xs, h => by
    obtain ⟨ns, rfl⟩ := h x List.mem_cons_self
    have := depth_flats xs fun p hp => h p (List.mem_cons_of_mem _ hp)
    simp only [PyData.depthAll, PyData.depth, PySem.W.depth_ints]
    omega
theorem noL_ints : ∀ ns : List Int, noL.noLs (ns.map PyData.int) = true
  | [] => rfl
  | n :: ns => by simp only [List.map_cons, noL.noLs, noL, noL_ints ns, Bool.and_self]
theorem noL_flats : ∀ (xs : List D), (∀ p ∈ xs, ∃ ns : List Int, p = .tuple (ns.map PyData.int)) → noL.noLs xs = true
  | [], _ => rfl
  | x :: xs, h => by
    obtain ⟨ns, rfl⟩ := h x List.mem_cons_self
    simp only [noL.noLs, noL, noL_ints, noL_flats xs fun p hp => h p (List.mem_cons_of_mem _ hp), Bool.and_self]
theorem noL_pap {d : D} (h : papD d = true) : noL d = true := by
  obtain ⟨ps, rfl, hp⟩ := papD_some h
  simp only [noL]
  exact noL_flats ps hp
mutual
theorem noL_dict : ∀ {d : D}, noL d = true → d.hasDict = false
  | .none, _ => by simp [PyData.hasDict]
  | .bool _, _ => by simp [PyData.hasDict]
  | .int _, _ => by simp [PyData.hasDict]
  | .str _, _ => by simp [PyData.hasDict]
  | .list _, h => by simp [noL] at h
  | .dict _, h => by simp [noL] at h
  | .tuple xs, h => by
    simp only [PyData.hasDict]
    exact noLs_dict (by simpa [noL] using h)
theorem noLs_dict : ∀ {ds : List D}, noL.noLs ds = true → PyData.hasDictAll ds = false
  | [], _ => by simp [PyData.hasDictAll]
  | d :: ds, h => by
    simp only [noL.noLs, Bool.and_eq_true] at h
    simp only [PyData.hasDictAll, noL_dict h.1, noLs_dict h.2, Bool.or_self]
end

/-! ### the sorting -/
section
variable {X : Cx} {k : Nat}
theorem CodeRec.keeps' {h h' : Heap} {cd : Value} {q : Str} (r : h.CodeRec cd q) (g : ∀ b o, h.get? b = some o → h'.get? b = some o) : h'.CodeRec cd q := by
  obtain ⟨c, o, vs, t, q1, q2, q3, q4⟩ := r
  exact ⟨c, o, vs, t, q1, g _ _ q2, q3, q4⟩
theorem sort_negX {pins : List (Addr × Obj)} {σ : L2.St} {H : Hp} {s : Shared} {Q : VK} {F : Addr → Prop} {x : Str} {f c' l : Addr} {params : Arguments} {body : Expr} {scope : Scope} {pm ctv : Value} {xs : List V} {ds : List D} (I : Inv X pins σ H s) (hr : Room k X.A)
    (nb : NegB x body) (ho : s.heap.get? f = some (PySem.W.kla_obj "<lambda>" (X.env.qual ++ "<lambda>") params body scope [] pm c' ctv)) (hcd : s.heap.CodeRec (.ref c') (X.env.qual ++ "<lambda>"))
    (hbind : ∀ v, bindArgs (PySem.W.kla_fn "<lambda>" (X.env.qual ++ "<lambda>") params body scope [] pm (.ref c') ctv) ⟨[v], []⟩ = pure [(x, v)]) (hk : scope.kind = .function) (hco : scope.isCoroutine = false) (hgen : scope.isGenerator = false) (hcell : ∀ y ∈ scope.names, y.2 ≠ .cell) (hx : scope.names.lookup x = some .local)
    (hl : scope.names.lookup ("len" : Str) = some .globalImplicit) (hm : X.mg "len" = none) (hd : (x == ("__debug__" : Str)) = false) (hL : H l = some (.lst xs)) (rp : Rps F H xs ds) (hn : negOk ds = true)
    (q : ∀ (zs : List V) (p : Addr), Rps F H zs (sortK ds) → zs.length ≤ sizeLine → H p = none → Q (.ref p) (upd H p (.lst zs))) :
    wpAny (model X.prog X.w) X.A (call (.builtin "sorted") [.ref l] [(Str.ofString "key", .ref f)]) (EP X pins σ Q) X.xe s := by
  unfold negOk at hn
  rw [Bool.and_eq_true] at hn
  have hlen := Nat.le_of_ble_eq_true hn.1
  have pap : ∀ d ∈ ds, papD d = true := List.all_eq_true.mp hn.2
  obtain ⟨its, rv, hl2, _⟩ := I.list (SqL.of hL)
  have ez := zip_snd rp
  have eb := each_of rp rv
  have mem : ∀ b : V × D, b ∈ xs.zip ds → b.2 ∈ ds := fun b hb => by rw [← ez]; exact List.mem_map.mpr ⟨b, hb, rfl⟩
  have el : (xs.zip ds).length = ds.length := by
    have := congrArg List.length ez
    rw [List.length_map] at this
    exact this
  have hal : PySem.W.AllAlike ((xs.zip ds).map fun b => negK b.2) := by
    intro d1 h1 d2 h2
    obtain ⟨b1, m1, rfl⟩ := List.mem_map.mp h1
    obtain ⟨b2, m2, rfl⟩ := List.mem_map.mp h2
    obtain ⟨ps, e1, f1⟩ := papD_some (pap _ (mem b1 m1))
    obtain ⟨qs, e2, f2⟩ := papD_some (pap _ (mem b2 m2))
    simp only [e1, e2, negK, PySem.W.alike, PySem.W.alikeAll, alike_flats ps qs f1 f2, Bool.and_self]
  have hst : PySem.W.Sortable ((xs.zip ds).map fun b => negK b.2) := by
    refine .inl fun d h1 => ?_
    obtain ⟨b1, m1, rfl⟩ := List.mem_map.mp h1
    obtain ⟨ps, e1, f1⟩ := papD_some (pap _ (mem b1 m1))
    simp only [e1, negK]
    exact ⟨_, _, rfl⟩
  have hun := hr.un
  have hu2 : ∀ b : V × D, b ∈ xs.zip ds → X.A.units + 2 + (negK b.2).depth < cLine := fun b hb => by
    obtain ⟨ps, e1, f1⟩ := papD_some (pap _ (mem b hb))
    have := depth_flats ps f1
    simp only [e1, negK, PyData.depth, PyData.depthAll]
    omega
  have glob : s.heap.Ns mainGlobals X.mg := I.mod.glob.keeps I.bk
  obtain ⟨mb, bl1, bl2⟩ := I.mod.blt
  have blt : s.heap.Ns builtinsNs mb := bl1.keeps I.bk
  have blen : mb "len" = some (.builtin "len") := (bl2 "len" (by decide)).trans PySem.boot_len
  refine PySem.W.sorted_key_data (b := false) (R := fun u (b : V × D) => RelV b.1 u ∧ Rp F H b.1 b.2) (fun b : V × D => negK b.2) hl2.isList eb hal hst (by rw [el, sizeLine_eq]; exact hlen) hu2 (ksk_s1 _ _) (fun _ => ksk_l1 _ _) (fun _ => ksk_t1 _ _) (fun v b hR hb h tk kp => ?_) (fun out c h' tk kp _ hat ho2 eo => ?_)
  · -- the lambda's call
    obtain ⟨ps, e1, f1⟩ := papD_some (pap _ (mem b hb))
    obtain ⟨r1, r2⟩ := hR
    have nl : noL (.tuple ps) = true := by rw [← e1]; exact noL_pap (pap _ (mem b hb))
    obtain ⟨b1, b2⟩ := b
    simp only at e1 r1 r2
    subst e1
    obtain ⟨as, rd⟩ := Dp.reads I (.tuple ps) b1 v (r2.dp (noL_dict nl)) r1
    have := reads_noL rd nl
    subst this
    have hps : ps.length ≤ sizeLine := by
      cases r2 with
      | tup _ _ z r => rw [← r.len]; exact z
    cases r2 with
    | @tup t _ _ _ _ _ _ =>
      obtain rfl : v = .ref t := r1
      refine lam_call (x := x) (kp _ _ ho) (CodeRec.keeps' hcd kp) (hbind _) hk hco hgen hcell hx (I.nolimit.keeps kp) (by have := hr.dp; show X.A.depth < _; omega) fun h₁ tk₁ k1 hns => ?_
      refine wpAny_mono (body_neg (s := { s with heap := h₁, toks := tk₁ }) nb hk hx hns hl ((glob.keeps kp).keeps k1) hm ((blt.keeps kp).keeps k1) blen (PyProof.Rows.Reads.keeps (fun b o e => k1 b o (kp b o e)) rd) hps hd) (fun u s' ⟨h2, tk2, e, k2, r⟩ => ⟨h2, tk2, e, fun b o e => k2 b o (k1 b o e), r⟩) fun e s' z => z.elim
  · -- its end
    obtain ⟨vo, ro⟩ := each_back eo
    have es : ((xs.zip ds).mergeSort (PySem.W.dataLe false fun b : V × D => negK b.2)).map Prod.snd = sortK ds := by
      rw [sortK_is, PySem.W.sort_maps (r := PySem.W.dataLe false fun b : V × D => negK b.2) (s := leK) (f := Prod.snd) fun a _ b _ => rfl, ez]
    rw [es] at ro
    have hzs : (((xs.zip ds).mergeSort (PySem.W.dataLe false fun b : V × D => negK b.2)).map Prod.fst).length ≤ sizeLine := by
      rw [List.length_map, List.length_mergeSort, el, sizeLine_eq]
      exact hlen
    exact ⟨.ref _, upd H (s.heap.objs.size + 1) (.lst _), I.laid (t' := tk) kp (Nat.le_succ _) ⟨hzs, out, c, vo, hat⟩, rfl, q _ _ ro hzs (I.hok.fresh (Nat.le_succ _))⟩
end
section
variable {G : Gx} {W : Nat → Kd} {X : Cx} {pos p lp kp : Pos} {e : Expr} {m : E} {k : Nat}
/-- sorted(xs, key=lambda x: (-len(x), x)) -/
theorem sf_sortN {x : Str} {c P : Addr} {params : Arguments} {body : Expr} {scope : Scope} (hr : GRoom k X.A) (hg : Gl X "sorted") (hm : X.mg "sorted" = none) (hm2 : X.mg "len" = none) (ha : PE X e (tB G W m)) (he : starEach [e] X.env = [(false, eval e X.env)])
    (TB : LamX.TabB X.base X.mg c P) (hcode : X.env.code = .ref c) (hT : (P, X.env.qual ++ "<lambda>") ∈ G.T) (hdef : defaultsOf params X.env = ([], [])) (nb : NegB x body) (hcl : cloFrom X.env.cells scope.names [] = []) (hfree : ∀ y ∈ scope.names, y.2 ≠ .free)
    (hbind : ∀ (pm ctv v : Value) (c' : Addr), bindArgs (PySem.W.kla_fn "<lambda>" (X.env.qual ++ "<lambda>") params body scope [] pm (.ref c') ctv) ⟨[v], []⟩ = pure [(x, v)]) (hk : scope.kind = .function) (hco : scope.isCoroutine = false) (hgen : scope.isGenerator = false) (hcell : ∀ y ∈ scope.names, y.2 ≠ .cell) (hx : scope.names.lookup x = some .local)
    (hl : scope.names.lookup ("len" : Str) = some .globalImplicit) (hd : (x == ("__debug__" : Str)) = false) :
    PE X (.Call (.Name "sorted" p) [e] [⟨some "key", .Lambda params body scope lp, kp⟩] pos) (tF G W (xSortN m)) := by
  refine ⟨fun pins s σ H Q I h => ?_⟩
  obtain ⟨F, S, ρ, s0, ok, p0⟩ := h
  refine wpAny_Call_Name_kw (ld_blt I hg hm boot_sorted ?_)
  have hb : starEach [e] X.env = (false, eval e X.env) :: starEach [] X.env := he
  refine PyProof.Rows.callWith_kw ?_ (by rw [hb]; rfl) (by rw [hb]; rfl) rfl rfl
  refine thn ((pa_one ha he).run pos pins s σ H (fun vs H1 => ∃ v d s1, vs = [v] ∧ Pres (inS S) H H1 ∧ Ok G W F S σ H1 ρ s1 ∧ RpS S F H1 v d ∧ post (opt (sortNV d)) (fun d s' => ∀ a H', Pres (inS S) H H' → SrcOk S H' s' → H a = none → Own (fun b => F b ∨ b = a) H' a d → Q (.ref a) H') s1) I ?_) fun us s1 ⟨vs, H1, I1, r1, v, d, sr, ev, g1, ok1, rs, p1⟩ => ?_
  · refine tB.go ok p0 fun d s1 v H1 g1 ok1 r1 p1 => ⟨v, d, s1, rfl, g1, ok1, r1, p1⟩
  subst ev
  obtain ⟨d', e', q⟩ := post_opt.mp p1
  unfold sortNV at e'
  split at e'
  rotate_left
  · cases e'
  rename_i ds
  by_cases hn : negOk ds = true
  rotate_left
  · rw [if_neg hn] at e'
    cases e'
  rw [if_pos hn] at e'
  cases e'
  obtain ⟨l, xs, rfl, hL, hz, rp⟩ := rs.b.list
  rw [Vals.ref1 r1]
  have hin : (P, X.env.qual ++ "<lambda>") ∈ S.tab := ok1.len.2 _ hT
  have lS : ¬ inS S l ∨ True := .inr trivial
  refine kws_cons (lam_new I1 TB hcode (ok1.src.t _ hin) hdef (fun y hy e => absurd e (hfree y hy)) fun f c' pm ctv H2 s2 I2 kp2 t2 ho hcd => kws_nil ?_)
  rw [hcl] at ho
  have iP : inS S P := .inr ⟨_, hin⟩
  have g2 : Pres (inS S) H1 H2 := fun b o n e => kp2 b o (fun z => n (by rw [z]; exact iP)) e
  have so2 : SrcOk S H2 sr := by
    refine ⟨?_, fun y hy => ?_, ok1.src.u⟩
    · have := ok1.src.p
      cases hs : S.src with
      | none => trivial
      | some pq =>
        obtain ⟨pp, qq⟩ := pq
        rw [hs] at this
        obtain ⟨k1, k2, k3⟩ := this
        obtain ⟨ps, hP, _⟩ := ok1.src.t _ hin
        have hP : H1 P = some (.tbl ps) := hP
        exact ⟨k1, kp2 _ _ (fun z => by rw [z, hP] at k2; cases k2) k2, kp2 _ _ (fun z => by rw [z, hP] at k3; cases k3) k3⟩
    · by_cases z : y.1 = P
      · have := ok1.src.u _ _ hy hin z
        rw [this]
        exact t2
      · obtain ⟨ps, h1, h2, h3⟩ := ok1.src.t y hy
        refine ⟨ps, kp2 _ _ z h1, h2, fun p' cv hcv => ?_⟩
        obtain ⟨c0, e1, e2⟩ := h3 p' cv hcv
        refine ⟨c0, e1, kp2 _ _ (fun z => ?_) e2⟩
        obtain ⟨ps2, hP, _⟩ := ok1.src.t _ hin
        have hP : H1 P = some (.tbl ps2) := hP
        rw [z, hP] at e2
        exact LamX.codeO_ne ps2 (Option.some.inj e2).symm
  have ok2 := ok1.step g2 so2
  have hP0 : H1 l ≠ none := by rw [hL]; simp
  obtain ⟨ps, hPt, _⟩ := ok1.src.t _ hin
  have hPt : H1 P = some (.tbl ps) := hPt
  have hL2 : H2 l = some (.lst xs) := kp2 _ _ (fun z => by rw [z, hPt] at hL; cases hL) hL
  have rp2 : Rps F H2 xs ds := rp.pres (g2.mono ok.sub)
  refine sort_negX I2 hr.room nb ho hcd (hbind pm ctv · c') hk hco hgen hcell hx hl hm2 hd hL2 rp2 hn fun zs p rz hz hp => ?_
  have hp0 : H p = none := by
    cases e : H p with
    | none => rfl
    | some o =>
      have nf : ¬ F p := ok2.live.new hp
      rw [(g1.trans g2) p o (fun f => nf (ok.sub p f)) e] at hp
      cases hp
  refine q _ _ ((g1.trans g2).trans (Grow.new hp).pres) (ok2.src.grow (.new hp)) hp0 (.inl ⟨_, _, rfl, upd_same, hz, ?_⟩)
  exact (rz.move fun b n f => f.elim (fun f => f) fun z => absurd hp (by rw [← z]; exact n)).pres (Grow.new hp).pres
end
end BA

set_option maxHeartbeats 1000000
/-! BA45: defs as values; texts with lambdas: their defs, their head -/
namespace BA
open PySem PySem.Spec
open PyProof.Rows
open L2 hiding St

/-! ### a def handed on, a def called that was handed on -/
section
variable {G : Gx} {W : Nat → Kd} {X : Cx} {r : List Expr} {mr : Es} {κs : List Kd} {pos p : Pos} {x : Str}
theorem fng_ (i : Nat) {fa : Addr} (hf : G.fa i = some fa) (hm : X.mg x = some (.ref fa)) (hr : PA X r (tAs G W κs mr)) (hg : Gl X x := by rfl) (hd : (x == ("__debug__" : Str)) = false := by decide) (hs : starEach (.Name x p :: r) X.env = (false, eval (.Name x p) X.env) :: starEach r X.env := by rfl) :
    PA X (.Name x p :: r) (tAs G W (.fn :: κs) (xCons (xCon (.int (i : Nat))) mr)) :=
  (pa_cons (pe_glob (v := .ref fa) hg hm rfl hd) hr hs).weak fun σ H Q ⟨F, S, ρ, s, ok, p⟩ => by
    unfold xCons xCon at p
    rw [bnd_pur] at p
    exact tAs.go ok p fun d2 s2 v2 H2 g2 ok2 r2 p2 => p2 _ _ g2 ok2.src (.cons ⟨i, fa, rfl, hf, rfl⟩ r2)
theorem cpf_ (i : Nat) (hr : PA X r (tAs G W κs mr)) (hN : X.N[i]? = some x := by rfl) (hv : Vis X.env.scope x := by first | exact Or.inl rfl | exact Or.inr (Or.inl rfl) | exact Or.inr (Or.inr rfl)) (hk : W i = .fn := by rfl)
    (hd : (x == ("__debug__" : Str)) = false := by decide) (hcd : (x == ("__classdict__" : Str)) = false := by decide) (hs : starEach (.Name x p :: r) X.env = (false, eval (.Name x p) X.env) :: starEach r X.env := by rfl) : PA X (.Name x p :: r) (tAs G W (.fn :: κs) (xCons (xVar i) mr)) := sp_fnl hN hv hd hcd hk hr hs
/-- what is known of the defs that may be handed on -/
structure FnAll (G : Gx) (X : Cx) (κs : List Kd) : Prop where
  h : ∀ n f, G.fa n = some f → ∃ k fd ps, FnG X.prog X.w X.K X.mg X.base CX0 k f fd ps (spOf G κs n) ∧ GRoom k X.A ∧ PySem.W.keepIn X.K (.ref f) = true ∧ Binds X.K fd ps []
theorem callV_ (i : Nat) {e : Expr} {es : List Expr} (all : FnAll G X κs) (ha : PA X (e :: es) (tAs G W κs mr)) (hN : X.N[i]? = some x := by rfl) (hv : Vis X.env.scope x := by first | exact Or.inl rfl | exact Or.inr (Or.inl rfl) | exact Or.inr (Or.inr rfl)) (hw : W i = .fn := by rfl)
    (hd : (x == ("__debug__" : Str)) = false := by decide) (hcd : (x == ("__classdict__" : Str)) = false := by decide) (he : starEach (e :: es) X.env = (false, eval e X.env) :: starEach es X.env := by rfl) (hpl : (backTo pos (starEach es X.env)).any (·.1) = false := by rfl) :
    PE X (.Call (.Name x p) (e :: es) [] pos) (tE G W (xCallV i mr)) := by
  refine ⟨fun pins s σ H Q I ⟨F, S, ρ, s0, ok, p0⟩ => ?_⟩
  unfold xCallV at p0
  rw [post_bnd] at p0
  obtain ⟨d, ed, p0⟩ := post_opt.mp p0
  rw [post_bnd] at p0
  obtain ⟨n, en, p0⟩ := post_opt.mp p0
  obtain ⟨v, h1, h2⟩ := ok.slot i d ed
  unfold Slot at h2
  rw [hw] at h2
  obtain ⟨m, f, rfl, hf, rfl⟩ := h2
  cases en
  obtain ⟨k, fd, ps, FG, hr, hk, hb⟩ := all.h m f hf
  refine wpAny_Call_Name_kw (thn ((pe_var (pos := p) (i := i) hN hv hd hcd).run pins s σ H (fun v H1 => v = .ref f ∧ H1 = H) I ⟨.ref f, h1, rfl, rfl⟩) fun u s1 ⟨v, H1, I1, r1, q1⟩ => ?_)
  obtain ⟨ev, eH⟩ := q1
  subst ev eH
  obtain rfl : u = Value.ref f := r1
  refine PySem.W.callWith_K (h₀ := X.base) I1.ok.mod.kin hk (thn (ha.run pos pins s1 σ H1 (fun vs H2 => spOf G κs m vs H2 Q E0) I1 ?_) fun us s2 ⟨vs, H2, I2, r2, q2⟩ => ⟨I2.kIn, ?_⟩) he hpl
  · refine tAs.go ok p0 fun ds s1 vs H1 g1 ok1 r1 p1 => ?_
    exact ⟨F, S, ds, s1, ok1.live, ok1.sub, ⟨ok1.src, ok1.len.2⟩, r1, post_mono p1 fun d s' q v H' g hs rv => q v H' (g1.trans g) hs rv⟩
  · exact run_fnG FG hr hb pass0 I2 r2 q2
end
section
variable {G : Gx} {W : Nat → Kd} {X : Cx} {pos p lp kp : Pos} {e : Expr} {m : E} {k : Nat}
theorem soN_ {x : Str} {c P : Addr} {params : Arguments} {body : Expr} {scope : Scope} (hr : GRoom k X.A) (hm : X.mg "sorted" = none) (hm2 : X.mg "len" = none) (ha : PE X e (tB G W m)) (TB : LamX.TabB X.base X.mg c P) (hcode : X.env.code = .ref c) (hT : (P, X.env.qual ++ "<lambda>") ∈ G.T)
    (nb : NegB x body := by first | exact .neg | exact .sub) (hg : Gl X "sorted" := by rfl) (he : starEach [e] X.env = [(false, eval e X.env)] := by rfl) (hdef : defaultsOf params X.env = ([], []) := by rfl) (hcl : cloFrom X.env.cells scope.names [] = [] := by rfl) (hfree : ∀ y ∈ scope.names, y.2 ≠ .free := by decide +kernel)
    (hbind : ∀ (pm ctv v : Value) (c' : Addr), bindArgs (PySem.W.kla_fn "<lambda>" (X.env.qual ++ "<lambda>") params body scope [] pm (.ref c') ctv) ⟨[v], []⟩ = pure [(x, v)] := by intro _ _ _ _; rfl) (hk : scope.kind = .function := by rfl) (hco : scope.isCoroutine = false := by rfl) (hgen : scope.isGenerator = false := by rfl) (hcell : ∀ y ∈ scope.names, y.2 ≠ .cell := by decide +kernel) (hx : scope.names.lookup x = some .local := by rfl)
    (hl : scope.names.lookup ("len" : Str) = some .globalImplicit := by rfl) (hd : (x == ("__debug__" : Str)) = false := by decide) :
    PE X (.Call (.Name "sorted" p) [e] [⟨some "key", .Lambda params body scope lp, kp⟩] pos) (tF G W (xSortN m)) := sf_sortN hr hg hm hm2 ha he TB hcode hT hdef nb hcl hfree hbind hk hco hgen hcell hx hl hd
end
/-! ### defs with a lambda -/
theorem fn_defT {P : Program} {w : World} {K : PySem.W.Frag} {mg : Str → Option Value} {base : Heap} {fa : Nat → Option Addr} {T : Nat → Option Def} {sp : Nat → Option (List D → M D)} {n idx : Nat} {TT : List (Addr × Str)} {d : Def} {name qual : Str} {st : Stmt} {f : Addr} {fd : FuncData} {N ps : List Str} {κs : List Kd} {W : Nat → Kd}
    (F : Fun K name qual st f fd) (SC : FnScope N ps (defScope st)) (hT : T idx = some d) (hsp : sp idx = none) (hlen : κs.length = ps.length) (hsl : d.slots = N.length) (hle : κs.length ≤ N.length) (hW : (List.range κs.length).map W = κs)
    (hbody : ∀ (cdv : Value) (A : Around) (outer : List PySem.Env) (s : Shared) (H : Hp) (E : XK), fd.code = cdv → GRoom n (A.deeper (envOfC qual (defScope st) s.heap.objs.size f cdv)) →
      PSs (cxOf CX0 P w K mg base N qual (defScope st) f cdv A outer s H E).nox (defBody st) (tS (gx P w K mg base fa T sp n TT) W d.body)) :
    FnG P w K mg base CX0 (n + 1) f fd ps (spOf (gx P w K mg base fa T sp (n + 1) TT) κs idx) := by
  obtain ⟨oc, od, kV, doc, pm, an, cdv, ct, osl, rfl, lk, hcd⟩ := F.ex
  refine fn_ofG lk hcd SC (spOf_len hlen) fun A outer s H vs Q E hr hsp2 => ?_
  obtain ⟨F0, S, ds, s0, l, sub, k, r, p⟩ := hsp2
  refine ⟨_, (hbody cdv A outer s H E rfl hr).nox, F0, H, [], F0, S, _, s0, sat_start (N := N) (G := gx P w K mg base fa T sp n TT) l sub k (ArgR.to (show (gx P w K mg base fa T sp (n + 1) TT).fa = (gx P w K mg base fa T sp n TT).fa from rfl) (show (gx P w K mg base fa T sp (n + 1) TT).K = (gx P w K mg base fa T sp n TT).K from rfl) r) hW hle, ?_⟩
  have p : post (callD T sp (n + 1) idx ds) _ s0 := p
  unfold callD at p
  simp only [hsp, hT] at p
  unfold runDef at p
  split at p
  · rw [post_bnd, hsl] at p
    refine post_mono p fun fl s' q => ?_
    cases fl with
    | next ρ' => exact fun F' σ' H' sa => q .non H' sa.ent sa.ok.src .non
    | ret v => exact q
    | brk ρ' => exact q.elim
    | cont ρ' => exact q.elim
  · exact p.elim
/-! ### the head -/
/-- the script and the tables are tracked -/
def tabH (T : List Addr) (H : Hp) : Hp := fun b => if b ∈ T then some (.tbl #[]) else H b
theorem head_runT {P : Program} {w : World} {K : PySem.W.Frag} {mg mb : Str → Option Value} {k : Nat} {fa a : Addr} {fd : FuncData} {x : Str} {sp : Sp} {t : Shared} {vs : List Value} {ns : List Int} {cs : List (Addr × Addr)} (kin : K.In t.heap) (glo : t.heap.Ns mainGlobals mg)
    (blt : t.heap.Ns builtinsNs mb) (same : ∀ y : Str, y ≠ "__name__" → mb y = bootBuiltins y) (lim : t.heap.NoLimit) (gen : t.gens = #[]) (at_ : t.heap.get? a = some { cls := .type "list", data := .seq vs.toArray }) (hints : IntsAre vs ns) (few : ns.length ≤ sizeLine)
    (hT : ∀ p ∈ cs, t.heap.get? p.2 = some { cls := .none, data := .fields #[] }) (nT : ∀ p ∈ cs, K.lookup p.2 = none) (hC : ∀ p ∈ cs, PySem.W.CodeHd t.heap p.1 p.2)
    (hbm : ∃ (bm : Addr) (ob : Obj), mg "__builtins__" = some (.ref bm) ∧ bm ≠ builtinsNs ∧ t.heap.get? bm = some ob ∧ ob.cls = .type "module" ∧ ob.dict = some builtinsNs ∧ ob.data = .plain)
    (room : GRoom k callerA) (F : ∀ base : Heap, K.In base → base.Ns mainGlobals mg → (∀ p ∈ cs, LamX.TabB base mg p.1 p.2) → FnG P w K mg base CX0 k fa fd [x] sp) (bd : ∀ (s : Shared) (u : Value), BindsTo s fd ⟨[u], []⟩ [(x, u)])
    (go : ∀ H : Hp, ScrV K .nil H (.ref a) (.list (ns.map PyData.int)) → (∀ p ∈ cs, H p.2 = some (.tbl #[])) → sp [.ref a] H (fun v _ => v = .bl true) fun _ _ _ => False) :
    codeAny (model P w) callerA (.call (.ref fa) ⟨[.ref a], []⟩) (fun r u => r = .ok (.ret (.bool true)) ∧ OldK t.heap u.heap ∧ u.os = t.os ∧ AllBare u.gens) t := by
  have rel : Vals (ns.map V.int) vs := vals_ints hints
  have many := hints.length
  generalize hu : HO.frz { cls := .type "list", data := .seq vs.toArray } (.lst (ns.map V.int)) = u
  have isT : ∀ b : Addr, b ∈ cs.map (·.2) → t.heap.get? b = some { cls := .none, data := .fields #[] } := fun b hb => by
    obtain ⟨p, hp, e⟩ := List.mem_map.mp hb
    rw [← e]
    exact hT p hp
  have noK : ∀ b : Addr, b ∈ cs.map (·.2) → K.lookup b = none := fun b hb => by
    obtain ⟨p, hp, e⟩ := List.mem_map.mp hb
    rw [← e]
    exact nT p hp
  have aT : a ∉ cs.map (·.2) := fun z => by
    have q := isT a z
    rw [at_] at q
    cases q
  generalize hH : tabH (cs.map (·.2)) (scrH K a u) = H
  have track : ∀ b v, H b = some v → (b = a ∧ v = u ∧ K.lookup a = none) ∨ (b ∈ cs.map (·.2) ∧ v = .tbl #[]) := fun b v e => by
    rw [← hH] at e
    unfold tabH at e
    by_cases hb : b ∈ cs.map (·.2)
    · rw [if_pos hb] at e
      cases e
      exact .inr ⟨hb, rfl⟩
    · rw [if_neg hb] at e
      exact .inl (scrH_some e)
  have atTab : ∀ b, b ∈ cs.map (·.2) → H b = some (.tbl #[]) := fun b hb => by
    rw [← hH]
    exact if_pos hb
  have atOth : ∀ b, b ∉ cs.map (·.2) → H b = scrH K a u b := fun b hb => by
    rw [← hH]
    exact if_neg hb
  have hidden : ∀ {b : Addr} {o : Obj}, t.heap.get? b = some o → (b = a → K.lookup a ≠ none) → b ∉ cs.map (·.2) → (hidT t.heap H).get? b = some o := fun {b o} e z n => hidT_get e (by
    cases q : H b with
    | none => rfl
    | some v =>
      rcases track b v q with ⟨h1, _, h2⟩ | ⟨h1, _⟩
      · exact absurd h2 (z h1)
      · exact absurd h1 n)
  have plainly : ∀ {b : Addr} {o : Obj}, t.heap.get? b = some o → (∀ vs n, o.data ≠ .seq vs n) → o.data ≠ .fields #[] → (hidT t.heap H).get? b = some o := fun {b o} e h1 h2 => hidden e (fun z => by
    subst z
    rw [at_] at e
    cases e
    exact absurd rfl (h1 _ _)) fun z => by
    rw [isT b z] at e
    cases e
    exact h2 rfl
  have part : ∀ {b : Addr} {m : Str → Option Value}, t.heap.Ns b m → (hidT t.heap H).Ns b m := fun {b m} ⟨o, es, n, e, d, r⟩ => ⟨o, es, n, plainly e (fun vs n z => by rw [d] at z; cases z) (fun z => by rw [d] at z; cases z), d, r⟩
  have kin2 : K.In (hidT t.heap H) := fun b o e => hidden (kin b o e) (fun z => by rw [← z, e]; simp) fun z => by rw [noK b z] at e; cases e
  obtain ⟨mc, l1, l2⟩ := lim
  have ok : HOk P w H t.heap := fun b v e => by
    rcases track b v e with ⟨rfl, rfl, _⟩ | ⟨hb, rfl⟩
    · rw [← hu]
      exact ⟨at_, by rw [List.length_map]; exact few, vs, _, rel, at_⟩
    · exact isT b hb
  have TB : ∀ p ∈ cs, LamX.TabB (hidT t.heap H) mg p.1 p.2 := fun p hp => by
    refine ⟨?_, ?_, fun z => ?_⟩
    · obtain ⟨o, us, file, tf, flags, tg, inF, text, tt, e1, r1, r2, r3, r4⟩ := hC p hp
      refine ⟨o, us, file, tf, flags, tg, inF, text, tt, plainly e1 (fun vs n z => by rw [r2] at z; cases z) (fun z => ?_), r1, r2, r3, r4⟩
      rw [r2] at z
      cases z
      simp at r3
    · obtain ⟨bm, ob, b1, b2, b3, b4, b5, b6⟩ := hbm
      refine ⟨bm, ob, b1, b2, fun q => ?_, fun q => ?_, plainly b3 (fun vs n z => by rw [b6] at z; cases z) (fun z => by rw [b6] at z; cases z), b4, b5, b6⟩
      · obtain ⟨o, es, ep, e, hd, _⟩ := glo
        rw [q, e] at b3
        cases b3
        rw [hd] at b6
        cases b6
      · rw [q, hT p hp] at b3
        cases b3
        cases b6
    · obtain ⟨o, es, ep, e, hd, _⟩ := glo
      rw [z, hT p hp] at e
      cases e
      cases hd
  have env : Env0 P w K mg (hidT t.heap H) callerA [] t H := {
    frames := rfl
    mod := ⟨kin2, part glo, ⟨mb, part blt, same⟩, ⟨mc, part l1, l2⟩⟩
    bs := fun b o e => of_hidT e
    bsz := Nat.le_of_eq (hidT_size _ _)
    funs := trivial
    frf := fun b z => by cases z
    hok := ok
    bare := .of_eq gen }
  have scr : ScrV K .nil H (.ref a) (.list (ns.map PyData.int)) := by
    refine ⟨a, ns, rfl, rfl, few, ?_⟩
    cases e : K.lookup a with
    | none =>
      refine .inr ⟨{ cls := .type "list", data := .seq vs.toArray }, ?_⟩
      rw [atOth a aT]
      unfold scrH
      rw [e, hu]
      exact if_pos rfl
    | some o =>
      have q := kin a o e
      rw [at_] at q
      cases q
      exact .inl fun H' => .inr ⟨_, vs.toArray, _, e, rfl, rfl, rfl, by rw [List.size_toArray, many]; exact few, by simpa using rel⟩
  refine codeAny_mono ((F _ kin2 (part glo) TB).run callerA [] t H ⟨[.ref a], []⟩ [.ref a] [.ref a] _ _ room env (bd t (.ref a)) (.cons rfl .nil) (go _ scr fun p hp => atTab _ (List.mem_map.mpr ⟨p, hp, rfl⟩))) fun r s2 h => ?_
  match r, h with
  | .error e, h => exact h.elim
  | .ok .next, h => exact False.elim h
  | .ok .brk, h => exact False.elim h
  | .ok .cont, h => exact False.elim h
  | .ok (.ret z), ⟨v, H2, os, bare, un, ok2, rv, q⟩ =>
    have q : v = .bl true := q
    subst q
    cases (show z = Value.bool true from rv)
    have key : ∀ b o, b ∉ cs.map (·.2) → t.heap.get? b = some o → s2.heap.get? b = some o := fun b o nb e => by
      cases c : H b with
      | none => exact un.keep b o e c (fun z => by cases z) (fun z => by cases z)
      | some v =>
        rcases track b v c with ⟨e1, e2, _⟩ | ⟨hb, _⟩
        · subst e1
          have c2 := un.frzs b { cls := .type "list", data := .seq vs.toArray } (.lst (ns.map V.int)) (by rw [c, e2, hu])
          obtain ⟨g2, _⟩ := ok2 b _ c2
          rw [at_] at e
          cases e
          exact g2
        · exact absurd hb nb
    have grown : ∀ b, b ∈ cs.map (·.2) → ∃ more : Array Value, s2.heap.get? b = some { cls := .none, data := .fields more } := fun b hb => by
      obtain ⟨more, z⟩ := un.tbls b #[] (atTab b hb)
      exact ⟨_, ok2 b _ z⟩
    refine ⟨rfl, ⟨fun b o e => ?_, fun b o e => ?_⟩, os, bare⟩
    · by_cases hb : b ∈ cs.map (·.2)
      · obtain ⟨p, hp, ep⟩ := List.mem_map.mp hb
        obtain ⟨more, hm⟩ := grown b hb
        rw [isT b hb] at e
        cases e
        refine .inr (.inl ⟨?_, rfl, #[], more, rfl, by rw [Array.empty_append]; exact hm⟩)
        rw [← ep]
        exact ((hC p hp).tab (hT p hp)).isCodeTable
      · exact .inl (key b o hb e)
    · by_cases hb : b ∈ cs.map (·.2)
      · obtain ⟨more, hm⟩ := grown b hb
        exact ⟨_, hm⟩
      · exact ⟨o, key b o hb e⟩
theorem walkGT {l : PySem.W.OpenLaw} {n k : Nat} {q : Program} {loose : List Str} {XP : (Str → Option Value) → Heap → Prop} {YP : World → Heap → Prop} {d : DefRec} {K : Params → PySem.W.Frag} {x : Str} {ts : List Addr}
    (hn : l.most = some n) (hn2 : n ≤ sizeLine) (hdf : d.params.defaults = []) (hr : GRoom k callerA) (hY : ∀ (w : World) (h : Heap), YP w h → (K w.params).In h) (hYT : ∀ (w : World) (h : Heap), YP w h → ∀ P ∈ ts, h.get? P = some (PySem.W.tabObj #[]))
    (F : ∀ (w : World) (mg : Str → Option Value) (fa : Addr) (h : Heap), (K w.params).In h → h.Ns mainGlobals mg → mg d.name = some (.ref fa) →
      ∃ (fd : FuncData) (cs : List (Addr × Addr)) (sp : Sp), (∀ (s : Shared) (u : Value), BindsTo s fd ⟨[u], []⟩ [(x, u)]) ∧ (∀ p ∈ cs, p.2 ∈ ts) ∧ (∀ p ∈ cs, (K w.params).lookup p.2 = none) ∧ (∀ p ∈ cs, PySem.W.codeHdIn (K w.params) p.1 p.2 = true) ∧
        (∀ (H : Hp) (a : Addr) (ns : List Int), ns.length ≤ n → ScrV (K w.params) .nil H (.ref a) (.list (ns.map PyData.int)) → (∀ p ∈ cs, H p.2 = some (.tbl #[])) → sp [.ref a] H (fun v _ => v = .bl true) fun _ _ _ => False) ∧
        ∀ base : Heap, (K w.params).In base → base.Ns mainGlobals mg → (∀ p ∈ cs, LamX.TabB base mg p.1 p.2) → FnG l.prog w (K w.params) mg base CX0 k fa fd [x] sp) :
    PySem.W.WalkO q loose XP YP l.row.toRowW d [] (fun f vs => PySem.call f vs) :=
  Att.attach_call hn hdf fun w s0 s1 mg mb fa o pm cd doc a vs ns Gr Y _ _ _ hmg hobj hints hlen hgen => by
    obtain ⟨fd, cs, sp, hb, m1, m2, m3, go, hF⟩ := F w mg fa _ (hY w _ Y) Gr.T.g hmg
    exact head_runT (hY w _ Y) Gr.T.g Gr.T.b Gr.T.builtins Gr.T.nolimit hgen hobj hints (Nat.le_trans hlen hn2) (fun p hp => hYT w _ Y _ (m1 p hp)) m2 (fun p hp => PySem.W.codeHd_of_K (hY w _ Y) (m3 p hp)) Gr.T.bmain hr hF hb fun H h1 h2 => go H a ns hlen h1 h2
end BA

set_option maxHeartbeats 4000000
namespace Z54
open PySem PySem.Spec PyProof.Rows BA
open L2 hiding St
abbrev prog : Program := PySem.Challenge.pw_bitsasked_k54_whole_balanced_functions
abbrev topS (i : Nat) : Stmt := topOf prog i
/-! bit_of -/
theorem sc0 : FnScope (["x", "i"] : List Str) (["x", "i"] : List Str) (defScope (topS 1)) := ⟨rfl, rfl, rfl, by decide +kernel, rfl, by decide +kernel, by decide +kernel⟩
abbrev W0 : Nat → Kd := kindOf [.dat, .dat]
def m0 : BA.St := (sRet (xOp .Mod (xOp .FloorDiv (xVar 0) (xOp .LShift (xCon (.int 1)) (xVar 1))) (xCon (.int 2))))
def D0 : Def := ⟨2, 2, m0⟩
/-! input_sum -/
theorem sc1 : FnScope (["x", "found"] : List Str) (["x"] : List Str) (defScope (topS 2)) := ⟨rfl, rfl, rfl, by decide +kernel, rfl, by decide +kernel, by decide +kernel⟩
abbrev W1 : Nat → Kd := kindOf [.dat, .dat]
def m1 : BA.St := (sSeq (sSet 1 (xCon (.int 0))) (sSeq (sWhile (xCmp .Gt (xVar 0) (xCon (.int 0))) (sSeq (sSet 1 (xOp .Add (xVar 1) (xOp .Mod (xVar 0) (xCon (.int 2))))) (sSet 0 (xOp .FloorDiv (xVar 0) (xCon (.int 2)))))) (sRet (xVar 1))))
def D1 : Def := ⟨1, 2, m1⟩
/-! does_meet -/
theorem sc2 : FnScope (["x", "paper", "i", "b"] : List Str) (["x", "paper"] : List Str) (defScope (topS 3)) := ⟨rfl, rfl, rfl, by decide +kernel, rfl, by decide +kernel, by decide +kernel⟩
abbrev W2 : Nat → Kd := kindOf [.dat, .dat, .dat, .dat]
def m2 : BA.St := (sRet (xPrim .all (xCons (xComp [2, 3] (iVal (xVar 1)) (gTup (gCons (gVar 2) (gCons (gVar 3) gNil))) tYes (xCmp .Eq (xCall 0 (xCons (xVar 0) (xCons (xVar 2) xNil))) (xVar 3))) xNil)))
def D2 : Def := ⟨2, 4, m2⟩
/-! set_by -/
theorem sc3 : FnScope (["f", "paper", "many", "x", "answer"] : List Str) (["f", "paper"] : List Str) (defScope (topS 4)) := ⟨rfl, rfl, rfl, by decide +kernel, rfl, by decide +kernel, by decide +kernel⟩
abbrev W3 : Nat → Kd := kindOf [.dat, .dat, .dat, .dat, .dat]
def m3 : BA.St := (sSeq (sSet 2 (xOp .Sub (xSubY (xVar 0) (xCon (.int 0))) (xLenY (xVar 1)))) (sRet (xTup (xCons (xVar 2) (xCons (xPrim .tuple (xCons (xComp [3, 4] (iEnum (xSubY (xVar 0) (xCon (.int 1)))) (gTup (gCons (gVar 3) (gCons (gVar 4) gNil))) (tIf (xCall 2 (xCons (xVar 3) (xCons (xVar 1) xNil)))) (xVar 4)) xNil)) xNil)))))
def D3 : Def := ⟨2, 5, m3⟩
/-! weight_row -/
theorem sc4 : FnScope (["f", "found", "x", "answer"] : List Str) (["f"] : List Str) (defScope (topS 6)) := ⟨rfl, rfl, rfl, by decide +kernel, rfl, by decide +kernel, by decide +kernel⟩
abbrev W4 : Nat → Kd := kindOf [.dat, .own, .dat, .dat]
def m4 : BA.St := (sSeq (sSet 1 (xOpL .Mult (xLst (xCons (xCon (.int 0)) xNil)) (xOp .Add (xSubY (xVar 0) (xCon (.int 0))) (xCon (.int 1))))) (sSeq (sFor (gTup (gCons (gVar 2) (gCons (gVar 3) gNil))) (iEnum (xSubY (xVar 0) (xCon (.int 1)))) (sStoreY 1 (xCall 1 (xCons (xVar 2) xNil)) (xOp .Add (xSubY (xVar 1) (xCall 1 (xCons (xVar 2) xNil))) (xVar 3)))) (sRet (xPrim .tuple (xCons (xVar 1) xNil)))))
def D4 : Def := ⟨1, 4, m4⟩
/-! even_less_odd -/
theorem sc5 : FnScope (["f", "j", "many"] : List Str) (["f"] : List Str) (defScope (topS 7)) := ⟨rfl, rfl, rfl, by decide +kernel, rfl, by decide +kernel, by decide +kernel⟩
abbrev W5 : Nat → Kd := kindOf [.dat, .dat, .dat]
def m5 : BA.St := (sRet (xPrim .sum (xCons (xComp [1, 2] (iEnum (xCall 4 (xCons (xVar 0) xNil))) (gTup (gCons (gVar 1) (gCons (gVar 2) gNil))) tYes (xOp .Mult (xVar 2) (xOp .Sub (xCon (.int 1)) (xOp .Mult (xCon (.int 2)) (xOp .Mod (xVar 1) (xCon (.int 2))))))) xNil)))
def D5 : Def := ⟨1, 3, m5⟩
/-! count_balanced -/
theorem sc6 : FnScope (["n", "half", "found", "k"] : List Str) (["n"] : List Str) (defScope (topS 8)) := ⟨rfl, rfl, rfl, by decide +kernel, rfl, by decide +kernel, by decide +kernel⟩
abbrev W6 : Nat → Kd := kindOf [.dat, .dat, .dat, .dat]
def m6 : BA.St := (sSeq (sPar (gIs [1, 2]) (xCons (xOp .LShift (xCon (.int 1)) (xOp .Sub (xVar 0) (xCon (.int 1)))) (xCons (xCon (.int 1)) xNil))) (sSeq (sFor (gVar 3) (iRange (xVar 1)) (sSet 2 (xOp .FloorDiv (xOp .Mult (xVar 2) (xOp .Sub (xOp .Mult (xCon (.int 2)) (xVar 1)) (xVar 3))) (xOp .Add (xVar 3) (xCon (.int 1)))))) (sRet (xVar 2))))
def D6 : Def := ⟨1, 4, m6⟩
/-! all_papers -/
theorem sc7 : FnScope (["n", "found", "i", "late", "paper"] : List Str) (["n"] : List Str) (defScope (topS 10)) := ⟨rfl, rfl, rfl, by decide +kernel, rfl, by decide +kernel, by decide +kernel⟩
abbrev W7 : Nat → Kd := kindOf [.dat, .dat, .dat, .dat, .dat]
def m7 : BA.St := (sSeq (sSet 1 (xLst (xCons (xTup xNil) xNil))) (sSeq (sFor (gVar 2) (iRange (xVar 0)) (sSeq (sSet 3 (xPrim .list (xCons (xVar 1) xNil))) (sSeq (sFor (gVar 4) (iVal (xVar 1)) (sSet 3 (xLst (xStar (xVar 3) (xCons (xTup (xStar (xVar 4) (xCons (xTup (xCons (xVar 2) (xCons (xCon (.int 0)) xNil))) xNil))) (xCons (xTup (xStar (xVar 4) (xCons (xTup (xCons (xVar 2) (xCons (xCon (.int 1)) xNil))) xNil))) xNil)))))) (sSet 1 (xVar 3))))) (sRet (xSortN (xVar 1)))))
def D7 : Def := ⟨1, 5, m7⟩
/-! best_trees -/
theorem sc8 : FnScope (["f", "worth", "n", "found", "paper", "some", "gone", "i", "zero", "one", "least", "number", "bit", "b", "late"] : List Str) (["f", "worth"] : List Str) (defScope (topS 11)) := ⟨rfl, rfl, rfl, by decide +kernel, rfl, by decide +kernel, by decide +kernel⟩
abbrev W8 : Nat → Kd := kindOf [.dat, .fn, .dat, .own, .dat, .own, .dat, .dat, .dat, .dat, .dat, .dat, .dat, .dat, .dat]
def m8 : BA.St := (sSeq (sPar (gIs [2, 3]) (xCons (xSubY (xVar 0) (xCon (.int 0))) (xCons xD0 xNil))) (sSeq (sFor (gVar 4) (iVal (xCall 7 (xCons (xVar 2) xNil))) (sSeq (sPar (gIs [5, 6]) (xCons (xLst xNil) (xCons (xComp [12, 13] (iVal (xVar 4)) (gTup (gCons (gVar 12) (gCons (gVar 13) gNil))) tYes (xVar 12)) xNil))) (sSeq (sFor (gVar 7) (iVal (xComp [7] (iRange (xVar 2)) (gVar 7) (tIf (xCmpY .NotIn (xVar 7) (xVar 6))) (xVar 7))) (sSeq (sAsg (gLst (gCons (gVar 8) (gCons (gVar 9) gNil))) (xComp [13] (iVal (xTup (xCons (xCon (.int 0)) (xCons (xCon (.int 1)) xNil)))) (gVar 13) tYes (xSubY (xVar 3) (xPrim .tuple (xCons (xSortY (xLst (xStar (xVar 4) (xCons (xTup (xCons (xVar 7) (xCons (xVar 13) xNil))) xNil)))) xNil))))) (sAppend 5 (xTup (xCons (xCallV 1 (xCons (xSubY (xVar 8) (xCon (.int 0))) (xCons (xSubY (xVar 9) (xCon (.int 0))) xNil))) (xCons (xVar 7) (xCons (xSubY (xVar 8) (xCon (.int 1))) (xCons (xSubY (xVar 9) (xCon (.int 1))) xNil)))))))) (sIf (xCmp .Eq (xVar 5) (xLst xNil)) (sStoreY 3 (xVar 4) (xTup (xCons (xCallV 1 (xCons (xCon .none) (xCons (xCon .none) xNil))) (xCons (xSubY (xSubY (xCall 3 (xCons (xVar 0) (xCons (xVar 4) xNil))) (xCon (.int 1))) (xCon (.int 0))) xNil)))) (sIf (xAnd (xCmpY .In (xSubY (xSubY (xVar 5) (xCon (.int 0))) (xCon (.int 2))) (xTup (xCons (xCon (.int 0)) (xCons (xCon (.int 1)) xNil)))) (xCmp .Eq (xSubY (xSubY (xVar 5) (xCon (.int 0))) (xCon (.int 2))) (xSubY (xSubY (xVar 5) (xCon (.int 0))) (xCon (.int 3))))) (sStoreY 3 (xVar 4) (xTup (xCons (xCallV 1 (xCons (xCon .none) (xCons (xCon .none) xNil))) (xCons (xSubY (xSubY (xVar 5) (xCon (.int 0))) (xCon (.int 2))) xNil)))) (sSeq (sSet 10 (xPrim .min (xCons (xComp [11, 7, 8, 9] (iVal (xVar 5)) (gTup (gCons (gVar 11) (gCons (gVar 7) (gCons (gVar 8) (gCons (gVar 9) gNil))))) tYes (xVar 11)) xNil))) (sSeq (sAsg (gTup (gCons (gVar 11) (gCons (gVar 7) (gCons (gVar 8) (gCons (gVar 9) gNil))))) (xSubY (xComp [14] (iVal (xVar 5)) (gVar 14) (tIf (xCmp .Eq (xSubY (xVar 14) (xCon (.int 0))) (xVar 10))) (xVar 14)) (xCon (.int 0)))) (sStoreY 3 (xVar 4) (xTup (xCons (xVar 11) (xCons (xTup (xCons (xVar 7) (xCons (xVar 8) (xCons (xVar 9) xNil)))) xNil))))))))))) (sRet (xVar 3))))
def D8 : Def := ⟨2, 15, m8⟩
/-! by_depth -/
theorem sc9 : FnScope (["zero", "one"] : List Str) (["zero", "one"] : List Str) (defScope (topS 12)) := ⟨rfl, rfl, rfl, by decide +kernel, rfl, by decide +kernel, by decide +kernel⟩
abbrev W9 : Nat → Kd := kindOf [.dat, .dat]
def m9 : BA.St := (sRet (xIf (xCmp .Is (xVar 0) (xCon .none)) (xCon (.int 0)) (xOp .Add (xCon (.int 1)) (xPrim .max (xCons (xVar 0) (xCons (xVar 1) xNil))))))
def D9 : Def := ⟨2, 2, m9⟩
/-! fewest_asks -/
theorem sc10 : FnScope (["f"] : List Str) (["f"] : List Str) (defScope (topS 13)) := ⟨rfl, rfl, rfl, by decide +kernel, rfl, by decide +kernel, by decide +kernel⟩
abbrev W10 : Nat → Kd := kindOf [.dat]
def m10 : BA.St := (sRet (xSubY (xSubY (xCall 8 (xCons (xVar 0) (xCons (xCon (.int 9)) xNil))) (xTup xNil)) (xCon (.int 0))))
def D10 : Def := ⟨1, 1, m10⟩
/-! _law_source -/
theorem sc11 : FnScope (["script", "mixed", "cell"] : List Str) (["script"] : List Str) (defScope (topS 15)) := ⟨rfl, rfl, rfl, by decide +kernel, rfl, by decide +kernel, by decide +kernel⟩
abbrev W11 : Nat → Kd := kindOf [.scr, .dat, .dat]
/-! _law_pick -/
theorem sc12 : FnScope (["source", "many", "left", "mixed"] : List Str) (["source", "many"] : List Str) (defScope (topS 16)) := ⟨rfl, rfl, rfl, by decide +kernel, rfl, by decide +kernel, by decide +kernel⟩
abbrev W12 : Nat → Kd := kindOf [.src, .dat, .dat, .dat]
def m12 : BA.St := (sSeq (sWhile (xAnd (xCmp .Gt (xVar 1) (xCon (.int 1))) (xAnd (xCmp .Lt (xSrc 0 (xGet .left)) (xCon (.int 2))) (xCmp .Gt (xSrc 0 xCelLen) (xCon (.int 0))))) (sSrc 0 sPopLeft)) (sSeq (sSet 2 (xSrc 0 (xGet .left))) (sSeq (sIf (xOr (xCmp .Lt (xVar 1) (xCon (.int 2))) (xCmp .Gt (xVar 2) (xCon (.int 1)))) (sSeq (sSrc 0 (sPut .left (xOp .FloorDiv (xVar 2) (xPrim .max (xCons (xCon (.int 1)) (xCons (xVar 1) xNil)))))) (sRet (xOp .Mod (xPrim .int (xCons (xVar 2) xNil)) (xPrim .max (xCons (xCon (.int 1)) (xCons (xVar 1) xNil)))))) sNil) (sSeq (sSrc 0 (sPut .turn (xOp .Add (xSrc 0 (xGet .turn)) (xCon (.int 1))))) (sSeq (sSet 3 (xOp .Mod (xPrim .int (xCons (xOp .Add (xSrc 0 (xGet .mixed)) (xOp .Mult (xSrc 0 (xGet .turn)) (xCon (.int 104729)))) xNil)) (xCon (.int 998244353)))) (sSeq (sSet 3 (xOp .Mod (xPrim .int (xCons (xOp .Add (xOp .Mult (xVar 3) (xVar 3)) (xOp .Mult (xSrc 0 (xGet .turn)) (xCon (.int 17)))) xNil)) (xCon (.int 2147483647)))) (sSeq (sSrc 0 (sPut .mixed (xVar 3))) (sRet (xOp .Mod (xPrim .int (xCons (xOp .FloorDiv (xVar 3) (xCon (.int 16))) xNil)) (xVar 1))))))))))
def D12 : Def := ⟨2, 4, m12⟩
/-! law -/
theorem sc13 : FnScope (["script", "source", "n", "many", "number", "table", "total", "x", "bits", "half", "line", "turn", "a", "b", "i"] : List Str) (["script"] : List Str) (defScope (topS 17)) := ⟨rfl, rfl, rfl, by decide +kernel, rfl, by decide +kernel, by decide +kernel⟩
abbrev W13 : Nat → Kd := kindOf [.scr, .src, .dat, .dat, .dat, .dat, .dat, .dat, .dat, .dat, .dat, .dat, .dat, .dat, .dat]
def tab (i : Nat) : Option Def := nth [D0, D1, D2, D3, D4, D5, D6, D7, D8, D9, D10, ⟨0, 0, sNil⟩, D12, ⟨0, 0, sNil⟩] i
def nosp (_ : Nat) : Option (List D → M D) := none
abbrev CC (n : Nat) : Calls := callD tab nosp n
structure Tx (K : PySem.W.Frag) (mg : Str → Option Value) where
  f0 : Addr
  fd0 : FuncData
  F0 : Fun K "bit_of" "bit_of" (topS 1) f0 fd0
  g0 : mg "bit_of" = some (.ref f0)
  b0 : Binds K fd0 (["x", "i"] : List Str) []
  f1 : Addr
  fd1 : FuncData
  F1 : Fun K "input_sum" "input_sum" (topS 2) f1 fd1
  g1 : mg "input_sum" = some (.ref f1)
  b1 : Binds K fd1 (["x"] : List Str) []
  f2 : Addr
  fd2 : FuncData
  F2 : Fun K "does_meet" "does_meet" (topS 3) f2 fd2
  g2 : mg "does_meet" = some (.ref f2)
  b2 : Binds K fd2 (["x", "paper"] : List Str) []
  f3 : Addr
  fd3 : FuncData
  F3 : Fun K "set_by" "set_by" (topS 4) f3 fd3
  g3 : mg "set_by" = some (.ref f3)
  b3 : Binds K fd3 (["f", "paper"] : List Str) []
  f4 : Addr
  fd4 : FuncData
  F4 : Fun K "weight_row" "weight_row" (topS 6) f4 fd4
  g4 : mg "weight_row" = some (.ref f4)
  b4 : Binds K fd4 (["f"] : List Str) []
  f5 : Addr
  fd5 : FuncData
  F5 : Fun K "even_less_odd" "even_less_odd" (topS 7) f5 fd5
  g5 : mg "even_less_odd" = some (.ref f5)
  b5 : Binds K fd5 (["f"] : List Str) []
  f6 : Addr
  fd6 : FuncData
  F6 : Fun K "count_balanced" "count_balanced" (topS 8) f6 fd6
  g6 : mg "count_balanced" = some (.ref f6)
  b6 : Binds K fd6 (["n"] : List Str) []
  f7 : Addr
  fd7 : FuncData
  F7 : Fun K "all_papers" "all_papers" (topS 10) f7 fd7
  g7 : mg "all_papers" = some (.ref f7)
  b7 : Binds K fd7 (["n"] : List Str) []
  cc7 : Addr
  pp7 : Addr
  hc7 : fd7.code = .ref cc7
  f8 : Addr
  fd8 : FuncData
  F8 : Fun K "best_trees" "best_trees" (topS 11) f8 fd8
  g8 : mg "best_trees" = some (.ref f8)
  b8 : Binds K fd8 (["f", "worth"] : List Str) []
  f9 : Addr
  fd9 : FuncData
  F9 : Fun K "by_depth" "by_depth" (topS 12) f9 fd9
  g9 : mg "by_depth" = some (.ref f9)
  b9 : Binds K fd9 (["zero", "one"] : List Str) []
  f10 : Addr
  fd10 : FuncData
  F10 : Fun K "fewest_asks" "fewest_asks" (topS 13) f10 fd10
  g10 : mg "fewest_asks" = some (.ref f10)
  b10 : Binds K fd10 (["f"] : List Str) []
  f11 : Addr
  fd11 : FuncData
  F11 : Fun K "_law_source" "_law_source" (topS 15) f11 fd11
  g11 : mg "_law_source" = some (.ref f11)
  b11 : Binds K fd11 (["script"] : List Str) []
  f12 : Addr
  fd12 : FuncData
  F12 : Fun K "_law_pick" "_law_pick" (topS 16) f12 fd12
  g12 : mg "_law_pick" = some (.ref f12)
  b12 : Binds K fd12 (["source", "many"] : List Str) []
  f13 : Addr
  fd13 : FuncData
  F13 : Fun K "law" "law" (topS 17) f13 fd13
  g13 : mg "law" = some (.ref f13)
  b13 : Binds K fd13 (["script"] : List Str) []
  z_abs : mg "abs" = none
  z_all : mg "all" = none
  z_enumerate : mg "enumerate" = none
  z_int : mg "int" = none
  z_len : mg "len" = none
  z_list : mg "list" = none
  z_max : mg "max" = none
  z_min : mg "min" = none
  z_range : mg "range" = none
  z_repr : mg "repr" = none
  z_sorted : mg "sorted" = none
  z_sum : mg "sum" = none
  z_tuple : mg "tuple" = none
  z_zip : mg "zip" = none
section
variable {w : World} {K : PySem.W.Frag} {mg : Str → Option Value} {base : Heap}
def faOf (t : Tx K mg) : Nat → Option Addr
  | 9 => some t.f9
  | _ => none
def TTt (t : Tx K mg) : List (Addr × Str) := [(t.pp7, (("all_papers" : Str) ++ ".<locals>.") ++ "<lambda>")]
structure TBs (t : Tx K mg) (base : Heap) : Prop where
  tb7 : LamX.TabB base mg t.cc7 t.pp7
abbrev gg (w : World) (base : Heap) (t : Tx K mg) (n : Nat) : Gx := gx prog w K mg base (faOf t) tab nosp n (TTt t)
structure Al (t : Tx K mg) (w : World) (base : Heap) (n : Nat) : Prop where
  c0 : FnG prog w K mg base CX0 n t.f0 t.fd0 (["x", "i"] : List Str) (spOf (gg w base t n) [.dat, .dat] 0)
  c1 : FnG prog w K mg base CX0 n t.f1 t.fd1 (["x"] : List Str) (spOf (gg w base t n) [.dat] 1)
  c2 : FnG prog w K mg base CX0 n t.f2 t.fd2 (["x", "paper"] : List Str) (spOf (gg w base t n) [.dat, .dat] 2)
  c3 : FnG prog w K mg base CX0 n t.f3 t.fd3 (["f", "paper"] : List Str) (spOf (gg w base t n) [.dat, .dat] 3)
  c4 : FnG prog w K mg base CX0 n t.f4 t.fd4 (["f"] : List Str) (spOf (gg w base t n) [.dat] 4)
  c5 : FnG prog w K mg base CX0 n t.f5 t.fd5 (["f"] : List Str) (spOf (gg w base t n) [.dat] 5)
  c6 : FnG prog w K mg base CX0 n t.f6 t.fd6 (["n"] : List Str) (spOf (gg w base t n) [.dat] 6)
  c7 : FnG prog w K mg base CX0 n t.f7 t.fd7 (["n"] : List Str) (spOf (gg w base t n) [.dat] 7)
  c8 : FnG prog w K mg base CX0 n t.f8 t.fd8 (["f", "worth"] : List Str) (spOf (gg w base t n) [.dat, .fn] 8)
  c9 : FnG prog w K mg base CX0 n t.f9 t.fd9 (["zero", "one"] : List Str) (spOf (gg w base t n) [.dat, .dat] 9)
  c10 : FnG prog w K mg base CX0 n t.f10 t.fd10 (["f"] : List Str) (spOf (gg w base t n) [.dat] 10)
  c12 : FnG prog w K mg base CX0 n t.f12 t.fd12 (["source", "many"] : List Str) (spOf (gg w base t n) [.src, .dat] 12)
theorem fnall {n : Nat} (t : Tx K mg) (h : Al t w base n) {X : Cx} (hX : X.prog = prog ∧ X.w = w ∧ X.K = K ∧ X.mg = mg ∧ X.base = base) (hr : GRoom n X.A) : FnAll (gg w base t n) X [.dat, .dat] := by
  obtain ⟨e1, e2, e3, e4, e5⟩ := hX
  refine ⟨fun m f e => ?_⟩
  simp only [gg, gx, faOf] at e
  split at e
  · cases e
    refine ⟨n, _, _, ?_, hr, by rw [e3]; exact t.F9.kp, by rw [e3]; exact t.b9⟩
    rw [e1, e2, e3, e4, e5]
    exact h.c9
  · cases e
theorem d0 {n : Nat} (t : Tx K mg) (tb : TBs t base) (h : Al t w base n) : FnG prog w K mg base CX0 (n + 1) t.f0 t.fd0 (["x", "i"] : List Str) (spOf (gg w base t (n + 1)) [.dat, .dat] 0) := by
  refine fn_def (d := D0) (W := W0) t.F0 sc0 rfl rfl rfl rfl (by decide) rfl fun cdv A outer s H E hr => ?_
  have hu := hu65 hr
  have hu1 := hu1 hr
  have hN := sc0.nd
  show PSs _ _ (tS _ _ (sRet (xOp .Mod (xOp .FloorDiv (xVar 0) (xOp .LShift (xCon (.int 1)) (xVar 1))) (xCon (.int 2)))))
  exact (ss_one (ss_ret (op_ (sb_of (op_ (sb_of (v_ 0)) (sb_of (op_ (sb_of se_int) (sb_of (v_ 1)))))) (sb_of se_int))))
theorem d1 {n : Nat} (t : Tx K mg) (tb : TBs t base) (h : Al t w base n) : FnG prog w K mg base CX0 (n + 1) t.f1 t.fd1 (["x"] : List Str) (spOf (gg w base t (n + 1)) [.dat] 1) := by
  refine fn_def (d := D1) (W := W1) t.F1 sc1 rfl rfl rfl rfl (by decide) rfl fun cdv A outer s H E hr => ?_
  have hu := hu65 hr
  have hu1 := hu1 hr
  have hN := sc1.nd
  show PSs _ _ (tS _ _ (sSeq (sSet 1 (xCon (.int 0))) (sSeq (sWhile (xCmp .Gt (xVar 0) (xCon (.int 0))) (sSeq (sSet 1 (xOp .Add (xVar 1) (xOp .Mod (xVar 0) (xCon (.int 2))))) (sSet 0 (xOp .FloorDiv (xVar 0) (xCon (.int 2)))))) (sRet (xVar 1)))))
  exact (ss_cons (set_ 1 hN se_int) (ss_cons (while_ PassesOwn.never (tcmp_ hu (sb_of (v_ 0)) (sb_of se_int)) (ss_cons (set_ 1 hN (op_ (sb_of (v_ 1)) (sb_of (op_ (sb_of (v_ 0)) (sb_of se_int))))) (ss_one (set_ 0 hN (op_ (sb_of (v_ 0)) (sb_of se_int)))))) (ss_one (ss_ret (v_ 1)))))
theorem d2 {n : Nat} (t : Tx K mg) (tb : TBs t base) (h : Al t w base n) : FnG prog w K mg base CX0 (n + 1) t.f2 t.fd2 (["x", "paper"] : List Str) (spOf (gg w base t (n + 1)) [.dat, .dat] 2) := by
  refine fn_def (d := D2) (W := W2) t.F2 sc2 rfl rfl rfl rfl (by decide) rfl fun cdv A outer s H E hr => ?_
  have hu := hu65 hr
  have hu1 := hu1 hr
  have hN := sc2.nd
  show PSs _ _ (tS _ _ (sRet (xPrim .all (xCons (xComp [2, 3] (iVal (xVar 1)) (gTup (gCons (gVar 2) (gCons (gVar 3) gNil))) tYes (xCmp .Eq (xCall 0 (xCons (xVar 0) (xCons (xVar 2) xNil))) (xVar 3))) xNil))))
  exact (ss_one (ss_ret (pb_ (pr_allOf rfl) t.z_all (cb_ (sb_of (se_fresh (lc_ [("i", 2), ("b", 3)] hN (ib_ (st := false) (bxF (sb_of (v_ 1)))) (fun _ _ _ _ _ => (gt_ 2 (gc_ (sg_mono (g_ 2 hN) (by decide)) (gc_ (sg_mono (g_ 3 hN) (by decide)) (sg_nil (vs := [2, 3])))) (lenG_cons (lenG_cons lenG_nil)))) (fun _ _ _ _ _ => sc_yes) (fun _ _ _ _ _ => (cmp_ hu (sb_of (call_ h.c0 hr t.g0 t.F0.kp t.b0 (cp_ (v_ 0) (cp_ (v_ 2) sp_nil)))) (sb_of (v_ 3))))))) sc_nil))))
theorem d3 {n : Nat} (t : Tx K mg) (tb : TBs t base) (h : Al t w base n) : FnG prog w K mg base CX0 (n + 1) t.f3 t.fd3 (["f", "paper"] : List Str) (spOf (gg w base t (n + 1)) [.dat, .dat] 3) := by
  refine fn_def (d := D3) (W := W3) t.F3 sc3 rfl rfl rfl rfl (by decide) rfl fun cdv A outer s H E hr => ?_
  have hu := hu65 hr
  have hu1 := hu1 hr
  have hN := sc3.nd
  show PSs _ _ (tS _ _ (sSeq (sSet 2 (xOp .Sub (xSubY (xVar 0) (xCon (.int 0))) (xLenY (xVar 1)))) (sRet (xTup (xCons (xVar 2) (xCons (xPrim .tuple (xCons (xComp [3, 4] (iEnum (xSubY (xVar 0) (xCon (.int 1)))) (gTup (gCons (gVar 3) (gCons (gVar 4) gNil))) (tIf (xCall 2 (xCons (xVar 3) (xCons (xVar 1) xNil)))) (xVar 4)) xNil)) xNil))))))
  exact (ss_cons (set_ 2 hN (op_ (sb_of (subY_ hu (sb_of (v_ 0)) (sb_of se_int))) (sb_of (lenY_ t.z_len (sb_of (v_ 1)))))) (ss_one (ss_ret (se_tup (ca_ (v_ 2) (ca_ (pt_ pr_tuple t.z_tuple (cb_ (sb_of (se_fresh (lc_ [("x", 3), ("answer", 4)] hN (ie_ (st := false) t.z_enumerate (bxF (sb_of (subY_ hu (sb_of (v_ 0)) (sb_of se_int))))) (fun _ _ _ _ _ => (gt_ 2 (gc_ (sg_mono (g_ 3 hN) (by decide)) (gc_ (sg_mono (g_ 4 hN) (by decide)) (sg_nil (vs := [3, 4])))) (lenG_cons (lenG_cons lenG_nil)))) (fun _ _ _ _ _ => (sc_one (val_ (call_ h.c2 hr t.g2 t.F2.kp t.b2 (cp_ (v_ 3) (cp_ (v_ 1) sp_nil)))))) (fun _ _ _ _ _ => (v_ 4))))) sc_nil)) sa_nil))))))
theorem d4 {n : Nat} (t : Tx K mg) (tb : TBs t base) (h : Al t w base n) : FnG prog w K mg base CX0 (n + 1) t.f4 t.fd4 (["f"] : List Str) (spOf (gg w base t (n + 1)) [.dat] 4) := by
  refine fn_def (d := D4) (W := W4) t.F4 sc4 rfl rfl rfl rfl (by decide) rfl fun cdv A outer s H E hr => ?_
  have hu := hu65 hr
  have hu1 := hu1 hr
  have hN := sc4.nd
  show PSs _ _ (tS _ _ (sSeq (sSet 1 (xOpL .Mult (xLst (xCons (xCon (.int 0)) xNil)) (xOp .Add (xSubY (xVar 0) (xCon (.int 0))) (xCon (.int 1))))) (sSeq (sFor (gTup (gCons (gVar 2) (gCons (gVar 3) gNil))) (iEnum (xSubY (xVar 0) (xCon (.int 1)))) (sStoreY 1 (xCall 1 (xCons (xVar 2) xNil)) (xOp .Add (xSubY (xVar 1) (xCall 1 (xCons (xVar 2) xNil))) (xVar 3)))) (sRet (xPrim .tuple (xCons (xVar 1) xNil))))))
  exact (ss_cons (setF_ 1 hN (sf_op opl_mul (sb_of (se_fresh (sf_lst (ca_ se_int sa_nil)))) (sb_of (op_ (sb_of (subY_ hu (sb_of (v_ 0)) (sb_of se_int))) (sb_of se_int))))) (ss_cons (for_ PassesOwn.never (ie_ (st := true) t.z_enumerate (bxT (subY_ hu (sb_of (v_ 0)) (sb_of se_int)))) (gt_ 2 (gc_ (sg_mono (g_ 2 hN) (by decide)) (gc_ (sg_mono (g_ 3 hN) (by decide)) (sg_nil (vs := [2, 3])))) (lenG_cons (lenG_cons lenG_nil))) (ss_one (storeY_ 1 hu (op_ (sb_of (subY_ hu (o_ 1) (sb_of (call_ h.c1 hr t.g1 t.F1.kp t.b1 (cp_ (v_ 2) sp_nil))))) (sb_of (v_ 3))) (sb_of (call_ h.c1 hr t.g1 t.F1.kp t.b1 (cp_ (v_ 2) sp_nil)))))) (ss_one (ss_ret (pt_ pr_tuple t.z_tuple (cb_ (o_ 1) sc_nil))))))
theorem d5 {n : Nat} (t : Tx K mg) (tb : TBs t base) (h : Al t w base n) : FnG prog w K mg base CX0 (n + 1) t.f5 t.fd5 (["f"] : List Str) (spOf (gg w base t (n + 1)) [.dat] 5) := by
  refine fn_def (d := D5) (W := W5) t.F5 sc5 rfl rfl rfl rfl (by decide) rfl fun cdv A outer s H E hr => ?_
  have hu := hu65 hr
  have hu1 := hu1 hr
  have hN := sc5.nd
  show PSs _ _ (tS _ _ (sRet (xPrim .sum (xCons (xComp [1, 2] (iEnum (xCall 4 (xCons (xVar 0) xNil))) (gTup (gCons (gVar 1) (gCons (gVar 2) gNil))) tYes (xOp .Mult (xVar 2) (xOp .Sub (xCon (.int 1)) (xOp .Mult (xCon (.int 2)) (xOp .Mod (xVar 1) (xCon (.int 2))))))) xNil))))
  exact (ss_one (ss_ret (pb_ (pr_sum rfl) t.z_sum (cb_ (sb_of (se_fresh (lc_ [("j", 1), ("many", 2)] hN (ie_ (st := false) t.z_enumerate (bxF (sb_of (call_ h.c4 hr t.g4 t.F4.kp t.b4 (cp_ (v_ 0) sp_nil))))) (fun _ _ _ _ _ => (gt_ 2 (gc_ (sg_mono (g_ 1 hN) (by decide)) (gc_ (sg_mono (g_ 2 hN) (by decide)) (sg_nil (vs := [1, 2])))) (lenG_cons (lenG_cons lenG_nil)))) (fun _ _ _ _ _ => sc_yes) (fun _ _ _ _ _ => (op_ (sb_of (v_ 2)) (sb_of (op_ (sb_of se_int) (sb_of (op_ (sb_of se_int) (sb_of (op_ (sb_of (v_ 1)) (sb_of se_int)))))))))))) sc_nil))))
theorem d6 {n : Nat} (t : Tx K mg) (tb : TBs t base) (h : Al t w base n) : FnG prog w K mg base CX0 (n + 1) t.f6 t.fd6 (["n"] : List Str) (spOf (gg w base t (n + 1)) [.dat] 6) := by
  refine fn_def (d := D6) (W := W6) t.F6 sc6 rfl rfl rfl rfl (by decide) rfl fun cdv A outer s H E hr => ?_
  have hu := hu65 hr
  have hu1 := hu1 hr
  have hN := sc6.nd
  show PSs _ _ (tS _ _ (sSeq (sPar (gIs [1, 2]) (xCons (xOp .LShift (xCon (.int 1)) (xOp .Sub (xVar 0) (xCon (.int 1)))) (xCons (xCon (.int 1)) xNil))) (sSeq (sFor (gVar 3) (iRange (xVar 1)) (sSet 2 (xOp .FloorDiv (xOp .Mult (xVar 2) (xOp .Sub (xOp .Mult (xCon (.int 2)) (xVar 1)) (xVar 3))) (xOp .Add (xVar 3) (xCon (.int 1)))))) (sRet (xVar 2)))))
  exact (ss_cons (par_ 1 2 hN (ck_ (op_ (sb_of se_int) (sb_of (op_ (sb_of (v_ 0)) (sb_of se_int)))) (ck_ se_int sk_nil))) (ss_cons (for_ PassesOwn.never (ir_ (st := true) t.z_range (sb_of (v_ 1))) (g_ 3 hN) (ss_one (set_ 2 hN (op_ (sb_of (op_ (sb_of (v_ 2)) (sb_of (op_ (sb_of (op_ (sb_of se_int) (sb_of (v_ 1)))) (sb_of (v_ 3)))))) (sb_of (op_ (sb_of (v_ 3)) (sb_of se_int))))))) (ss_one (ss_ret (v_ 2)))))
theorem d7 {n : Nat} (t : Tx K mg) (tb : TBs t base) (h : Al t w base n) : FnG prog w K mg base CX0 (n + 1) t.f7 t.fd7 (["n"] : List Str) (spOf (gg w base t (n + 1)) [.dat] 7) := by
  refine fn_defT (d := D7) (W := W7) t.F7 sc7 rfl rfl rfl rfl (by decide) rfl fun cdv A outer s H E hc hr => ?_
  have hu := hu65 hr
  have hu1 := hu1 hr
  have hN := sc7.nd
  show PSs _ _ (tS _ _ (sSeq (sSet 1 (xLst (xCons (xTup xNil) xNil))) (sSeq (sFor (gVar 2) (iRange (xVar 0)) (sSeq (sSet 3 (xPrim .list (xCons (xVar 1) xNil))) (sSeq (sFor (gVar 4) (iVal (xVar 1)) (sSet 3 (xLst (xStar (xVar 3) (xCons (xTup (xStar (xVar 4) (xCons (xTup (xCons (xVar 2) (xCons (xCon (.int 0)) xNil))) xNil))) (xCons (xTup (xStar (xVar 4) (xCons (xTup (xCons (xVar 2) (xCons (xCon (.int 1)) xNil))) xNil))) xNil)))))) (sSet 1 (xVar 3))))) (sRet (xSortN (xVar 1))))))
  exact (ss_cons (set_ 1 hN (se_fresh (sf_lst (ca_ (se_tup sa_nil) sa_nil)))) (ss_cons (for_ PassesOwn.never (ir_ (st := true) t.z_range (sb_of (v_ 0))) (g_ 2 hN) (ss_cons (set_ 3 hN (se_fresh (lf_ t.z_list (cb_ (sb_of (v_ 1)) sc_nil)))) (ss_cons (for_ PassesOwn.never (ib_ (st := true) (bxT (v_ 1))) (g_ 4 hN) (ss_one (set_ 3 hN (se_fresh (sf_lst (cs_ (sb_of (v_ 3)) (ca_ (se_tup (cs_ (sb_of (v_ 4)) (ca_ (se_tup (ca_ (v_ 2) (ca_ se_int sa_nil))) sa_nil))) (ca_ (se_tup (cs_ (sb_of (v_ 4)) (ca_ (se_tup (ca_ (v_ 2) (ca_ se_int sa_nil))) sa_nil))) sa_nil)))))))) (ss_one (set_ 1 hN (v_ 3)))))) (ss_one (ss_ret (se_fresh (soN_ hr t.z_sorted t.z_len (sb_of (v_ 1)) tb.tb7 (hc.symm.trans t.hc7) (by simp only [gg, gx]; exact (.head _))))))))
theorem d8 {n : Nat} (t : Tx K mg) (tb : TBs t base) (h : Al t w base n) : FnG prog w K mg base CX0 (n + 1) t.f8 t.fd8 (["f", "worth"] : List Str) (spOf (gg w base t (n + 1)) [.dat, .fn] 8) := by
  refine fn_def (d := D8) (W := W8) t.F8 sc8 rfl rfl rfl rfl (by decide) rfl fun cdv A outer s H E hr => ?_
  have hu := hu65 hr
  have hu1 := hu1 hr
  have hN := sc8.nd
  show PSs _ _ (tS _ _ (sSeq (sPar (gIs [2, 3]) (xCons (xSubY (xVar 0) (xCon (.int 0))) (xCons xD0 xNil))) (sSeq (sFor (gVar 4) (iVal (xCall 7 (xCons (xVar 2) xNil))) (sSeq (sPar (gIs [5, 6]) (xCons (xLst xNil) (xCons (xComp [12, 13] (iVal (xVar 4)) (gTup (gCons (gVar 12) (gCons (gVar 13) gNil))) tYes (xVar 12)) xNil))) (sSeq (sFor (gVar 7) (iVal (xComp [7] (iRange (xVar 2)) (gVar 7) (tIf (xCmpY .NotIn (xVar 7) (xVar 6))) (xVar 7))) (sSeq (sAsg (gLst (gCons (gVar 8) (gCons (gVar 9) gNil))) (xComp [13] (iVal (xTup (xCons (xCon (.int 0)) (xCons (xCon (.int 1)) xNil)))) (gVar 13) tYes (xSubY (xVar 3) (xPrim .tuple (xCons (xSortY (xLst (xStar (xVar 4) (xCons (xTup (xCons (xVar 7) (xCons (xVar 13) xNil))) xNil)))) xNil))))) (sAppend 5 (xTup (xCons (xCallV 1 (xCons (xSubY (xVar 8) (xCon (.int 0))) (xCons (xSubY (xVar 9) (xCon (.int 0))) xNil))) (xCons (xVar 7) (xCons (xSubY (xVar 8) (xCon (.int 1))) (xCons (xSubY (xVar 9) (xCon (.int 1))) xNil)))))))) (sIf (xCmp .Eq (xVar 5) (xLst xNil)) (sStoreY 3 (xVar 4) (xTup (xCons (xCallV 1 (xCons (xCon .none) (xCons (xCon .none) xNil))) (xCons (xSubY (xSubY (xCall 3 (xCons (xVar 0) (xCons (xVar 4) xNil))) (xCon (.int 1))) (xCon (.int 0))) xNil)))) (sIf (xAnd (xCmpY .In (xSubY (xSubY (xVar 5) (xCon (.int 0))) (xCon (.int 2))) (xTup (xCons (xCon (.int 0)) (xCons (xCon (.int 1)) xNil)))) (xCmp .Eq (xSubY (xSubY (xVar 5) (xCon (.int 0))) (xCon (.int 2))) (xSubY (xSubY (xVar 5) (xCon (.int 0))) (xCon (.int 3))))) (sStoreY 3 (xVar 4) (xTup (xCons (xCallV 1 (xCons (xCon .none) (xCons (xCon .none) xNil))) (xCons (xSubY (xSubY (xVar 5) (xCon (.int 0))) (xCon (.int 2))) xNil)))) (sSeq (sSet 10 (xPrim .min (xCons (xComp [11, 7, 8, 9] (iVal (xVar 5)) (gTup (gCons (gVar 11) (gCons (gVar 7) (gCons (gVar 8) (gCons (gVar 9) gNil))))) tYes (xVar 11)) xNil))) (sSeq (sAsg (gTup (gCons (gVar 11) (gCons (gVar 7) (gCons (gVar 8) (gCons (gVar 9) gNil))))) (xSubY (xComp [14] (iVal (xVar 5)) (gVar 14) (tIf (xCmp .Eq (xSubY (xVar 14) (xCon (.int 0))) (xVar 10))) (xVar 14)) (xCon (.int 0)))) (sStoreY 3 (xVar 4) (xTup (xCons (xVar 11) (xCons (xTup (xCons (xVar 7) (xCons (xVar 8) (xCons (xVar 9) xNil)))) xNil))))))))))) (sRet (xVar 3)))))
  exact (ss_cons (parT_ [2, 3] hN (ck_ (subY_ hu (sb_of (v_ 0)) (sb_of se_int)) (co_ sf_d0 sk_nil)) (sn_cons 2 hN (sn_cons 3 hN sn_nil))) (ss_cons (for_ PassesOwn.never (ib_ (st := true) (bxT (call_ h.c7 hr t.g7 t.F7.kp t.b7 (cp_ (v_ 2) sp_nil)))) (g_ 4 hN) (ss_cons (parT_ [5, 6] hN (co_ (sf_lst sa_nil) (ck_ (se_fresh (lc_ [("bit", 12), ("b", 13)] hN (ib_ (st := false) (bxF (sb_of (v_ 4)))) (fun _ _ _ _ _ => (gt_ 2 (gc_ (sg_mono (g_ 12 hN) (by decide)) (gc_ (sg_mono (g_ 13 hN) (by decide)) (sg_nil (vs := [12, 13])))) (lenG_cons (lenG_cons lenG_nil)))) (fun _ _ _ _ _ => sc_yes) (fun _ _ _ _ _ => (v_ 12)))) sk_nil)) (sn_cons 5 hN (sn_cons 6 hN sn_nil))) (ss_cons (for_ PassesOwn.never (ib_ (st := true) (bxT (se_fresh (lc_ [("i", 7)] hN (ir_ (st := false) t.z_range (sb_of (v_ 2))) (fun _ _ _ _ _ => (g_ 7 hN)) (fun _ _ _ _ _ => (sc_one (tcmpY_ hu (sb_of (v_ 7)) (sb_of (v_ 6))))) (fun _ _ _ _ _ => (v_ 7)))))) (g_ 7 hN) (ss_cons (asg_ (se_fresh (lc_ [("b", 13)] hN (ib_ (st := false) (bxF (sb_of (se_tup (ca_ se_int (ca_ se_int sa_nil)))))) (fun _ _ _ _ _ => (g_ 13 hN)) (fun _ _ _ _ _ => sc_yes) (fun _ _ _ _ _ => (subY_ hu (o_ 3) (sb_of (pt_ pr_tuple t.z_tuple (cb_ (sb_of (se_fresh (soY_ rfl hu t.z_sorted (sb_of (se_fresh (sf_lst (cs_ (sb_of (v_ 4)) (ca_ (se_tup (ca_ (v_ 7) (ca_ (v_ 13) sa_nil))) sa_nil)))))))) sc_nil))))))) (gl_ 2 (gc_ (sg_mono (g_ 8 hN) (by decide)) (gc_ (sg_mono (g_ 9 hN) (by decide)) (sg_nil (vs := [8, 9])))) (lenG_cons (lenG_cons lenG_nil)))) (ss_one (app_ 5 (se_tup (ca_ (callV_ 1 (fnall t h ⟨rfl, rfl, rfl, rfl, rfl⟩ hr) (cp_ (subY_ hu (sb_of (v_ 8)) (sb_of se_int)) (cp_ (subY_ hu (sb_of (v_ 9)) (sb_of se_int)) sp_nil))) (ca_ (v_ 7) (ca_ (subY_ hu (sb_of (v_ 8)) (sb_of se_int)) (ca_ (subY_ hu (sb_of (v_ 9)) (sb_of se_int)) sa_nil))))))))) (ss_one (ss_if (tcmp_ hu (o_ 5) (sb_of (se_fresh (sf_lst sa_nil)))) (ss_one (storeY_ 3 hu (se_tup (ca_ (callV_ 1 (fnall t h ⟨rfl, rfl, rfl, rfl, rfl⟩ hr) (cp_ se_non (cp_ se_non sp_nil))) (ca_ (subY_ hu (sb_of (subY_ hu (sb_of (call_ h.c3 hr t.g3 t.F3.kp t.b3 (cp_ (v_ 0) (cp_ (v_ 4) sp_nil)))) (sb_of se_int))) (sb_of se_int)) sa_nil))) (sb_of (v_ 4)))) (ss_one (ss_if (PW.pt (sw_and (tcmpY_ hu (sb_of (subY_ hu (sb_of (subY_ hu (o_ 5) (sb_of se_int))) (sb_of se_int))) (sb_of (se_tup (ca_ se_int (ca_ se_int sa_nil))))) (pw_and1 (tcmp_ hu (sb_of (subY_ hu (sb_of (subY_ hu (o_ 5) (sb_of se_int))) (sb_of se_int))) (sb_of (subY_ hu (sb_of (subY_ hu (o_ 5) (sb_of se_int))) (sb_of se_int))))))) (ss_one (storeY_ 3 hu (se_tup (ca_ (callV_ 1 (fnall t h ⟨rfl, rfl, rfl, rfl, rfl⟩ hr) (cp_ se_non (cp_ se_non sp_nil))) (ca_ (subY_ hu (sb_of (subY_ hu (o_ 5) (sb_of se_int))) (sb_of se_int)) sa_nil))) (sb_of (v_ 4)))) (ss_cons (set_ 10 hN (pb_ (pr_min rfl hu) t.z_min (cb_ (sb_of (se_fresh (lc_ [("number", 11), ("i", 7), ("zero", 8), ("one", 9)] hN (ib_ (st := false) (bxF (o_ 5))) (fun _ _ _ _ _ => (gt_ 4 (gc_ (sg_mono (g_ 11 hN) (by decide)) (gc_ (sg_mono (g_ 7 hN) (by decide)) (gc_ (sg_mono (g_ 8 hN) (by decide)) (gc_ (sg_mono (g_ 9 hN) (by decide)) (sg_nil (vs := [11, 7, 8, 9])))))) (lenG_cons (lenG_cons (lenG_cons (lenG_cons lenG_nil)))))) (fun _ _ _ _ _ => sc_yes) (fun _ _ _ _ _ => (v_ 11))))) sc_nil))) (ss_cons (asg_ (subY_ hu (sb_of (se_fresh (lc_ [("late", 14)] hN (ib_ (st := false) (bxF (o_ 5))) (fun _ _ _ _ _ => (g_ 14 hN)) (fun _ _ _ _ _ => (sc_one (tcmp_ hu (sb_of (subY_ hu (sb_of (v_ 14)) (sb_of se_int))) (sb_of (v_ 10))))) (fun _ _ _ _ _ => (v_ 14))))) (sb_of se_int)) (gt_ 4 (gc_ (sg_mono (g_ 11 hN) (by decide)) (gc_ (sg_mono (g_ 7 hN) (by decide)) (gc_ (sg_mono (g_ 8 hN) (by decide)) (gc_ (sg_mono (g_ 9 hN) (by decide)) (sg_nil (vs := [11, 7, 8, 9])))))) (lenG_cons (lenG_cons (lenG_cons (lenG_cons lenG_nil)))))) (ss_one (storeY_ 3 hu (se_tup (ca_ (v_ 11) (ca_ (se_tup (ca_ (v_ 7) (ca_ (v_ 8) (ca_ (v_ 9) sa_nil)))) sa_nil))) (sb_of (v_ 4))))))))))))) (ss_one (retO_ 3))))
theorem d9 {n : Nat} (t : Tx K mg) (tb : TBs t base) (h : Al t w base n) : FnG prog w K mg base CX0 (n + 1) t.f9 t.fd9 (["zero", "one"] : List Str) (spOf (gg w base t (n + 1)) [.dat, .dat] 9) := by
  refine fn_def (d := D9) (W := W9) t.F9 sc9 rfl rfl rfl rfl (by decide) rfl fun cdv A outer s H E hr => ?_
  have hu := hu65 hr
  have hu1 := hu1 hr
  have hN := sc9.nd
  show PSs _ _ (tS _ _ (sRet (xIf (xCmp .Is (xVar 0) (xCon .none)) (xCon (.int 0)) (xOp .Add (xCon (.int 1)) (xPrim .max (xCons (xVar 0) (xCons (xVar 1) xNil)))))))
  exact (ss_one (ss_ret (se_if (tcmp_ hu (sb_of (v_ 0)) (sb_of se_non)) se_int (op_ (sb_of se_int) (sb_of (pb_ (pr_max rfl hu) t.z_max (cb_ (sb_of (v_ 0)) (cb_ (sb_of (v_ 1)) sc_nil))))))))
theorem d10 {n : Nat} (t : Tx K mg) (tb : TBs t base) (h : Al t w base n) : FnG prog w K mg base CX0 (n + 1) t.f10 t.fd10 (["f"] : List Str) (spOf (gg w base t (n + 1)) [.dat] 10) := by
  refine fn_def (d := D10) (W := W10) t.F10 sc10 rfl rfl rfl rfl (by decide) rfl fun cdv A outer s H E hr => ?_
  have hu := hu65 hr
  have hu1 := hu1 hr
  have hN := sc10.nd
  show PSs _ _ (tS _ _ (sRet (xSubY (xSubY (xCall 8 (xCons (xVar 0) (xCons (xCon (.int 9)) xNil))) (xTup xNil)) (xCon (.int 0)))))
  exact (ss_one (ss_ret (subY_ hu (sb_of (subY_ hu (sb_of (call_ h.c8 hr t.g8 t.F8.kp t.b8 (cp_ (v_ 0) (fng_ 9 rfl t.g9 sp_nil)))) (sb_of (se_tup sa_nil)))) (sb_of se_int))))
theorem d12 {n : Nat} (t : Tx K mg) (tb : TBs t base) (h : Al t w base n) : FnG prog w K mg base CX0 (n + 1) t.f12 t.fd12 (["source", "many"] : List Str) (spOf (gg w base t (n + 1)) [.src, .dat] 12) := by
  refine fn_def (d := D12) (W := W12) t.F12 sc12 rfl rfl rfl rfl (by decide) rfl fun cdv A outer s H E hr => ?_
  have hu := hu65 hr
  have hu1 := hu1 hr
  have hN := sc12.nd
  show PSs _ _ (tS _ _ (sSeq (sWhile (xAnd (xCmp .Gt (xVar 1) (xCon (.int 1))) (xAnd (xCmp .Lt (xSrc 0 (xGet .left)) (xCon (.int 2))) (xCmp .Gt (xSrc 0 xCelLen) (xCon (.int 0))))) (sSrc 0 sPopLeft)) (sSeq (sSet 2 (xSrc 0 (xGet .left))) (sSeq (sIf (xOr (xCmp .Lt (xVar 1) (xCon (.int 2))) (xCmp .Gt (xVar 2) (xCon (.int 1)))) (sSeq (sSrc 0 (sPut .left (xOp .FloorDiv (xVar 2) (xPrim .max (xCons (xCon (.int 1)) (xCons (xVar 1) xNil)))))) (sRet (xOp .Mod (xPrim .int (xCons (xVar 2) xNil)) (xPrim .max (xCons (xCon (.int 1)) (xCons (xVar 1) xNil)))))) sNil) (sSeq (sSrc 0 (sPut .turn (xOp .Add (xSrc 0 (xGet .turn)) (xCon (.int 1))))) (sSeq (sSet 3 (xOp .Mod (xPrim .int (xCons (xOp .Add (xSrc 0 (xGet .mixed)) (xOp .Mult (xSrc 0 (xGet .turn)) (xCon (.int 104729)))) xNil)) (xCon (.int 998244353)))) (sSeq (sSet 3 (xOp .Mod (xPrim .int (xCons (xOp .Add (xOp .Mult (xVar 3) (xVar 3)) (xOp .Mult (xSrc 0 (xGet .turn)) (xCon (.int 17)))) xNil)) (xCon (.int 2147483647)))) (sSeq (sSrc 0 (sPut .mixed (xVar 3))) (sRet (xOp .Mod (xPrim .int (xCons (xOp .FloorDiv (xVar 3) (xCon (.int 16))) xNil)) (xVar 1)))))))))))
  exact (ss_cons (while_ PassesOwn.never (PW.pt (sw_and (tcmp_ hu (sb_of (v_ 1)) (sb_of se_int)) (sw_and (tcmp_ hu (sb_of (get_ 0 .left hu1)) (sb_of se_int)) (pw_and1 (tcmp_ hu (sb_of (celn_ 0 hu1 t.z_len)) (sb_of se_int)))))) (ss_one (popL_ 0 hu1))) (ss_cons (set_ 2 hN (get_ 0 .left hu1)) (ss_cons (ss_if (PW.pt (sw_or (tcmp_ hu (sb_of (v_ 1)) (sb_of se_int)) (pw_or1 (tcmp_ hu (sb_of (v_ 2)) (sb_of se_int))))) (ss_cons (put_ 0 .left hu1 (op_ (sb_of (v_ 2)) (sb_of (pb_ (pr_max rfl hu) t.z_max (cb_ (sb_of se_int) (cb_ (sb_of (v_ 1)) sc_nil)))))) (ss_one (ss_ret (op_ (sb_of (pt_ pr_int t.z_int (cb_ (sb_of (v_ 2)) sc_nil))) (sb_of (pb_ (pr_max rfl hu) t.z_max (cb_ (sb_of se_int) (cb_ (sb_of (v_ 1)) sc_nil)))))))) ss_nil) (ss_cons (put_ 0 .turn hu1 (op_ (sb_of (get_ 0 .turn hu1)) (sb_of se_int))) (ss_cons (set_ 3 hN (op_ (sb_of (pt_ pr_int t.z_int (cb_ (sb_of (op_ (sb_of (get_ 0 .mixed hu1)) (sb_of (op_ (sb_of (get_ 0 .turn hu1)) (sb_of se_int))))) sc_nil))) (sb_of se_int))) (ss_cons (set_ 3 hN (op_ (sb_of (pt_ pr_int t.z_int (cb_ (sb_of (op_ (sb_of (op_ (sb_of (v_ 3)) (sb_of (v_ 3)))) (sb_of (op_ (sb_of (get_ 0 .turn hu1)) (sb_of se_int))))) sc_nil))) (sb_of se_int))) (ss_cons (put_ 0 .mixed hu1 (v_ 3)) (ss_one (ss_ret (op_ (sb_of (pt_ pr_int t.z_int (cb_ (sb_of (op_ (sb_of (v_ 3)) (sb_of se_int))) sc_nil))) (sb_of (v_ 1))))))))))))
theorem al (t : Tx K mg) (tb : TBs t base) : ∀ n, Al t w base n
  | 0 => ⟨fn_zero rfl, fn_zero rfl, fn_zero rfl, fn_zero rfl, fn_zero rfl, fn_zero rfl, fn_zero rfl, fn_zero rfl, fn_zero rfl, fn_zero rfl, fn_zero rfl, fn_zero rfl⟩
  | n + 1 => let h := al t tb n; ⟨d0 t tb h, d1 t tb h, d2 t tb h, d3 t tb h, d4 t tb h, d5 t tb h, d6 t tb h, d7 t tb h, d8 t tb h, d9 t tb h, d10 t tb h, d12 t tb h⟩
theorem d11 {n : Nat} (t : Tx K mg) : FnG prog w K mg base CX0 (n + 1) t.f11 t.fd11 (["script"] : List Str) (spNew K) := by
  refine fn_sourceA (G := gx prog w K mg base (fun _ => none) tab nosp n) (W := W11) t.F11 sc11 rfl rfl rfl rfl fun cdv A outer s H E hr => ?_
  have hu := hu65 hr
  have hu1 := hu1 hr
  have hN := sc11.nd
  exact ⟨(set_ 1 hN se_int), (for_ PassesOwn.never (ic_ (st := true) 0) (g_ 2 hN) (ss_one (set_ 1 hN (op_ (sb_of (pt_ pr_int t.z_int (cb_ (sb_of (op_ (sb_of (op_ (sb_of (op_ (sb_of (v_ 1)) (sb_of se_int))) (sb_of (op_ (sb_of (v_ 2)) (sb_of se_int))))) (sb_of se_int))) sc_nil))) (sb_of se_int))))), ss_new rfl rfl rfl rfl (sf_rev (sb_of (se_fresh (lc_ [("cell", 2)] hN (ic_ (st := false) 0) (fun _ _ _ _ _ => (g_ 2 hN)) (fun _ _ _ _ _ => sc_yes) (fun _ _ _ _ _ => (pb_ pr_abs t.z_abs (cb_ (sb_of (v_ 2)) sc_nil))))))) (v_ 1)⟩
def l0 : BA.St := (sSet 2 (xOp .Add (xCon (.int 1)) (xCall 12 (xCons (xVar 1) (xCons (xCon (.int 3)) xNil)))))
def l1 : BA.St := (sSet 3 (xCon (.int 0)))
def l2 : BA.St := (sFor (gVar 4) (iRange (xOp .LShift (xCon (.int 1)) (xOp .LShift (xCon (.int 1)) (xVar 2)))) (sSeq (sSet 5 (xPrim .tuple (xCons (xComp [7] (iRange (xOp .LShift (xCon (.int 1)) (xVar 2))) (gVar 7) tYes (xOp .Mod (xPrim .int (xCons (xOp .FloorDiv (xVar 4) (xOp .LShift (xCon (.int 1)) (xVar 7))) xNil)) (xCon (.int 2)))) xNil))) (sSeq (sSet 6 (xCon (.int 0))) (sSeq (sFor (gVar 7) (iRange (xOp .LShift (xCon (.int 1)) (xVar 2))) (sSeq (sSet 8 (xPrim .sum (xCons (xComp [14] (iRange (xVar 2)) (gVar 14) tYes (xOp .Mod (xPrim .int (xCons (xOp .FloorDiv (xVar 7) (xOp .LShift (xCon (.int 1)) (xVar 14))) xNil)) (xCon (.int 2)))) xNil))) (sSet 6 (xOp .Add (xVar 6) (xOp .Mult (xSubY (xVar 5) (xVar 7)) (xOp .Sub (xCon (.int 1)) (xOp .Mult (xCon (.int 2)) (xOp .Mod (xPrim .int (xCons (xVar 8) xNil)) (xCon (.int 2)))))))))) (sSeq (sIf (xCmp .NotEq (xCall 5 (xCons (xTup (xCons (xVar 2) (xCons (xVar 5) xNil))) xNil)) (xVar 6)) (sRet (xCon (.bool false))) sNil) (sSeq (sSet 3 (xOp .Add (xVar 3) (xPrim .int (xCons (xCmp .Eq (xVar 6) (xCon (.int 0))) xNil)))) (sIf (xAnd (xCmp .NotEq (xVar 6) (xCon (.int 0))) (xAnd (xCmp .Eq (xOp .Mod (xPrim .int (xCons (xVar 4) xNil)) (xCon (.int 7))) (xCon (.int 3))) (xCmp .NotEq (xCall 10 (xCons (xTup (xCons (xVar 2) (xCons (xVar 5) xNil))) xNil)) (xVar 2)))) (sRet (xCon (.bool false))) sNil)))))))
def l3 : BA.St := (sIf (xReprC .NotEq (xCall 6 (xCons (xVar 2) xNil)) (xVar 3)) (sRet (xCon (.bool false))) sNil)
def l4 : BA.St := (sSet 2 (xOp .Add (xCon (.int 1)) (xCall 12 (xCons (xVar 1) (xCons (xCon (.int 8)) xNil)))))
def l5 : BA.St := (sPar (gIs [9, 10]) (xCons (xOp .LShift (xCon (.int 1)) (xOp .Sub (xVar 2) (xCon (.int 1)))) (xCons (xLst (xCons (xCon (.int 1)) xNil)) xNil)))
def l6 : BA.St := (sFor (gVar 11) (iRange (xOp .Mult (xCon (.int 2)) (xVar 9))) (sSet 10 (xSlice (xComp [12, 13] (iZip (xOp .Add (xVar 10) (xLst (xCons (xCon (.int 0)) xNil))) (xOp .Add (xLst (xCons (xCon (.int 0)) xNil)) (xVar 10))) (gTup (gCons (gVar 12) (gCons (gVar 13) gNil))) tYes (xOp .Add (xVar 12) (xVar 13))) xNo (xPart (xOp .Add (xVar 9) (xCon (.int 1)))))))
def l7 : BA.St := (sRet (xAnd (xCmp .Eq (xCall 6 (xCons (xVar 2) xNil)) (xSubY (xVar 10) (xVar 9))) (xCmp .Eq (xCall 6 (xCons (xCon (.int 2)) xNil)) (xCon (.int 6)))))
def r7 : BA.St := l7
def r6 : BA.St := (sSeqF l6 [3, 4, 5, 6, 7, 8, 11, 12, 13, 14] r7)
def r5 : BA.St := (sSeqF l5 [3, 4, 5, 6, 7, 8, 11, 12, 13, 14] r6)
def r4 : BA.St := (sSeqF l4 [3, 4, 5, 6, 7, 8, 9, 10, 11, 12, 13, 14] r5)
def r3 : BA.St := (sSeqF l3 [2, 3, 4, 5, 6, 7, 8, 9, 10, 11, 12, 13, 14] r4)
def r2 : BA.St := (sSeqF l2 [4, 5, 6, 7, 8, 9, 10, 11, 12, 13, 14] r3)
def r1 : BA.St := (sSeqF l1 [4, 5, 6, 7, 8, 9, 10, 11, 12, 13, 14] r2)
def r0 : BA.St := (sSeqF l0 [3, 4, 5, 6, 7, 8, 9, 10, 11, 12, 13, 14] r1)
abbrev mlaw : BA.St := r0
theorem dlaw {n : Nat} (t : Tx K mg) (tb : TBs t base) (plain : ∀ s, Fresh s → Post (mlaw (CC (n + 1)) (lawRho 15 1)) (fun f _ => f = .ret (.bool true)) s) : FnG prog w K mg base CX0 (n + 2) t.f13 t.fd13 (["script"] : List Str) (spLaw K (TTt t)) := by
  refine fn_law (T := tab) (sp := nosp) (fa := faOf t) (TT := TTt t) (i := 1) (W := W13) t.F13 sc13 (d11 t) t.g11 t.F11.kp t.b11 rfl rfl rfl (by decide) (by decide) rfl (by decide) (by decide) rfl rfl rfl rfl (fun s fr => (plain s fr).h) fun cdv A outer s H E hr => ?_
  have hu := hu65 hr
  have hu1 := hu1 hr
  have hN := sc13.nd
  have h : Al t w base (n + 1) := al t tb (n + 1)
  exact (ss_consF (set_ 2 hN (op_ (sb_of se_int) (sb_of (call_ h.c12 hr t.g12 t.F12.kp t.b12 (cps_ 1 (cp_ se_int sp_nil)))))) (ss_consF (set_ 3 hN se_int) (ss_consF (for_ PassesOwn.never (ir_ (st := true) t.z_range (sb_of (op_ (sb_of se_int) (sb_of (op_ (sb_of se_int) (sb_of (v_ 2))))))) (g_ 4 hN) (ss_cons (set_ 5 hN (pt_ pr_tuple t.z_tuple (cb_ (sb_of (se_fresh (lc_ [("x", 7)] hN (ir_ (st := false) t.z_range (sb_of (op_ (sb_of se_int) (sb_of (v_ 2))))) (fun _ _ _ _ _ => (g_ 7 hN)) (fun _ _ _ _ _ => sc_yes) (fun _ _ _ _ _ => (op_ (sb_of (pt_ pr_int t.z_int (cb_ (sb_of (op_ (sb_of (v_ 4)) (sb_of (op_ (sb_of se_int) (sb_of (v_ 7)))))) sc_nil))) (sb_of se_int)))))) sc_nil))) (ss_cons (set_ 6 hN se_int) (ss_cons (for_ PassesOwn.never (ir_ (st := true) t.z_range (sb_of (op_ (sb_of se_int) (sb_of (v_ 2))))) (g_ 7 hN) (ss_cons (set_ 8 hN (pb_ (pr_sum rfl) t.z_sum (cb_ (sb_of (se_fresh (lc_ [("i", 14)] hN (ir_ (st := false) t.z_range (sb_of (v_ 2))) (fun _ _ _ _ _ => (g_ 14 hN)) (fun _ _ _ _ _ => sc_yes) (fun _ _ _ _ _ => (op_ (sb_of (pt_ pr_int t.z_int (cb_ (sb_of (op_ (sb_of (v_ 7)) (sb_of (op_ (sb_of se_int) (sb_of (v_ 14)))))) sc_nil))) (sb_of se_int)))))) sc_nil))) (ss_one (set_ 6 hN (op_ (sb_of (v_ 6)) (sb_of (op_ (sb_of (subY_ hu (sb_of (v_ 5)) (sb_of (v_ 7)))) (sb_of (op_ (sb_of se_int) (sb_of (op_ (sb_of se_int) (sb_of (op_ (sb_of (pt_ pr_int t.z_int (cb_ (sb_of (v_ 8)) sc_nil))) (sb_of se_int)))))))))))))) (ss_cons (ss_if (tcmp_ hu (sb_of (call_ h.c5 hr t.g5 t.F5.kp t.b5 (cp_ (se_tup (ca_ (v_ 2) (ca_ (v_ 5) sa_nil))) sp_nil))) (sb_of (v_ 6))) (ss_one (ss_ret se_bl)) ss_nil) (ss_cons (set_ 3 hN (op_ (sb_of (v_ 3)) (sb_of (pt_ pr_int t.z_int (cb_ (sb_of (cmp_ hu (sb_of (v_ 6)) (sb_of se_int))) sc_nil))))) (ss_one (ss_if (PW.pt (sw_and (tcmp_ hu (sb_of (v_ 6)) (sb_of se_int)) (sw_and (tcmp_ hu (sb_of (op_ (sb_of (pt_ pr_int t.z_int (cb_ (sb_of (v_ 4)) sc_nil))) (sb_of se_int))) (sb_of se_int)) (pw_and1 (tcmp_ hu (sb_of (call_ h.c10 hr t.g10 t.F10.kp t.b10 (cp_ (se_tup (ca_ (v_ 2) (ca_ (v_ 5) sa_nil))) sp_nil))) (sb_of (v_ 2))))))) (ss_one (ss_ret se_bl)) ss_nil)))))))) (ss_consF (ss_if (st_reprNe (rp_ hu hr.gs t.z_repr (sb_of (call_ h.c6 hr t.g6 t.F6.kp t.b6 (cp_ (v_ 2) sp_nil)))) (rp_ hu hr.gs t.z_repr (sb_of (v_ 3))) rfl) (ss_one (ss_ret se_bl)) ss_nil) (ss_consF (set_ 2 hN (op_ (sb_of se_int) (sb_of (call_ h.c12 hr t.g12 t.F12.kp t.b12 (cps_ 1 (cp_ se_int sp_nil)))))) (ss_consF (par_ 9 10 hN (ck_ (op_ (sb_of se_int) (sb_of (op_ (sb_of (v_ 2)) (sb_of se_int)))) (ck_ (se_fresh (sf_lst (ca_ se_int sa_nil))) sk_nil))) (ss_consF (for_ PassesOwn.never (ir_ (st := true) t.z_range (sb_of (op_ (sb_of se_int) (sb_of (v_ 9))))) (g_ 11 hN) (ss_one (set_ 10 hN (se_slice (sb_of (se_fresh (lc_ [("a", 12), ("b", 13)] hN (iz_ (st := false) t.z_zip (bxF (sb_of (op_ (sb_of (v_ 10)) (sb_of (se_fresh (sf_lst (ca_ se_int sa_nil))))))) (bxF (sb_of (op_ (sb_of (se_fresh (sf_lst (ca_ se_int sa_nil)))) (sb_of (v_ 10)))))) (fun _ _ _ _ _ => (gt_ 2 (gc_ (sg_mono (g_ 12 hN) (by decide)) (gc_ (sg_mono (g_ 13 hN) (by decide)) (sg_nil (vs := [12, 13])))) (lenG_cons (lenG_cons lenG_nil)))) (fun _ _ _ _ _ => sc_yes) (fun _ _ _ _ _ => (op_ (sb_of (v_ 12)) (sb_of (v_ 13))))))) so_none (so_some (sb_of (op_ (sb_of (v_ 9)) (sb_of se_int)))))))) (ss_one (ss_ret (se_and (cmp_ hu (sb_of (call_ h.c6 hr t.g6 t.F6.kp t.b6 (cp_ (v_ 2) sp_nil))) (sb_of (subY_ hu (sb_of (v_ 10)) (sb_of (v_ 9))))) (pe_one (cmp_ hu (sb_of (call_ h.c6 hr t.g6 t.F6.kp t.b6 (cp_ se_int sp_nil))) (sb_of se_int)))))))))))))
end
end Z54

/-! sums over words, by the pairs of one bit -/
namespace Z46
def sumTo (n : Nat) (f : Nat → Nat) : Nat := ((List.range n).map f).sum
theorem sumTo_succ (n : Nat) (f : Nat → Nat) : sumTo (n + 1) f = sumTo n f + f n := by
  unfold sumTo
  rw [List.range_succ, List.map_append, List.sum_append]
  simp
theorem sumTo_add (m k : Nat) (f : Nat → Nat) : sumTo (m + k) f = sumTo m f + sumTo k fun x => f (m + x) := by
  induction k with
  | zero => simp [sumTo]
  | succ k ih => rw [← Nat.add_assoc, sumTo_succ, ih, sumTo_succ]; omega
theorem sumTo_congr {n : Nat} {f g : Nat → Nat} (h : ∀ x, x < n → f x = g x) : sumTo n f = sumTo n g := by
  induction n with
  | zero => rfl
  | succ n ih => rw [sumTo_succ, sumTo_succ, ih fun x hx => h x (by omega), h n (by omega)]
theorem sumTo_plus (n : Nat) (f g : Nat → Nat) : sumTo n (fun x => f x + g x) = sumTo n f + sumTo n g := by
  induction n with
  | zero => rfl
  | succ n ih => rw [sumTo_succ, sumTo_succ, sumTo_succ, ih]; omega
theorem sum_pairs : ∀ (n i : Nat) (f : Nat → Nat), i < n → sumTo (2 ^ n) f = sumTo (2 ^ n) fun x => if x / 2 ^ i % 2 = 0 then f x + f (x + 2 ^ i) else 0
  | 0, i, f, h => absurd h (Nat.not_lt_zero _)
  | n + 1, i, f, h => by
    have e : 2 ^ (n + 1) = 2 ^ n + 2 ^ n := by rw [Nat.pow_succ]; omega
    rw [e, sumTo_add, sumTo_add]
    by_cases hi : i = n
    · subst hi
      have a : (sumTo (2 ^ i) fun x => if x / 2 ^ i % 2 = 0 then f x + f (x + 2 ^ i) else 0) = sumTo (2 ^ i) fun x => f x + f (2 ^ i + x) := sumTo_congr fun x hx => by
        rw [Nat.div_eq_of_lt hx, if_pos rfl, Nat.add_comm x]
      have b : (sumTo (2 ^ i) fun x => if (2 ^ i + x) / 2 ^ i % 2 = 0 then f (2 ^ i + x) + f (2 ^ i + x + 2 ^ i) else 0) = sumTo (2 ^ i) fun _ => 0 := sumTo_congr fun x hx => by
        rw [Nat.add_div_left _ (Nat.two_pow_pos i), Nat.div_eq_of_lt hx, if_neg (by decide)]
      rw [a, b, sumTo_plus]
      have z : ∀ m, sumTo m (fun _ => 0) = 0 := fun m => by
        induction m with
        | zero => rfl
        | succ m ih => rw [sumTo_succ, ih]
      rw [z]
      rfl
    · have hin : i < n := by omega
      have ih1 := sum_pairs n i f hin
      have ih2 := sum_pairs n i (fun x => f (2 ^ n + x)) hin
      rw [ih1, ih2]
      congr 1
      refine sumTo_congr fun x hx => ?_
      have ed : 2 ^ n = 2 ^ i * (2 * 2 ^ (n - i - 1)) := by
        rw [← Nat.pow_succ', ← Nat.pow_add]
        congr 1
        omega
      have e2 : (2 ^ n + x) / 2 ^ i % 2 = x / 2 ^ i % 2 := by
        rw [ed, Nat.mul_add_div (Nat.two_pow_pos i)]
        omega
      rw [e2]
      by_cases hb : x / 2 ^ i % 2 = 0
      · rw [if_pos hb, if_pos hb, Nat.add_assoc]
      · rw [if_neg hb, if_neg hb]
end Z46

/-! BB1: common defs of laws over drawn functions, by their texts -/
namespace BB
open PySem BA
open Z46 (sumTo sumTo_succ sumTo_add sumTo_congr sumTo_plus sum_pairs)
def bitB : BA.St := (sRet (xOp .Mod (xOp .FloorDiv (xVar 0) (xOp .LShift (xCon (.int 1)) (xVar 1))) (xCon (.int 2))))
def partB : BA.St := (sSeq (sWhile (xCmp .NotEq (xVar 1) (xCon (.int 0))) (sPar (gIs [0, 1]) (xCons (xVar 1) (xCons (xOp .Mod (xVar 0) (xVar 1)) xNil)))) (sRet (xPrim .max (xCons (xCon (.int 1)) (xCons (xVar 0) xNil)))))
def pairB (p : Nat) : BA.St := (sSeq (sSet 2 (xCall p (xCons (xVar 0) (xCons (xVar 1) xNil)))) (sRet (xTup (xCons (xOp .FloorDiv (xVar 0) (xVar 2)) (xCons (xOp .FloorDiv (xVar 1) (xVar 2)) xNil)))))
def matterB : BA.St := (sSeq (sAsg (gTup (gCons (gVar 2) (gCons (gVar 3) gNil))) (xVar 0)) (sSeq (sSet 4 (xComp [5] (iRange (xOp .LShift (xCon (.int 1)) (xVar 2))) (gVar 5) (tIf (xCmp .Eq (xOp .Mod (xOp .FloorDiv (xVar 5) (xOp .LShift (xCon (.int 1)) (xVar 1))) (xCon (.int 2))) (xCon (.int 0)))) (xTup (xCons (xVar 5) (xCons (xOp .Add (xVar 5) (xOp .LShift (xCon (.int 1)) (xVar 1))) xNil))))) (sRet (xPrim .tuple (xCons (xComp [5, 6] (iVal (xVar 4)) (gTup (gCons (gVar 5) (gCons (gVar 6) gNil))) (tIf (xCmp .NotEq (xSub (xVar 3) (xVar 5)) (xSub (xVar 3) (xVar 6)))) (xTup (xCons (xVar 5) (xCons (xVar 6) xNil)))) xNil)))))
def bshareB (q p : Nat) : BA.St := (sRet (xCall p (xCons (xPrim .len (xCons (xCall q (xCons (xVar 0) (xCons (xVar 1) xNil))) xNil)) (xCons (xOp .LShift (xCon (.int 1)) (xOp .Sub (xSub (xVar 0) (xCon (.int 0))) (xCon (.int 1)))) xNil))))
def wshareB (q p : Nat) : BA.St := (sSeq (sSet 1 (xPrim .sum (xCons (xComp [2] (iRange (xSub (xVar 0) (xCon (.int 0)))) (gVar 2) tYes (xPrim .len (xCons (xCall q (xCons (xVar 0) (xCons (xVar 2) xNil))) xNil))) xNil))) (sRet (xCall p (xCons (xOp .Mult (xCon (.int 2)) (xVar 1)) (xCons (xOp .LShift (xCon (.int 1)) (xSub (xVar 0) (xCon (.int 0)))) xNil)))))
def cutB : BA.St := (sSeq (sPar (gIs [2, 3]) (xCons (xVar 0) (xCons (xVar 1) xNil))) (sSeq (sWhile (xCmp .NotEq (xVar 3) (xCon (.int 0))) (sPar (gIs [2, 3]) (xCons (xVar 3) (xCons (xOp .Mod (xVar 2) (xVar 3)) xNil)))) (sSeq (sSet 2 (xPrim .max (xCons (xCon (.int 1)) (xCons (xVar 2) xNil)))) (sRet (xTup (xCons (xOp .FloorDiv (xVar 0) (xVar 2)) (xCons (xOp .FloorDiv (xVar 1) (xVar 2)) xNil)))))))
def pairsB (b : Nat) : BA.St := (sSeq (sAsg (gTup (gCons (gVar 2) (gCons (gVar 3) gNil))) (xVar 0)) (sRet (xComp [4] (iRange (xOp .LShift (xCon (.int 1)) (xVar 2))) (gVar 4) (tIf (xAnd (xCmp .Eq (xCall b (xCons (xVar 4) (xCons (xVar 1) xNil))) (xCon (.int 0))) (xCmp .NotEq (xSub (xVar 3) (xVar 4)) (xSub (xVar 3) (xOp .Add (xVar 4) (xOp .LShift (xCon (.int 1)) (xVar 1))))))) (xTup (xCons (xVar 4) (xCons (xOp .Add (xVar 4) (xOp .LShift (xCon (.int 1)) (xVar 1))) xNil))))))
def wholeB (q : Nat) : BA.St := (sRet (xPrim .sum (xCons (xComp [1] (iRange (xSub (xVar 0) (xCon (.int 0)))) (gVar 1) tYes (xPrim .len (xCons (xCall q (xCons (xVar 0) (xCons (xVar 1) xNil))) xNil))) xNil)))
def drawB (p b : Nat) : BA.St := (sSeq (sAsg (gTup (gCons (gVar 2) (gCons (gVar 3) gNil))) (xTup (xCons (xOp .Add (xCon (.int 1)) (xCall p (xCons (xVar 0) (xCons (xVar 1) xNil)))) (xCons (xCall p (xCons (xVar 0) (xCons (xCon (.int 4)) xNil))) xNil)))) (sSeq (sSet 4 (xComp [7] (iRange (xOp .LShift (xCon (.int 1)) (xVar 2))) (gVar 7) tYes (xCall p (xCons (xVar 0) (xCons (xCon (.int 2)) xNil))))) (sSeq (sIf (xCmp .Eq (xVar 3) (xCon (.int 1))) (sSet 4 (xComp [7] (iRange (xOp .LShift (xCon (.int 1)) (xVar 2))) (gVar 7) tYes (xPrim .int (xCons (xCmp .Eq (xCall p (xCons (xVar 0) (xCons (xCon (.int 5)) xNil))) (xCon (.int 0))) xNil)))) sNil) (sSeq (sIf (xCmp .Eq (xVar 3) (xCon (.int 2))) (sSeq (sSet 5 (xComp [8] (iRange (xOp .Add (xCon (.int 1)) (xCall p (xCons (xVar 0) (xCons (xCon (.int 3)) xNil))))) (gVar 8) tYes (xCall p (xCons (xVar 0) (xCons (xOp .LShift (xCon (.int 1)) (xVar 2)) xNil))))) (sSet 4 (xComp [7] (iRange (xOp .LShift (xCon (.int 1)) (xVar 2))) (gVar 7) tYes (xPrim .int (xCons (xPrim .any (xCons (xComp [10] (iVal (xVar 5)) (gVar 10) tYes (xPrim .all (xCons (xComp [9] (iRange (xVar 2)) (gVar 9) tYes (xCmp .GtE (xCall b (xCons (xVar 7) (xCons (xVar 9) xNil))) (xCall b (xCons (xVar 10) (xCons (xVar 9) xNil))))) xNil))) xNil)) xNil))))) sNil) (sSeq (sIf (xCmp .Eq (xVar 3) (xCon (.int 3))) (sSeq (sSet 6 (xComp [9] (iRange (xVar 2)) (gVar 9) (tIf (xCmp .Eq (xCall p (xCons (xVar 0) (xCons (xCon (.int 2)) xNil))) (xCon (.int 1)))) (xVar 9))) (sSet 4 (xComp [7] (iRange (xOp .LShift (xCon (.int 1)) (xVar 2))) (gVar 7) tYes (xOp .Mod (xPrim .sum (xCons (xComp [9] (iVal (xVar 6)) (gVar 9) tYes (xCall b (xCons (xVar 7) (xCons (xVar 9) xNil)))) xNil)) (xCon (.int 2)))))) sNil) (sRet (xTup (xCons (xVar 2) (xCons (xPrim .tuple (xCons (xVar 4) xNil)) xNil)))))))))
def HBit (C : Calls) (b : Nat) : Prop := ∀ (x : Int) (i : Nat), i ≤ 20 → C b [.int x, .int (i : Int)] = pur (.int (x / 2 ^ i % 2))
theorem pow_pos' (i : Nat) : (0 : Int) < 2 ^ i := Int.pow_pos (by decide)
theorem pow_lt' {i : Nat} (h : i ≤ 20) : (2 : Int) ^ i < 1073741824 := by
  have : (2 : Nat) ^ i ≤ 2 ^ 20 := Nat.pow_le_pow_right (by decide) h
  have e : ((2 ^ i : Nat) : Int) = 2 ^ i := by simp
  rw [← e]
  have : ((2 ^ i : Nat) : Int) ≤ ((2 ^ 20 : Nat) : Int) := by exact_mod_cast this
  omega
theorem s1 : small64 1 = true := by decide
theorem shl1 (i : Nat) (h : i ≤ 20) : op2 .LShift (.int 1) (.int (i : Int)) = some (.int (2 ^ i)) := by
  rw [op_shli 1 i (by omega) (by omega) s1]
  simp
/-- _law_bit -/
def bitI (x : Int) (i : Nat) : Int := x / 2 ^ i % 2
theorem e7 (C : Calls) (x : Int) (i : Nat) (h : i ≤ 20) : runDef ⟨2, 2, bitB⟩ C [.int x, .int (i : Int)] = pur (.int (bitI x i)) := by
  unfold runDef
  rw [if_pos (show ([PyData.int x, PyData.int (i : Int)] : List BA.D).length = 2 from rfl)]
  show bnd (bitB C [some (.int x), some (.int (i : Int))]) retD = _
  unfold bitB sRet xOp xVar xCon
  simp only [getV_zero, getV_succ, opt_some, bnd_pur, bnd_assoc, shl1 i h, op_divi _ _ (pow_pos' i) (pow_lt' h), op_modi _ _ (show (0 : Int) < 2 by decide), retD]
  rfl
def FD (n : Nat) (t : List Int) : BA.D := .tuple [.int (n : Int), .tuple (t.map PyData.int)]
/-- the pairs of neighbours by bit i whose answers are unlike -/
def pr (x i : Nat) : BA.D := .tuple [.int (x : Int), .int ((x : Int) + 2 ^ i)]
def unlike (t : List Int) (i x : Nat) : Bool := x / 2 ^ i % 2 == 0 && t.getD x 0 != t.getD (x + 2 ^ i) 0
def pairsL (n : Nat) (t : List Int) (i : Nat) : List BA.D := (List.range (2 ^ n)).filterMap fun x => if unlike t i x = true then some (pr x i) else none
theorem rg_pow {n : Nat} (h : n ≤ 20) : rg1 (2 ^ n) = true := by
  have a := pow_pos' n
  have b : (2 : Nat) ^ n ≤ 2 ^ 20 := Nat.pow_le_pow_right (by decide) h
  have e : ((2 ^ n : Nat) : Int) = 2 ^ n := by simp
  rw [← e]
  exact rg1_iff.mpr (by omega)
theorem range_pow (n : Nat) : rangeL 0 (2 ^ n) = (List.range (2 ^ n)).map fun (i : Nat) => PyData.int i := by
  have e : ((2 ^ n : Nat) : Int) = 2 ^ n := by simp
  rw [← e, rangeL_map]
theorem at_tab {t : List Int} {x : Nat} (h : x < t.length) : ixD (.tuple (t.map PyData.int)) (.int (x : Int)) = some (.int (t.getD x 0)) := by
  show L2.atI (t.map PyData.int) (x : Int) = _
  refine L2.atI_nat ?_
  rw [List.getElem?_map, List.getElem?_eq_getElem h]
  simp [List.getD, List.getElem?_eq_getElem h]
theorem up_lt {n i x : Nat} (hx : x < 2 ^ n) (hi : i < n) (hb : x / 2 ^ i % 2 = 0) : x + 2 ^ i < 2 ^ n := by
  have e : 2 ^ n = 2 ^ i * (2 * 2 ^ (n - i - 1)) := by
    rw [← Nat.pow_succ', ← Nat.pow_add]
    congr 1
    omega
  have hq : x / 2 ^ i < 2 * 2 ^ (n - i - 1) := Nat.div_lt_of_lt_mul (by rw [← e]; exact hx)
  have hq2 : x / 2 ^ i + 1 < 2 * 2 ^ (n - i - 1) := by omega
  have hm := Nat.mod_lt x (Nat.two_pow_pos i)
  have hd := Nat.div_add_mod x (2 ^ i)
  have : 2 ^ i * (x / 2 ^ i + 1 + 1) ≤ 2 ^ i * (2 * 2 ^ (n - i - 1)) := Nat.mul_le_mul_left _ hq2
  rw [← e, Nat.mul_add, Nat.mul_add] at this
  omega
theorem bit_nat (x i : Nat) : bitI (x : Int) i = ((x / 2 ^ i % 2 : Nat) : Int) := by
  unfold bitI
  simp
theorem add_pow (x i : Nat) : (x : Int) + 2 ^ i = ((x + 2 ^ i : Nat) : Int) := by simp
theorem e10 {C : Calls} {b : Nat} (hb : HBit C b) (n i : Nat) (t : List Int) (hn : n ≤ 20) (ht : t.length = 2 ^ n) (hi : i < n) : runDef ⟨2, 5, pairsB b⟩ C [FD n t, .int (i : Int)] = pur (.list (pairsL n t i)) := by
  unfold runDef
  rw [if_pos (show ([FD n t, PyData.int (i : Int)] : List BA.D).length = 2 from rfl)]
  show bnd (pairsB b C [some (FD n t), some (.int (i : Int)), none, none, none]) retD = _
  unfold pairsB FD
  rw [r_seq (ρ' := [some (.tuple [.int (n : Int), .tuple (t.map PyData.int)]), some (.int (i : Int)), some (.int (n : Int)), some (.tuple (t.map PyData.int)), none]) (h := rfl)]
  simp only [r_ret, r_comp, r_range, r_op, r_con, r_var, getV_zero, getV_succ, opt_some, bnd_pur, bnd_assoc, shl1 n hn, asI, rg_pow hn, if_tt, if_true, BA.blank, wipeV_succ, wipeV_zero, range_pow]
  rw [compM_pur fun d => match d with | .int x => if unlike t i x.toNat = true then some (pr x.toNat i) else none | _ => none]
  · simp only [bnd_pur, retD, List.filterMap_map]
    rfl
  · intro d hd
    obtain ⟨x, hx, rfl⟩ := List.mem_map.mp hd
    have hx := List.mem_range.mp hx
    refine ⟨_, rfl, ?_⟩
    simp only [r_tif, r_and, r_cmp, r_call, r_cons, r_nil, r_sub, r_var, r_con, r_op, r_tup, getV_zero, getV_succ, setV_succ, setV_zero, opt_some, bnd_pur, bnd_assoc, shl1 i (by omega), op_addi]
    rw [hb x i (show i ≤ 20 by omega), show (x : Int) / 2 ^ i % 2 = ((x / 2 ^ i % 2 : Nat) : Int) from bit_nat x i]
    simp only [bnd_pur, cmp_eqi, opt_some, asB, Int.toNat_natCast]
    unfold unlike
    by_cases hx2 : x / 2 ^ i % 2 = 0
    · rw [hx2]
      have d0 : decide (((0 : Nat) : Int) = 0) = true := rfl
      rw [d0]
      simp only [if_tt, if_true, bnd_pur, at_tab (show x < t.length by rw [ht]; exact hx), opt_some, add_pow, at_tab (show x + 2 ^ i < t.length by rw [ht]; exact up_lt hx hi (by assumption)), cmp_nei, asB]
      by_cases hu : t.getD x 0 = t.getD (x + 2 ^ i) 0
      · refine .inl ⟨?_, ?_⟩
        · have h2 : (t.getD x 0 != t.getD (x + 2 ^ i) 0) = false := by rw [hu]; exact bne_self_eq_false _
          show (if (((0 : Nat) == 0) && (t.getD x 0 != t.getD (x + 2 ^ i) 0)) = true then some (pr x i) else none) = none
          rw [h2, Bool.and_false]
          rfl
        · rw [decide_eq_true hu]
          rfl
      · refine .inr ⟨pr x i, ?_, ?_, ?_⟩
        · have h2 : (t.getD x 0 != t.getD (x + 2 ^ i) 0) = true := bne_iff_ne.mpr hu
          show (if (((0 : Nat) == 0) && (t.getD x 0 != t.getD (x + 2 ^ i) 0)) = true then some (pr x i) else none) = some (pr x i)
          rw [h2]
          rfl
        · rw [decide_eq_false hu]
          rfl
        · rfl
    · have d0 : decide (((x / 2 ^ i % 2 : Nat) : Int) = 0) = false := decide_eq_false (by omega)
      rw [d0]
      refine .inl ⟨?_, rfl⟩
      simp [hx2]
theorem fm_congr {α β : Type} {f g : α → Option β} : ∀ xs : List α, (∀ x ∈ xs, f x = g x) → xs.filterMap f = xs.filterMap g
  | [], _ => rfl
  | x :: r, h => by rw [List.filterMap_cons, List.filterMap_cons, h x List.mem_cons_self, fm_congr r fun y hy => h y (List.mem_cons_of_mem _ hy)]
def halfL (n i : Nat) : List BA.D := (List.range (2 ^ n)).filterMap fun x => if (x / 2 ^ i % 2 == 0) = true then some (pr x i) else none
theorem mem_half {n i : Nat} {d : BA.D} (h : d ∈ halfL n i) : ∃ x, x < 2 ^ n ∧ x / 2 ^ i % 2 = 0 ∧ d = pr x i := by
  unfold halfL at h
  obtain ⟨x, hx, e⟩ := List.mem_filterMap.mp h
  have hx := List.mem_range.mp hx
  by_cases hb : x / 2 ^ i % 2 = 0
  · rw [hb] at e
    cases e
    exact ⟨x, hx, hb, rfl⟩
  · rw [if_neg (by simpa using hb)] at e
    cases e
theorem e2 (C : Calls) (n i : Nat) (t : List Int) (hn : n ≤ 20) (ht : t.length = 2 ^ n) (hi : i < n) : runDef ⟨2, 7, matterB⟩ C [FD n t, .int (i : Int)] = pur (.tuple (pairsL n t i)) := by
  unfold runDef
  rw [if_pos (show ([FD n t, PyData.int (i : Int)] : List BA.D).length = 2 from rfl)]
  show bnd (matterB C [some (FD n t), some (.int (i : Int)), none, none, none, none, none]) retD = _
  unfold matterB FD
  rw [r_seq (ρ' := [some (.tuple [.int (n : Int), .tuple (t.map PyData.int)]), some (.int (i : Int)), some (.int (n : Int)), some (.tuple (t.map PyData.int)), none, none, none]) (h := rfl)]
  rw [r_seq (ρ' := [some (.tuple [.int (n : Int), .tuple (t.map PyData.int)]), some (.int (i : Int)), some (.int (n : Int)), some (.tuple (t.map PyData.int)), some (.list (halfL n i)), none, none])]
  · simp only [r_ret, r_prim, r_cons, r_nil, r_comp, r_val, r_var, getV_zero, getV_succ, opt_some, bnd_pur, bnd_assoc, seqD, BA.blank, wipeV_succ, wipeV_zero]
    rw [compM_pur fun d => match d with | .tuple [.int x, _] => if unlike t i x.toNat = true then some (pr x.toNat i) else none | _ => none]
    · simp only [bnd_pur, retD, prim, seqD, Option.map_some, opt_some]
      congr 2
      unfold halfL pairsL
      rw [List.filterMap_filterMap]
      refine fm_congr _ fun x _ => ?_
      by_cases hb : x / 2 ^ i % 2 = 0
      · rw [hb]
        rfl
      · rw [if_neg (by simpa using hb)]
        unfold unlike
        rw [show (x / 2 ^ i % 2 == 0) = false by simpa using hb]
        rfl
    · intro d hd
      obtain ⟨x, hx, hb, rfl⟩ := mem_half hd
      refine ⟨_, rfl, ?_⟩
      simp only [r_tif, r_cmp, r_cons, r_nil, r_sub, r_var, r_tup, getV_zero, getV_succ, setV_succ, setV_zero, opt_some, bnd_pur, bnd_assoc]
      simp only [at_tab (show x < t.length by rw [ht]; exact hx), opt_some, bnd_pur, add_pow, at_tab (show x + 2 ^ i < t.length by rw [ht]; exact up_lt hx hi (by assumption)), cmp_nei, asB]
      by_cases hu : t.getD x 0 = t.getD (x + 2 ^ i) 0
      · refine .inl ⟨?_, ?_⟩
        · have h2 : (t.getD x 0 != t.getD (x + 2 ^ i) 0) = false := by rw [hu]; exact bne_self_eq_false _
          show (if ((x / 2 ^ i % 2 == 0) && (t.getD x 0 != t.getD (x + 2 ^ i) 0)) = true then some (pr x i) else none) = none
          rw [h2, Bool.and_false]
          rfl
        · rw [decide_eq_true hu]
          rfl
      · refine .inr ⟨pr x i, ?_, ?_, ?_⟩
        · have h2 : (t.getD x 0 != t.getD (x + 2 ^ i) 0) = true := bne_iff_ne.mpr hu
          show (if ((x / 2 ^ i % 2 == 0) && (t.getD x 0 != t.getD (x + 2 ^ i) 0)) = true then some (pr x i) else none) = some (pr x i)
          rw [h2, hb]
          rfl
        · rw [decide_eq_false hu]
          rfl
        · rfl
  · simp only [r_set, r_comp, r_range, r_op, r_con, r_var, getV_zero, getV_succ, opt_some, bnd_pur, bnd_assoc, shl1 n hn, asI, rg_pow hn, if_tt, if_true, BA.blank, wipeV_succ, wipeV_zero, range_pow]
    rw [compM_pur fun d => match d with | .int x => if (x.toNat / 2 ^ i % 2 == 0) = true then some (pr x.toNat i) else none | _ => none]
    · simp only [bnd_pur, List.filterMap_map]
      rfl
    · intro d hd
      obtain ⟨x, hx, rfl⟩ := List.mem_map.mp hd
      refine ⟨_, rfl, ?_⟩
      simp only [r_tif, r_cmp, r_cons, r_nil, r_var, r_con, r_op, r_tup, getV_zero, getV_succ, setV_succ, setV_zero, opt_some, bnd_pur, bnd_assoc, shl1 i (by omega), op_addi, op_divi _ _ (pow_pos' i) (pow_lt' (show i ≤ 20 by omega)), op_modi _ _ (show (0 : Int) < 2 by decide), cmp_eqi, asB]
      rw [show (x : Int) / 2 ^ i % 2 = ((x / 2 ^ i % 2 : Nat) : Int) from bit_nat x i]
      by_cases hb : x / 2 ^ i % 2 = 0
      · refine .inr ⟨pr x i, ?_, ?_, ?_⟩
        · show (if ((x / 2 ^ i % 2 == 0)) = true then some (pr x i) else none) = some (pr x i)
          rw [hb]
          rfl
        · rw [hb]
          rfl
        · rfl
      · refine .inl ⟨?_, ?_⟩
        · show (if ((x / 2 ^ i % 2 == 0)) = true then some (pr x i) else none) = none
          rw [if_neg (by simpa using hb)]
        · rw [decide_eq_false (by omega)]
theorem gcd_step (a b : Nat) : Nat.gcd b (a % b) = Nat.gcd a b := by rw [Nat.gcd_comm b (a % b), ← Nat.gcd_rec b a, Nat.gcd_comm b a]
theorem eu0 (C : Calls) : ∀ (n b a : Nat), b < n → whileM ((xCmp .NotEq (xVar 1) (xCon (.int 0))) C) ((sPar (gIs [0, 1]) (xCons (xVar 1) (xCons (xOp .Mod (xVar 0) (xVar 1)) xNil))) C) n [some (.int (a : Int)), some (.int (b : Int))] = pur (.next [some (.int (Nat.gcd a b : Int)), some (.int 0)])
  | 0, b, a, h => absurd h (Nat.not_lt_zero _)
  | n + 1, b, a, h => by
    unfold whileM
    simp only [r_cmp, r_var, r_con, getV_zero, getV_succ, opt_some, bnd_pur, cmp_nei, asB]
    by_cases hb : b = 0
    · subst hb
      rw [decide_eq_true (show ((0 : Nat) : Int) = 0 from rfl)]
      simp only [Bool.not_true]
      rw [if_neg Bool.false_ne_true, Nat.gcd_zero_right]
      rfl
    · rw [decide_eq_false (by omega)]
      simp only [Bool.not_false, if_true]
      have ih := eu0 C n (a % b) b (by have := Nat.mod_lt a (show b > 0 by omega); omega)
      rw [gcd_step] at ih
      have eb : sPar (gIs [0, 1]) (xCons (xVar 1) (xCons (xOp .Mod (xVar 0) (xVar 1)) xNil)) C [some (.int (a : Int)), some (.int (b : Int))] = pur (.next [some (.int (b : Int)), some (.int ((a % b : Nat) : Int))]) := by
        unfold sPar
        simp only [r_cons, r_nil, r_op, r_var, getV_zero, getV_succ, opt_some, bnd_pur, bnd_assoc, op_modi _ _ (show (0 : Int) < (b : Int) by omega)]
        rw [show (a : Int) % (b : Int) = ((a % b : Nat) : Int) by simp]
        rfl
      rw [eb, bnd_pur]
      exact ih
theorem e0 (C : Calls) (a b : Nat) (h : b < 100000000) : runDef ⟨2, 2, partB⟩ C [.int (a : Int), .int (b : Int)] = pur (.int ((max 1 (Nat.gcd a b) : Nat) : Int)) := by
  unfold runDef
  rw [if_pos (show ([PyData.int (a : Int), PyData.int (b : Int)] : List BA.D).length = 2 from rfl)]
  show bnd (partB C [some (.int (a : Int)), some (.int (b : Int))]) retD = _
  unfold partB
  rw [r_seq (ρ' := [some (.int (Nat.gcd a b : Int)), some (.int 0)]) (h := by rw [r_while]; exact eu0 _ _ _ _ h)]
  simp only [r_ret, r_prim, r_cons, r_nil, r_con, r_var, getV_zero, getV_succ, opt_some, bnd_pur, bnd_assoc, prim, asI, retD]
  congr 2
  split <;> omega
def gg1 (a b : Nat) : Nat := max 1 (Nat.gcd a b)
def cutP (a b : Nat) : BA.D := .tuple [.int ((a / gg1 a b : Nat) : Int), .int ((b / gg1 a b : Nat) : Int)]
theorem gg1_pos (a b : Nat) : 0 < gg1 a b := by unfold gg1; omega
theorem gg1_lt {a b : Nat} (hb : 0 < b) (h : b < 1000000000) : gg1 a b < 1073741824 := by
  have := Nat.le_of_dvd hb (Nat.gcd_dvd_right a b)
  unfold gg1
  omega
theorem div_c (a g : Nat) (h : 0 < g) (h2 : g < 1073741824) : op2 .FloorDiv (.int (a : Int)) (.int (g : Int)) = some (.int ((a / g : Nat) : Int)) := by
  rw [op_divi _ _ (by omega) (by omega)]
  simp
theorem e1 {C : Calls} {p : Nat} (hp : ∀ a b : Nat, b < 100000000 → C p [.int (a : Int), .int (b : Int)] = pur (.int ((max 1 (Nat.gcd a b) : Nat) : Int))) (a b : Nat) (hb : 0 < b) (h : b < 100000000) : runDef ⟨2, 3, pairB p⟩ C [.int (a : Int), .int (b : Int)] = pur (cutP a b) := by
  unfold runDef
  rw [if_pos (show ([PyData.int (a : Int), PyData.int (b : Int)] : List BA.D).length = 2 from rfl)]
  show bnd (pairB p C [some (.int (a : Int)), some (.int (b : Int)), none]) retD = _
  unfold pairB
  rw [r_seq (ρ' := [some (.int (a : Int)), some (.int (b : Int)), some (.int ((gg1 a b : Nat) : Int))])]
  · simp only [r_ret, r_tup, r_cons, r_nil, r_op, r_var, getV_zero, getV_succ, opt_some, bnd_pur, bnd_assoc, div_c _ _ (gg1_pos a b) (gg1_lt hb (by omega)), retD]
    rfl
  · simp only [r_set, r_call, r_cons, r_nil, r_var, getV_zero, getV_succ, opt_some, bnd_pur, bnd_assoc]
    rw [hp a b h]
    rfl
theorem eu9 (C : Calls) (x y : Option BA.D) : ∀ (n b a : Nat), b < n → whileM ((xCmp .NotEq (xVar 3) (xCon (.int 0))) C) ((sPar (gIs [2, 3]) (xCons (xVar 3) (xCons (xOp .Mod (xVar 2) (xVar 3)) xNil))) C) n [x, y, some (.int (a : Int)), some (.int (b : Int))] = pur (.next [x, y, some (.int (Nat.gcd a b : Int)), some (.int 0)])
  | 0, b, a, h => absurd h (Nat.not_lt_zero _)
  | n + 1, b, a, h => by
    unfold whileM
    simp only [r_cmp, r_var, r_con, getV_zero, getV_succ, opt_some, bnd_pur, cmp_nei, asB]
    by_cases hb : b = 0
    · subst hb
      rw [decide_eq_true (show ((0 : Nat) : Int) = 0 from rfl)]
      simp only [Bool.not_true]
      rw [if_neg Bool.false_ne_true, Nat.gcd_zero_right]
      rfl
    · rw [decide_eq_false (by omega)]
      simp only [Bool.not_false, if_true]
      have ih := eu9 C x y n (a % b) b (by have := Nat.mod_lt a (show b > 0 by omega); omega)
      rw [gcd_step] at ih
      have eb : sPar (gIs [2, 3]) (xCons (xVar 3) (xCons (xOp .Mod (xVar 2) (xVar 3)) xNil)) C [x, y, some (.int (a : Int)), some (.int (b : Int))] = pur (.next [x, y, some (.int (b : Int)), some (.int ((a % b : Nat) : Int))]) := by
        unfold sPar
        simp only [r_cons, r_nil, r_op, r_var, getV_zero, getV_succ, opt_some, bnd_pur, bnd_assoc, op_modi _ _ (show (0 : Int) < (b : Int) by omega)]
        rw [show (a : Int) % (b : Int) = ((a % b : Nat) : Int) by simp]
        rfl
      rw [eb, bnd_pur]
      exact ih
theorem e9 (C : Calls) (a b : Nat) (hb : 0 < b) (h : b < 100000000) : runDef ⟨2, 4, cutB⟩ C [.int (a : Int), .int (b : Int)] = pur (cutP a b) := by
  unfold runDef
  rw [if_pos (show ([PyData.int (a : Int), PyData.int (b : Int)] : List BA.D).length = 2 from rfl)]
  show bnd (cutB C [some (.int (a : Int)), some (.int (b : Int)), none, none]) retD = _
  unfold cutB
  rw [r_seq (ρ' := [some (.int (a : Int)), some (.int (b : Int)), some (.int (a : Int)), some (.int (b : Int))]) (h := rfl)]
  rw [r_seq (ρ' := [some (.int (a : Int)), some (.int (b : Int)), some (.int (Nat.gcd a b : Int)), some (.int 0)]) (h := by rw [r_while]; exact eu9 _ _ _ _ _ _ h)]
  rw [r_seq (ρ' := [some (.int (a : Int)), some (.int (b : Int)), some (.int ((gg1 a b : Nat) : Int)), some (.int 0)])]
  · simp only [r_ret, r_tup, r_cons, r_nil, r_op, r_var, getV_zero, getV_succ, opt_some, bnd_pur, bnd_assoc, div_c _ _ (gg1_pos a b) (gg1_lt hb (by omega)), retD]
    rfl
  · simp only [r_set, r_prim, r_cons, r_nil, r_con, r_var, getV_zero, getV_succ, opt_some, bnd_pur, bnd_assoc, prim, asI]
    unfold gg1
    simp only [setV_zero, setV_succ]
    congr 7
    split <;> omega
def many (n : Nat) (t : List Int) (i : Nat) : Nat := (pairsL n t i).length
theorem len_t (ds : List BA.D) : prim .len [.tuple ds] = some (.int (ds.length : Int)) := rfl
theorem len_l (ds : List BA.D) : prim .len [.list ds] = some (.int (ds.length : Int)) := rfl
theorem ix0 (n : Nat) (t : List Int) : ixD (FD n t) (.int 0) = some (.int (n : Int)) := rfl
theorem pow_cast (i : Nat) : (2 : Int) ^ i = ((2 ^ i : Nat) : Int) := by simp
theorem e3 {C : Calls} {q p : Nat} (hq : ∀ (n i : Nat) (t : List Int), n ≤ 20 → t.length = 2 ^ n → i < n → C q [FD n t, .int (i : Int)] = pur (.tuple (pairsL n t i))) (hp : ∀ a b : Nat, 0 < b → b < 100000000 → C p [.int (a : Int), .int (b : Int)] = pur (cutP a b)) (n i : Nat) (t : List Int) (hn : n ≤ 20) (ht : t.length = 2 ^ n) (hi : i < n) : runDef ⟨2, 2, bshareB q p⟩ C [FD n t, .int (i : Int)] = pur (cutP (many n t i) (2 ^ (n - 1))) := by
  unfold runDef
  rw [if_pos (show ([FD n t, PyData.int (i : Int)] : List BA.D).length = 2 from rfl)]
  show bnd (bshareB q p C [some (FD n t), some (.int (i : Int))]) retD = _
  unfold bshareB
  simp only [r_ret, r_call, r_prim, r_cons, r_nil, r_op, r_con, r_var, r_sub, getV_zero, getV_succ, opt_some, bnd_pur, bnd_assoc, ix0, op_subi]
  rw [hq n i t hn ht hi]
  simp only [bnd_pur, len_t, opt_some]
  rw [show (n : Int) - 1 = ((n - 1 : Nat) : Int) by omega, shl1 (n - 1) (by omega), opt_some, bnd_pur, pow_cast]
  rw [hp _ _ (Nat.two_pow_pos _) (by
    have : (2 : Nat) ^ (n - 1) ≤ 2 ^ 20 := Nat.pow_le_pow_right (by decide) (by omega)
    omega)]
  rfl
def whole (n : Nat) (t : List Int) : Nat := ((List.range n).map fun i => many n t i).sum
theorem intsD_nat : ∀ ns : List Nat, intsD (ns.map fun (i : Nat) => PyData.int (i : Int)) = some (ns.map fun (i : Nat) => (i : Int))
  | [] => rfl
  | n :: r => by
    simp only [List.map_cons, intsD, asI]
    rw [intsD_nat r]
    rfl
theorem sum_nat (ns : List Nat) : prim .sum [.list (ns.map fun (i : Nat) => PyData.int (i : Int))] = some (.int (ns.sum : Int)) := by
  show ofInts (.list (ns.map fun (i : Nat) => PyData.int (i : Int))) (fun ns => some (.int ns.sum)) = _
  unfold ofInts
  simp only [seqD, intsD_nat]
  congr 2
  induction ns with
  | nil => rfl
  | cons n r ih => simp only [List.map_cons, List.sum_cons, ih]; omega
theorem rg_n {n : Nat} (h : n ≤ 20) : rg1 (n : Int) = true := by
  exact rg1_iff.mpr (by omega)
theorem e11 {C : Calls} {q : Nat} (hq : ∀ (n i : Nat) (t : List Int), n ≤ 20 → t.length = 2 ^ n → i < n → C q [FD n t, .int (i : Int)] = pur (.list (pairsL n t i))) (n : Nat) (t : List Int) (hn : n ≤ 20) (ht : t.length = 2 ^ n) : runDef ⟨1, 2, wholeB q⟩ C [FD n t] = pur (.int (whole n t : Int)) := by
  unfold runDef
  rw [if_pos (show ([FD n t] : List BA.D).length = 1 from rfl)]
  show bnd (wholeB q C [some (FD n t), none]) retD = _
  unfold wholeB
  simp only [r_ret, r_prim, r_cons, r_nil, r_comp, r_range, r_con, r_var, r_sub, getV_zero, getV_succ, opt_some, bnd_pur, bnd_assoc, ix0, asI, rg_n hn, if_true, BA.blank, wipeV_succ, wipeV_zero, rangeL_map]
  rw [compM_map fun d => match d with | .int i => .int (many n t i.toNat : Int) | _ => .none]
  · simp only [bnd_pur, List.map_map]
    rw [show (List.range n).map ((fun d : BA.D => match d with | .int i => (PyData.int (many n t i.toNat : Int)) | _ => PyData.none) ∘ fun (i : Nat) => PyData.int i) = ((List.range n).map fun i => many n t i).map (fun (i : Nat) => PyData.int (i : Int)) by rw [List.map_map]; rfl, sum_nat]
    rfl
  · intro d hd
    obtain ⟨i, hi, rfl⟩ := List.mem_map.mp hd
    have hi := List.mem_range.mp hi
    refine ⟨_, rfl, ?_⟩
    simp only [r_prim, r_call, r_cons, r_nil, r_var, getV_zero, getV_succ, setV_succ, setV_zero, opt_some, bnd_pur, bnd_assoc]
    rw [hq n i t hn ht hi]
    rfl
theorem gg1_pos' {a b : Nat} (hb : 0 < b) : gg1 a b = Nat.gcd a b := by
  have := Nat.gcd_pos_of_pos_right a hb
  unfold gg1
  omega
theorem cut_two (a b : Nat) (hb : 0 < b) : cutP (2 * a) (2 * b) = cutP a b := by
  unfold cutP
  rw [gg1_pos' (show 0 < 2 * b by omega), gg1_pos' hb, Nat.gcd_mul_left, Nat.mul_div_mul_left _ _ (by decide), Nat.mul_div_mul_left _ _ (by decide)]
theorem e4 {C : Calls} {q p : Nat} (hq : ∀ (n i : Nat) (t : List Int), n ≤ 20 → t.length = 2 ^ n → i < n → C q [FD n t, .int (i : Int)] = pur (.tuple (pairsL n t i))) (hp : ∀ a b : Nat, 0 < b → b < 100000000 → C p [.int (a : Int), .int (b : Int)] = pur (cutP a b)) (n : Nat) (t : List Int) (hn : n ≤ 20) (hn1 : 1 ≤ n) (ht : t.length = 2 ^ n) : runDef ⟨1, 3, wshareB q p⟩ C [FD n t] = pur (cutP (whole n t) (2 ^ (n - 1))) := by
  unfold runDef
  rw [if_pos (show ([FD n t] : List BA.D).length = 1 from rfl)]
  show bnd (wshareB q p C [some (FD n t), none, none]) retD = _
  unfold wshareB
  rw [r_seq (ρ' := [some (FD n t), some (.int (whole n t : Int)), none])]
  · simp only [r_ret, r_call, r_cons, r_nil, r_op, r_con, r_var, r_sub, getV_zero, getV_succ, opt_some, bnd_pur, bnd_assoc, ix0, shl1 n hn]
    rw [show op2 .Mult (.int 2) (.int (whole n t : Int)) = some (.int ((2 * whole n t : Nat) : Int)) by
      show intOp .Mult 2 _ = _
      simp [intOp, show small64 2 = true by decide]]
    simp only [opt_some, bnd_pur, pow_cast]
    rw [hp _ _ (Nat.two_pow_pos _) (by
      have : (2 : Nat) ^ n ≤ 2 ^ 20 := Nat.pow_le_pow_right (by decide) hn
      omega)]
    have e : 2 ^ n = 2 * 2 ^ (n - 1) := by
      rw [← Nat.pow_succ']
      congr 1
      omega
    rw [e, cut_two _ _ (Nat.two_pow_pos _)]
    rfl
  · simp only [r_set, r_prim, r_cons, r_nil, r_comp, r_range, r_con, r_var, r_sub, getV_zero, getV_succ, opt_some, bnd_pur, bnd_assoc, ix0, asI, rg_n hn, if_true, BA.blank, wipeV_succ, wipeV_zero, rangeL_map]
    rw [compM_map fun d => match d with | .int i => .int (many n t i.toNat : Int) | _ => .none]
    · simp only [bnd_pur, List.map_map]
      rw [show (List.range n).map ((fun d : BA.D => match d with | .int i => (PyData.int (many n t i.toNat : Int)) | _ => PyData.none) ∘ fun (i : Nat) => PyData.int i) = ((List.range n).map fun i => many n t i).map (fun (i : Nat) => PyData.int (i : Int)) by rw [List.map_map]; rfl, sum_nat]
      rfl
    · intro d hd
      obtain ⟨i, hi, rfl⟩ := List.mem_map.mp hd
      have hi := List.mem_range.mp hi
      refine ⟨_, rfl, ?_⟩
      simp only [r_prim, r_call, r_cons, r_nil, r_var, getV_zero, getV_succ, setV_succ, setV_zero, opt_some, bnd_pur, bnd_assoc]
      rw [hq n i t hn ht hi]
      rfl
theorem getD_turn {t : List Int} {x : Nat} (h : x < t.length) : (t.map fun y => 1 - y).getD x 0 = 1 - t.getD x 0 := by
  simp [List.getD, List.getElem?_map, List.getElem?_eq_getElem h]
theorem pairs_turn {n i : Nat} {t : List Int} (ht : t.length = 2 ^ n) (hi : i < n) : pairsL n (t.map fun y => 1 - y) i = pairsL n t i := by
  unfold pairsL
  refine fm_congr _ fun x hx => ?_
  have hx := List.mem_range.mp hx
  by_cases hb : x / 2 ^ i % 2 = 0
  · have e : unlike (t.map fun y => 1 - y) i x = unlike t i x := by
      unfold unlike
      rw [getD_turn (by rw [ht]; exact hx), getD_turn (by rw [ht]; exact up_lt hx hi hb)]
      congr 1
      rw [Bool.eq_iff_iff, bne_iff_ne, bne_iff_ne]
      omega
    rw [e]
  · have e : ∀ u : List Int, unlike u i x = false := fun u => by
      unfold unlike
      rw [show (x / 2 ^ i % 2 == 0) = false by simpa using hb]
      rfl
    rw [e, e]
theorem whole_turn {n : Nat} {t : List Int} (ht : t.length = 2 ^ n) : whole n (t.map fun y => 1 - y) = whole n t := by
  unfold whole
  congr 1
  apply List.map_congr_left
  intro i hi
  unfold many
  rw [pairs_turn ht (List.mem_range.mp hi)]
/-! ### the drawn function -/
theorem post_seq {a b : BA.St} {C : Calls} {ρ : Rho} {s : Src} {P : Fl → Src → Prop} (h : post (a C ρ) (fun f s' => ∃ ρ', f = .next ρ' ∧ post (b C ρ') P s') s) : post (sSeq a b C ρ) P s := by
  unfold sSeq
  rw [post_bnd]
  exact post_mono h fun f s' ⟨ρ', e, q⟩ => by subst e; exact q
theorem post_by {α β : Type} {x : M α} {k : α → M β} {Q : α → Src → Prop} {P : β → Src → Prop} {s : Src} (h : post x Q s) (go : ∀ d s', Q d s' → post (k d) P s') : post (bnd x k) P s := by
  rw [post_bnd]
  exact post_mono h go
theorem post_pick {β : Type} {C : Calls} {c : Nat} {m : Int} {k : BA.D → M β} {P : β → Src → Prop} {s : Src} (hp : Picks C c) (h2 : 2 ≤ m) (h3 : m < 1073741824) (ok : SrcOkk s) (go : ∀ (r : Nat) s', (r : Int) < m → SrcOkk s' → post (k (.int (r : Int))) P s') : post (bnd (C c [.none, .int m]) k) P s := by
  refine post_by (hp m h3 s ok) fun d s' ⟨⟨r, e, h0, h1, _⟩, ok1⟩ => ?_
  subst e
  have := go r.toNat s' (by have := h1 h2; omega) ok1
  rw [Int.toNat_of_nonneg h0] at this
  exact this
theorem compM_mapL {α : Type} {g : G} {C : Calls} {el : Rho → M BA.D} {ρ : Rho} (e F : α → BA.D) : ∀ L : List α, (∀ a ∈ L, ∃ ρ1, g (e a) ρ = some ρ1 ∧ el ρ1 = pur (F a)) → compM g (tYes C) el ρ (L.map e) = pur (L.map F)
  | [], _ => rfl
  | a :: r, h => by
    obtain ⟨ρ1, h1, h2⟩ := h a List.mem_cons_self
    have ih := compM_mapL (C := C) e F r fun b hb => h b (List.mem_cons_of_mem _ hb)
    rw [List.map_cons]
    unfold compM
    rw [h1, opt_some, bnd_pur]
    show (bnd (pur true) _ : M (List BA.D)) = _
    rw [bnd_pur, if_pos rfl, h2, bnd_pur, ih, bnd_pur, List.map_cons]
theorem compM_purL {α : Type} {g : G} {c : Rho → M Bool} {el : Rho → M BA.D} {ρ : Rho} (e F : α → BA.D) (p : α → Bool) : ∀ L : List α, (∀ a ∈ L, ∃ ρ1, g (e a) ρ = some ρ1 ∧ c ρ1 = pur (p a) ∧ (p a = true → el ρ1 = pur (F a))) → compM g c el ρ (L.map e) = pur ((L.filter p).map F)
  | [], _ => rfl
  | a :: r, h => by
    obtain ⟨ρ1, h1, h2, h3⟩ := h a List.mem_cons_self
    have ih := compM_purL e F p r fun b hb => h b (List.mem_cons_of_mem _ hb)
    rw [List.map_cons]
    unfold compM
    rw [h1, opt_some, bnd_pur, h2, bnd_pur]
    by_cases hp : p a = true
    · rw [hp, if_pos rfl, h3 hp, bnd_pur, ih, bnd_pur, List.filter_cons, if_pos hp, List.map_cons]
    · rw [if_neg hp, ih, List.filter_cons, if_neg hp]
/-- a comprehension whose items and tests are drawn -/
theorem compM_draw {α : Type} {g : G} {c : Rho → M Bool} {el : Rho → M BA.D} {ρ : Rho} {I : Src → Prop} (e : α → BA.D) (F : α → BA.D) : ∀ (L : List α) (s : Src), I s → (∀ a ∈ L, ∃ ρ1, g (e a) ρ = some ρ1 ∧ (∀ s, I s → post (c ρ1) (fun _ s' => I s') s) ∧ el ρ1 = pur (F a)) →
    post (compM g c el ρ (L.map e)) (fun ds s' => ∃ L' : List α, (∀ a ∈ L', a ∈ L) ∧ ds = L'.map F ∧ I s') s
  | [], s, hs, _ => ⟨[], (fun _ h => by cases h), rfl, hs⟩
  | a :: r, s, hs, h => by
    obtain ⟨ρ1, h1, h2, h3⟩ := h a List.mem_cons_self
    rw [List.map_cons]
    unfold compM
    rw [h1, opt_some, bnd_pur]
    refine post_by (h2 s hs) fun b s1 i1 => ?_
    have ih := compM_draw e F r s1 i1 fun b hb => h b (List.mem_cons_of_mem _ hb)
    cases b with
    | false =>
      exact post_mono ih fun ds s2 ⟨L', l1, l2, l3⟩ => ⟨L', fun a ha => List.mem_cons_of_mem _ (l1 a ha), l2, l3⟩
    | true =>
      rw [if_pos rfl, h3, bnd_pur]
      refine post_by ih fun ds s2 ⟨L', l1, l2, l3⟩ => ?_
      refine ⟨a :: L', fun b hb => ?_, by rw [l2]; rfl, l3⟩
      rcases List.mem_cons.mp hb with e | hb
      · rw [e]; exact List.mem_cons_self
      · exact List.mem_cons_of_mem _ (l1 b hb)
def B01 (d : BA.D) : Prop := d = .int 0 ∨ d = .int 1
theorem tab_of : ∀ ds : List BA.D, (∀ d ∈ ds, B01 d) → ∃ t : List Int, ds = t.map PyData.int ∧ ∀ x ∈ t, x = 0 ∨ x = 1
  | [], _ => ⟨[], rfl, fun _ h => by cases h⟩
  | d :: r, h => by
    obtain ⟨t, e, a⟩ := tab_of r fun x hx => h x (List.mem_cons_of_mem _ hx)
    rcases h d List.mem_cons_self with k | k
    · exact ⟨0 :: t, by rw [k, e]; rfl, fun x hx => by rcases List.mem_cons.mp hx with j | j; exact .inl j; exact a x j⟩
    · exact ⟨1 :: t, by rw [k, e]; rfl, fun x hx => by rcases List.mem_cons.mp hx with j | j; exact .inr j; exact a x j⟩
theorem boolsD_b : ∀ bs : List Bool, boolsD (bs.map PyData.bool) = some bs
  | [] => rfl
  | b :: r => by
    simp only [List.map_cons, boolsD, asT]
    rw [boolsD_b r]
    rfl
theorem all_b (bs : List Bool) : prim .all [.list (bs.map PyData.bool)] = some (.bool (bs.all id)) := by
  show ofBools (.list (bs.map PyData.bool)) (fun bs => .bool (bs.all id)) = _
  unfold ofBools
  simp only [seqD, boolsD_b]
theorem any_b (bs : List Bool) : prim .any [.list (bs.map PyData.bool)] = some (.bool (bs.any id)) := by
  show ofBools (.list (bs.map PyData.bool)) (fun bs => .bool (bs.any id)) = _
  unfold ofBools
  simp only [seqD, boolsD_b]
theorem int_b (b : Bool) : prim .int [.bool b] = some (.int (if b then 1 else 0)) := rfl
theorem B01_b (b : Bool) : B01 (.int (if b then 1 else 0)) := by cases b; exact .inl rfl; exact .inr rfl
section
variable {C : Calls} {p b : Nat} (hp : Picks C p) (h7 : HBit C b)
abbrev r8 (mo n : Nat) (a3 a4 a5 a6 : Option BA.D) : Rho := [some .none, some (.int (mo : Int)), some (.int (n : Int)), a3, a4, a5, a6, none, none, none, none]
abbrev r8x (mo n : Nat) (a3 a4 a5 a6 : Option BA.D) (x : Nat) : Rho := [some .none, some (.int (mo : Int)), some (.int (n : Int)), a3, a4, a5, a6, some (.int (x : Int)), none, none, none]
abbrev tabS (el : E) : BA.St := sSet 4 (xComp [7] (iRange (xOp .LShift (xCon (.int 1)) (xVar 2))) (gVar 7) tYes el)
theorem dTab {el : E} {mo n : Nat} {a3 a4 a5 a6 : Option BA.D} (hn : n ≤ 20) (hel : ∀ x : Nat, x < 2 ^ n → ∀ s, SrcOkk s → post (el C (r8x mo n a3 a4 a5 a6 x)) (fun d s' => B01 d ∧ SrcOkk s') s) (s : Src) (ok : SrcOkk s) :
    post (tabS el C (r8 mo n a3 a4 a5 a6)) (fun f s' => ∃ ds, f = .next (r8 mo n a3 (some (.list ds)) a5 a6) ∧ ds.length = 2 ^ n ∧ (∀ d ∈ ds, B01 d) ∧ SrcOkk s') s := by
  simp only [r_set, r_comp, r_range, r_op, r_con, r_var, getV_zero, getV_succ, opt_some, bnd_pur, bnd_assoc, shl1 n hn, asI, rg_pow hn, if_tt, if_true, BA.blank, wipeV_succ, wipeV_zero, range_pow]
  refine post_by (compM_post (I := SrcOkk) (R := B01) _ s ok fun d hd => ?_) fun ds s' ⟨h1, h2, h3⟩ => ⟨ds, rfl, by rw [h1, List.length_map, List.length_range], h2, h3⟩
  obtain ⟨x, hx, rfl⟩ := List.mem_map.mp hd
  exact ⟨_, rfl, hel x (List.mem_range.mp hx)⟩
include hp in
theorem el0 (ρ : Rho) (h : getV ρ 0 = some .none) (s : Src) (ok : SrcOkk s) : post (xCall p (xCons (xVar 0) (xCons (xCon (.int 2)) xNil)) C ρ) (fun d s' => B01 d ∧ SrcOkk s') s := by
  simp only [r_call, r_cons, r_nil, r_var, r_con, h, opt_some, bnd_pur]
  refine post_mono (hp 2 (by decide) s ok) fun d s' ⟨⟨r, e, h0, h1, _⟩, ok1⟩ => ⟨?_, ok1⟩
  subst e
  have := h1 (by decide)
  have hr : r = 0 ∨ r = 1 := by omega
  rcases hr with rfl | rfl
  · exact .inl rfl
  · exact .inr rfl
include hp in
theorem el1 (ρ : Rho) (h : getV ρ 0 = some .none) (s : Src) (ok : SrcOkk s) : post (xPrim .int (xCons (xCmp .Eq (xCall p (xCons (xVar 0) (xCons (xCon (.int 5)) xNil))) (xCon (.int 0))) xNil) C ρ) (fun d s' => B01 d ∧ SrcOkk s') s := by
  simp only [r_prim, r_cmp, r_call, r_cons, r_nil, r_var, r_con, h, opt_some, bnd_pur, bnd_assoc]
  refine post_pick hp (by decide) (by decide) ok fun r s' _ ok1 => ?_
  simp only [cmp_eqi, opt_some, bnd_pur, int_b]
  exact ⟨B01_b _, ok1⟩
include h7 in
theorem el2 (mo n x : Nat) (hn : n ≤ 20) (a3 a4 a6 : Option BA.D) (Y : List Nat) : ∃ bb : Bool, xPrim .int (xCons (xPrim .any (xCons (xComp [10] (iVal (xVar 5)) (gVar 10) tYes (xPrim .all (xCons (xComp [9] (iRange (xVar 2)) (gVar 9) tYes (xCmp .GtE (xCall b (xCons (xVar 7) (xCons (xVar 9) xNil))) (xCall b (xCons (xVar 10) (xCons (xVar 9) xNil))))) xNil))) xNil)) xNil) C (r8x mo n a3 a4 (some (.list (Y.map fun (y : Nat) => .int (y : Int)))) a6 x) = pur (.int (if bb then 1 else 0)) := by
  simp only [r_prim, r_comp, r_val, r_cons, r_nil, r_var, getV_zero, getV_succ, opt_some, bnd_pur, bnd_assoc, seqD, BA.blank, wipeV_succ, wipeV_zero]
  rw [compM_mapL (fun (y : Nat) => PyData.int (y : Int)) (fun (y : Nat) => PyData.bool (((List.range n).map fun (i : Nat) => decide (bitI y i ≤ bitI x i)).all id)) Y]
  · simp only [bnd_pur]
    rw [show Y.map (fun (y : Nat) => PyData.bool (((List.range n).map fun (i : Nat) => decide (bitI (y : Int) i ≤ bitI x i)).all id)) = (Y.map fun (y : Nat) => (((List.range n).map fun (i : Nat) => decide (bitI (y : Int) i ≤ bitI x i)).all id)).map PyData.bool by rw [List.map_map]; rfl, any_b]
    simp only [opt_some, bnd_pur, int_b]
    exact ⟨_, rfl⟩
  · intro y hy
    refine ⟨_, rfl, ?_⟩
    simp only [r_prim, r_cons, r_nil, r_comp, BA.blank, wipeV_succ, wipeV_zero, r_range, r_var, getV_zero, getV_succ, setV_succ, setV_zero, opt_some, bnd_pur, bnd_assoc, asI, rg_n hn, if_true, rangeL_map]
    rw [compM_mapL (fun (i : Nat) => PyData.int (i : Int)) (fun i => PyData.bool (decide (bitI y i ≤ bitI x i))) (List.range n)]
    · simp only [bnd_pur]
      rw [show (List.range n).map (fun i => PyData.bool (decide (bitI (y : Int) i ≤ bitI x i))) = ((List.range n).map fun (i : Nat) => decide (bitI (y : Int) i ≤ bitI x i)).map PyData.bool by rw [List.map_map]; rfl, all_b]
      rfl
    · intro i hi
      refine ⟨_, rfl, ?_⟩
      have hi := List.mem_range.mp hi
      simp only [r_cmp, r_call, r_cons, r_nil, r_var, getV_zero, getV_succ, setV_succ, setV_zero, opt_some, bnd_pur, bnd_assoc, h7 _ i (show i ≤ 20 by omega), cmp_gei]
      rfl
include h7 in
theorem el3 (mo n x : Nat) (a3 a4 a5 : Option BA.D) (L : List Nat) (hL : ∀ i ∈ L, i ≤ 20) : ∃ m : Nat, xOp .Mod (xPrim .sum (xCons (xComp [9] (iVal (xVar 6)) (gVar 9) tYes (xCall b (xCons (xVar 7) (xCons (xVar 9) xNil)))) xNil)) (xCon (.int 2)) C (r8x mo n a3 a4 a5 (some (.list (L.map fun (y : Nat) => .int (y : Int)))) x) = pur (.int ((m % 2 : Nat) : Int)) := by
  simp only [r_op, r_con, r_prim, r_comp, r_val, r_cons, r_nil, r_var, getV_zero, getV_succ, opt_some, bnd_pur, bnd_assoc, seqD, BA.blank, wipeV_succ, wipeV_zero]
  rw [compM_mapL (fun (y : Nat) => PyData.int (y : Int)) (fun i => PyData.int (((x / 2 ^ i % 2 : Nat)) : Int)) L]
  · simp only [bnd_pur]
    rw [show L.map (fun i => PyData.int (((x / 2 ^ i % 2 : Nat)) : Int)) = (L.map fun i => x / 2 ^ i % 2).map (fun (i : Nat) => PyData.int (i : Int)) by rw [List.map_map]; rfl, sum_nat]
    simp only [opt_some, bnd_pur, op_modi _ _ (show (0 : Int) < 2 by decide)]
    exact ⟨(L.map fun i => x / 2 ^ i % 2).sum, by rw [Int.natCast_emod]; rfl⟩
  · intro i hi
    refine ⟨_, rfl, ?_⟩
    simp only [r_call, r_cons, r_nil, r_var, getV_zero, getV_succ, setV_succ, setV_zero, opt_some, bnd_pur, bnd_assoc, h7 _ i (hL i hi)]
    rw [show (x : Int) / 2 ^ i % 2 = ((x / 2 ^ i % 2 : Nat) : Int) from bit_nat x i]
theorem B01_m (m : Nat) : B01 (.int ((m % 2 : Nat) : Int)) := by
  have : m % 2 = 0 ∨ m % 2 = 1 := by omega
  rcases this with h | h
  · rw [h]; exact .inl rfl
  · rw [h]; exact .inr rfl
def Dr (mo : Nat) (d : BA.D) : Prop := ∃ (n : Nat) (t : List Int), 1 ≤ n ∧ n ≤ mo ∧ t.length = 2 ^ n ∧ (∀ x ∈ t, x = 0 ∨ x = 1) ∧ d = FD n t
def Sh (mo n rd : Nat) (ρ : Rho) : Prop := ∃ ds a5 a6, ρ = r8 mo n (some (.int (rd : Int))) (some (.list ds)) a5 a6 ∧ ds.length = 2 ^ n ∧ ∀ d ∈ ds, B01 d
abbrev cond (k : Int) (a : BA.St) : BA.St := sIf (xCmp .Eq (xVar 3) (xCon (.int k))) a sNil
theorem p_cond {mo n rd : Nat} {k : Int} {a : BA.St} {ρ : Rho} {s : Src} (h : Sh mo n rd ρ) (ok : SrcOkk s) (go : ∀ ds a5 a6, ds.length = 2 ^ n → (∀ d ∈ ds, B01 d) → post (a C (r8 mo n (some (.int (rd : Int))) (some (.list ds)) a5 a6)) (fun f s' => ∃ ρ', f = .next ρ' ∧ Sh mo n rd ρ' ∧ SrcOkk s') s) :
    post (cond k a C ρ) (fun f s' => ∃ ρ', f = .next ρ' ∧ Sh mo n rd ρ' ∧ SrcOkk s') s := by
  obtain ⟨ds, a5, a6, rfl, hl, hb⟩ := h
  simp only [r_sif, r_cmp, r_var, r_con, getV_zero, getV_succ, opt_some, bnd_pur, bnd_assoc, cmp_eqi, asB]
  by_cases e : (rd : Int) = k
  · rw [decide_eq_true e, if_pos rfl]
    exact go ds a5 a6 hl hb
  · rw [decide_eq_false e, if_neg Bool.false_ne_true]
    exact ⟨_, rfl, ⟨ds, a5, a6, rfl, hl, hb⟩, ok⟩
theorem nats_of : ∀ ds : List BA.D, (∀ d ∈ ds, ∃ y : Nat, d = .int (y : Int)) → ∃ Y : List Nat, ds = Y.map fun (y : Nat) => .int (y : Int)
  | [], _ => ⟨[], rfl⟩
  | d :: r, h => by
    obtain ⟨Y, e⟩ := nats_of r fun x hx => h x (List.mem_cons_of_mem _ hx)
    obtain ⟨y, e2⟩ := h d List.mem_cons_self
    exact ⟨y :: Y, by rw [e, e2]; rfl⟩
theorem pow_in {n : Nat} (hn1 : 1 ≤ n) (hn : n ≤ 6) : (2 : Int) ≤ 2 ^ n ∧ (2 : Int) ^ n ≤ 64 := by
  have a : (2 : Nat) ^ n ≤ 2 ^ 6 := Nat.pow_le_pow_right (by decide) hn
  have b : (2 : Nat) ^ 1 ≤ 2 ^ n := Nat.pow_le_pow_right (by decide) hn1
  have e : ((2 ^ n : Nat) : Int) = 2 ^ n := by simp
  omega
include hp in
theorem starts_ok (mo n : Nat) (hn1 : 1 ≤ n) (hn : n ≤ 6) (a3 a4 a5 a6 : Option BA.D) (s : Src) (ok : SrcOkk s) : post (sSet 5 (xComp [8] (iRange (xOp .Add (xCon (.int 1)) (xCall p (xCons (xVar 0) (xCons (xCon (.int 3)) xNil))))) (gVar 8) tYes (xCall p (xCons (xVar 0) (xCons (xOp .LShift (xCon (.int 1)) (xVar 2)) xNil)))) C (r8 mo n a3 a4 a5 a6)) (fun f s' => ∃ Y : List Nat, f = .next (r8 mo n a3 a4 (some (.list (Y.map fun (y : Nat) => .int (y : Int)))) a6) ∧ SrcOkk s') s := by
  simp only [r_set, r_comp, r_range, r_op, r_con, r_call, r_cons, r_nil, r_var, getV_zero, getV_succ, opt_some, bnd_pur, bnd_assoc, BA.blank, wipeV_succ, wipeV_zero]
  refine post_pick hp (by decide) (by decide) ok fun r s5 hr ok5 => ?_
  have er : rg1 (1 + (r : Int)) = true := by
    have := rg_n (n := 1 + r) (by omega)
    rw [← this, Int.natCast_add]
    rfl
  simp only [op_addi, opt_some, bnd_pur, bnd_assoc, asI, er, if_true]
  refine post_by (compM_post (I := SrcOkk) (R := fun d => ∃ y : Nat, d = .int (y : Int)) _ s5 ok5 fun d hd => ?_) fun ds5 s6 ⟨g1, g2, ok6⟩ => ?_
  · refine ⟨_, rfl, fun s ok => ?_⟩
    simp only [r_call, r_cons, r_nil, r_op, r_con, r_var, gVar, setV_succ, setV_zero, getV_zero, getV_succ, opt_some, bnd_pur, bnd_assoc, shl1 n (show n ≤ 20 by omega)]
    rw [← bnd_pur_right (C p _)]
    obtain ⟨p1, p2⟩ := pow_in hn1 hn
    exact post_pick hp p1 (by omega) ok fun r s' _ ok' => ⟨⟨r, rfl⟩, ok'⟩
  · obtain ⟨Y, rfl⟩ := nats_of ds5 g2
    exact ⟨Y, rfl, ok6⟩
include hp in
theorem lot_ok (mo n : Nat) (hn : n ≤ 6) (a3 a4 a5 a6 : Option BA.D) (s : Src) (ok : SrcOkk s) : post (sSet 6 (xComp [9] (iRange (xVar 2)) (gVar 9) (tIf (xCmp .Eq (xCall p (xCons (xVar 0) (xCons (xCon (.int 2)) xNil))) (xCon (.int 1)))) (xVar 9)) C (r8 mo n a3 a4 a5 a6)) (fun f s' => ∃ L : List Nat, (∀ i ∈ L, i ≤ 20) ∧ f = .next (r8 mo n a3 a4 a5 (some (.list (L.map fun (y : Nat) => .int (y : Int))))) ∧ SrcOkk s') s := by
  simp only [r_set, r_comp, r_range, r_var, getV_zero, getV_succ, opt_some, bnd_pur, bnd_assoc, BA.blank, wipeV_succ, wipeV_zero, asI, rg_n (show n ≤ 20 by omega), if_true, rangeL_map]
  refine post_by (compM_draw (I := SrcOkk) (fun (i : Nat) => PyData.int (i : Int)) (fun (i : Nat) => PyData.int (i : Int)) (List.range n) s ok fun i hi => ?_) fun ds5 s6 ⟨L, g1, g2, ok6⟩ => ?_
  · refine ⟨_, rfl, fun s ok => ?_, ?_⟩
    · simp only [r_tif, r_cmp, r_call, r_cons, r_nil, r_con, r_var, gVar, setV_succ, setV_zero, getV_zero, getV_succ, opt_some, bnd_pur, bnd_assoc]
      exact post_pick hp (by decide) (by decide) ok fun r s' _ ok' => ok'
    · simp only [r_var, gVar, setV_succ, setV_zero, getV_zero, getV_succ, opt_some]
  · subst g2
    exact ⟨L, fun i hi => by have := List.mem_range.mp (g1 i hi); omega, rfl, ok6⟩
include hp h7 in
theorem draw_ok (mo : Nat) (hm2 : 2 ≤ mo) (hm6 : mo ≤ 6) (s : Src) (ok : SrcOkk s) : post (drawB p b C [some .none, some (.int (mo : Int)), none, none, none, none, none, none, none, none, none]) (fun f s' => ∃ d, f = .ret d ∧ Dr mo d ∧ SrcOkk s') s := by
  unfold drawB
  refine post_seq ?_
  show post (sAsg _ _ C [some .none, some (.int (mo : Int)), none, none, none, none, none, none, none, none, none]) _ s
  simp only [r_asg, r_tup, r_op, r_call, r_cons, r_nil, r_var, r_con, getV_zero, getV_succ, opt_some, bnd_pur, bnd_assoc]
  refine post_pick hp (by omega) (by omega) ok fun n s1 hn ok1 => ?_
  simp only [op_addi, opt_some, bnd_pur, bnd_assoc]
  refine post_pick hp (by decide) (by decide) ok1 fun rd s2 hrd ok2 => ?_
  refine ⟨r8 mo (1 + n) (some (.int (rd : Int))) none none none, ?_, ?_⟩
  · simp only [r8, Int.natCast_add]; rfl
  have hnm : 1 + n ≤ mo := by omega
  have hn : 1 + n ≤ 6 := by omega
  have hn1 : 1 ≤ 1 + n := by omega
  revert hnm hn hn1
  generalize 1 + n = n
  intro hnm hn hn1
  refine post_seq (post_mono (dTab (by omega) (fun x _ s ok => el0 hp _ rfl s ok) s2 ok2) fun f s3 ⟨ds, e, hl, hb, ok3⟩ => ⟨_, e, ?_⟩)
  clear e
  have sh : Sh mo n rd (r8 mo n (some (.int (rd : Int))) (some (.list ds)) none none) := ⟨ds, none, none, rfl, hl, hb⟩
  refine post_seq (post_mono (p_cond sh ok3 fun ds a5 a6 hl hb => ?_) fun f s4 ⟨ρ4, e, sh4, ok4⟩ => ⟨ρ4, e, ?_⟩)
  · exact post_mono (dTab (by omega) (fun x _ s ok => el1 hp _ rfl s ok) s3 ok3) fun f s4 ⟨ds, e, hl, hb, ok4⟩ => ⟨_, e, ⟨ds, a5, a6, rfl, hl, hb⟩, ok4⟩
  clear e sh hl hb ds
  refine post_seq (post_mono (p_cond sh4 ok4 fun ds a5 a6 hl hb => ?_) fun f s5 ⟨ρ5, e, sh5, ok5⟩ => ⟨ρ5, e, ?_⟩)
  · refine post_seq (post_mono (starts_ok hp mo n hn1 hn _ _ _ _ s4 ok4) fun f s6 ⟨Y, e, ok6⟩ => ⟨_, e, ?_⟩)
    refine post_mono (dTab (a3 := some (.int (rd : Int))) (a4 := some (.list ds)) (a5 := some (.list (Y.map fun (y : Nat) => .int (y : Int)))) (a6 := a6) (show n ≤ 20 by omega) (fun x _ s ok => ?_) s6 ok6) fun f s7 ⟨ds, e, hl, hb, ok7⟩ => ⟨_, e, ⟨ds, _, a6, rfl, hl, hb⟩, ok7⟩
    obtain ⟨b, e⟩ := el2 h7 mo n x (by omega) (some (.int (rd : Int))) (some (.list ds)) a6 Y
    rw [e]
    exact ⟨B01_b b, ok⟩
  clear e sh4
  refine post_seq (post_mono (p_cond sh5 ok5 fun ds a5 a6 hl hb => ?_) fun f s6 ⟨ρ6, e, sh6, ok6⟩ => ⟨ρ6, e, ?_⟩)
  · refine post_seq (post_mono (lot_ok hp mo n hn _ _ _ _ s5 ok5) fun f s6 ⟨L, g1, e, ok6⟩ => ⟨_, e, ?_⟩)
    refine post_mono (dTab (a3 := some (.int (rd : Int))) (a4 := some (.list ds)) (a5 := a5) (a6 := some (.list (L.map fun (y : Nat) => .int (y : Int)))) (show n ≤ 20 by omega) (fun x _ s ok => ?_) s6 ok6) fun f s7 ⟨ds, e, hl, hb, ok7⟩ => ⟨_, e, ⟨ds, a5, _, rfl, hl, hb⟩, ok7⟩
    obtain ⟨m, e⟩ := el3 h7 mo n x (some (.int (rd : Int))) (some (.list ds)) a5 L g1
    rw [e]
    exact ⟨B01_m m, ok⟩
  obtain ⟨ds, a5, a6, rfl, hl, hb⟩ := sh6
  obtain ⟨t, e1, e2⟩ := tab_of ds hb
  simp only [r_ret, r_tup, r_cons, r_nil, r_prim, r_var, getV_zero, getV_succ, opt_some, bnd_pur, bnd_assoc, prim, seqD, Option.map_some]
  refine ⟨_, rfl, ⟨n, t, hn1, hnm, ?_, e2, ?_⟩, ok6⟩
  · rw [← hl, e1, List.length_map]
  · rw [e1]; rfl
end
theorem draw_run {C : Calls} {p b : Nat} (hp : Picks C p) (h7 : HBit C b) (mo : Nat) (h2 : 2 ≤ mo) (h6 : mo ≤ 6) (s : Src) (ok : SrcOkk s) : post (runDef ⟨2, 11, drawB p b⟩ C [.none, .int (mo : Int)]) (fun d s' => Dr mo d ∧ SrcOkk s') s := by
  unfold runDef
  rw [if_pos (show ([PyData.none, PyData.int (mo : Int)] : List BA.D).length = 2 from rfl), post_bnd]
  refine post_mono (draw_ok hp h7 mo h2 h6 s ok) fun f s' ⟨d, e, h1, h2⟩ => ?_
  subst e
  exact ⟨h1, h2⟩
/-! ### texts of values -/
theorem r_repr (a : E) (C : Calls) (ρ : Rho) : xRepr a C ρ = bnd (a C ρ) fun x => if repOk x then pur (.str x.shown) else bad := rfl
theorem r_reprC (o : CmpOp) (a b : E) (C : Calls) (ρ : Rho) : xReprC o a b C ρ = bnd (a C ρ) fun x => if repOk x then bnd (b C ρ) fun y => if sameD x y then pur (.bool (isEqOp o)) else bad else bad := rfl
mutual
theorem same_self : ∀ d : BA.D, rok d = true → sameD d d = true
  | .none, _ => rfl
  | .bool b, _ => by simp [sameD]
  | .int i, _ => by simp [sameD]
  | .str x, _ => by simp [sameD]
  | .list xs, h => by simp only [rok] at h; simp only [sameD]; exact same_selfs xs h
  | .tuple xs, h => by simp only [rok] at h; simp only [sameD]; exact same_selfs xs h
  | .dict _, h => by simp [rok] at h
theorem same_selfs : ∀ ds : List BA.D, rokA ds = true → sameA ds ds = true
  | [], _ => rfl
  | d :: r, h => by
    simp only [rokA, Bool.and_eq_true] at h
    simp only [sameA, same_self d h.1, same_selfs r h.2, Bool.and_self]
end
theorem rep_self {d : BA.D} (h : repOk d = true) : sameD d d = true := by
  unfold repOk at h
  simp only [Bool.and_eq_true] at h
  exact same_self d h.1.1
theorem reprC_same {a b : E} {o : CmpOp} {C : Calls} {ρ : Rho} {d : BA.D} (ha : a C ρ = pur d) (hb : b C ρ = pur d) (h : repOk d = true) : xReprC o a b C ρ = pur (.bool (isEqOp o)) := by
  rw [r_reprC, ha, bnd_pur, if_pos h, hb, bnd_pur, if_pos (rep_self h)]
/-- small values: text, depth, weight -/
def Sm (d : BA.D) (k m : Nat) : Prop := rok d = true ∧ d.depth ≤ k ∧ wt d ≤ m
theorem Sm.rep {d : BA.D} {k m : Nat} (h : Sm d k m) (hk : k ≤ 64) (hm : m ≤ 16777216) : repOk d = true := by
  obtain ⟨a, b, c⟩ := h
  unfold repOk
  rw [a, decide_eq_true (Nat.le_trans b hk), Nat.ble_eq_true_of_le (Nat.le_trans c hm)]
  rfl
theorem Sms {k m : Nat} : ∀ ds : List BA.D, (∀ d ∈ ds, Sm d k m) → rokA ds = true ∧ PyData.depthAll ds ≤ k ∧ wtA ds ≤ ds.length * (m + 2)
  | [], _ => ⟨rfl, Nat.zero_le _, Nat.zero_le _⟩
  | d :: r, h => by
    obtain ⟨a, b, c⟩ := Sms r fun x hx => h x (List.mem_cons_of_mem _ hx)
    obtain ⟨a1, b1, c1⟩ := h d List.mem_cons_self
    refine ⟨by simp only [rokA, a, a1, Bool.and_self], ?_, ?_⟩
    · simp only [PyData.depthAll]
      omega
    · simp only [wtA, List.length_cons, Nat.add_mul]
      omega
theorem Sm_tup {ds : List BA.D} {k m : Nat} (h : ∀ d ∈ ds, Sm d k m) : Sm (.tuple ds) (k + 1) (3 + ds.length * (m + 2)) := by
  obtain ⟨a, b, c⟩ := Sms ds h
  refine ⟨by simp only [rok, a], ?_, ?_⟩
  · simp only [PyData.depth]
    omega
  · simp only [wt]
    omega
theorem Sm_mono {d : BA.D} {k m k' m' : Nat} (h : Sm d k m) (hk : k ≤ k') (hm : m ≤ m') : Sm d k' m' := ⟨h.1, Nat.le_trans h.2.1 hk, Nat.le_trans h.2.2 hm⟩
theorem Sm_int {i : Int} (h : i.natAbs < 1000) : Sm (.int i) 0 2000 := by
  refine ⟨?_, Nat.zero_le _, Nat.le_refl _⟩
  simp only [rok]
  have := Nat.log2_le_self i.natAbs
  exact decide_eq_true (by omega)
theorem Sm_nat {i : Nat} (h : i < 1000) : Sm (.int (i : Int)) 0 2000 := Sm_int (by rw [Int.natAbs_natCast]; exact h)
theorem Sm_ints {t : List Int} (h : ∀ x ∈ t, x.natAbs < 1000) : Sm (.tuple (t.map PyData.int)) 1 (3 + t.length * 2002) := by
  have := Sm_tup (ds := t.map PyData.int) (k := 0) (m := 2000) fun d hd => by
    obtain ⟨x, hx, rfl⟩ := List.mem_map.mp hd
    exact Sm_int (h x hx)
  rw [List.length_map] at this
  exact this
theorem Sm_two {a b : BA.D} {k m : Nat} (ha : Sm a k m) (hb : Sm b k m) : Sm (.tuple [a, b]) (k + 1) (3 + 2 * (m + 2)) := Sm_tup fun d hd => by
  simp only [List.mem_cons, List.not_mem_nil, or_false] at hd
  rcases hd with rfl | rfl
  · exact ha
  · exact hb
theorem pow64 {n : Nat} (h : n ≤ 6) : 2 ^ n ≤ 64 := Nat.pow_le_pow_right (n := 2) (by decide) h
theorem rep_FD {n : Nat} {t : List Int} (hn : n ≤ 6) (ht : t.length = 2 ^ n) (hb : ∀ x ∈ t, x = 0 ∨ x = 1) : repOk (FD n t) = true := by
  have h1 : Sm (.tuple (t.map PyData.int)) 1 (3 + t.length * 2002) := Sm_ints fun x hx => by rcases hb x hx with rfl | rfl <;> decide
  have h2 : Sm (.int (n : Int)) 1 (3 + t.length * 2002) := Sm_mono (Sm_int (by omega)) (by decide) (by have := Nat.two_pow_pos n; omega)
  have := pow64 hn
  exact (Sm_two h2 h1).rep (by decide) (by omega)
theorem rep_pairs {n i : Nat} {t : List Int} (hn : n ≤ 6) (hi : i < n) : repOk (.tuple (pairsL n t i)) = true := by
  have := pow64 hn
  have := pow64 (show i ≤ 6 by omega)
  have h : Sm (.tuple (pairsL n t i)) 2 (3 + (pairsL n t i).length * (4007 + 2)) := Sm_tup fun d hd => by
    unfold pairsL at hd
    obtain ⟨x, hx, e⟩ := List.mem_filterMap.mp hd
    have hx := List.mem_range.mp hx
    by_cases hu : unlike t i x = true
    · rw [if_pos hu] at e
      cases e
      unfold pr
      rw [add_pow]
      exact Sm_two (Sm_nat (by omega)) (Sm_nat (by omega))
    · rw [if_neg hu] at e
      cases e
  have hl : (pairsL n t i).length ≤ 2 ^ n := by
    unfold pairsL
    refine Nat.le_trans (List.length_filterMap_le _ _) ?_
    rw [List.length_range]
    exact Nat.le_refl _
  exact h.rep (by decide) (by omega)
theorem rep_cut {a b : Nat} (ha : a < 1000) (hb : b < 1000) : repOk (cutP a b) = true := by
  have h1 := Nat.div_le_self a (gg1 a b)
  have h2 := Nat.div_le_self b (gg1 a b)
  unfold cutP
  exact (Sm_two (Sm_nat (by omega)) (Sm_nat (by omega))).rep (by decide) (by decide)
theorem many_le (n : Nat) (t : List Int) (i : Nat) : many n t i ≤ 2 ^ n := by
  unfold many pairsL
  refine Nat.le_trans (List.length_filterMap_le _ _) ?_
  rw [List.length_range]
  exact Nat.le_refl _
theorem whole_le {n : Nat} (t : List Int) (hn : n ≤ 6) : whole n t < 1000 := by
  have h : ∀ (L : List Nat), (L.map fun i => many n t i).sum ≤ L.length * 64 := fun L => by
    induction L with
    | nil => exact Nat.zero_le _
    | cons i r ih =>
      have := many_le n t i
      have := pow64 hn
      simp only [List.map_cons, List.sum_cons, List.length_cons, Nat.add_mul]
      omega
  have := h (List.range n)
  rw [List.length_range] at this
  unfold whole
  omega
/-! ### the rim -/
def flip (x i : Nat) : Nat := if x / 2 ^ i % 2 = 0 then x + 2 ^ i else x - 2 ^ i
theorem flip_lt {n x i : Nat} (hx : x < 2 ^ n) (hi : i < n) : flip x i < 2 ^ n := by
  unfold flip
  split
  · exact up_lt hx hi (by assumption)
  · exact Nat.lt_of_le_of_lt (Nat.sub_le _ _) hx
theorem pow_le_of_bit {x i : Nat} (h : x / 2 ^ i % 2 = 1) : 2 ^ i ≤ x := by
  apply Nat.le_of_not_lt
  intro k
  rw [Nat.div_eq_of_lt k] at h
  cases h
theorem flip_int (x i : Nat) : (x : Int) + 2 ^ i * (1 - 2 * ((x / 2 ^ i % 2 : Nat) : Int)) = (flip x i : Int) := by
  have : x / 2 ^ i % 2 = 0 ∨ x / 2 ^ i % 2 = 1 := by omega
  unfold flip
  rcases this with h | h
  · rw [h, if_pos rfl]
    simp
  · rw [h, if_neg (by decide)]
    have hle := pow_le_of_bit h
    rw [Int.natCast_sub hle, ← pow_cast]
    simp
    omega
theorem flip_up {x i : Nat} (h : x / 2 ^ i % 2 = 0) : flip (x + 2 ^ i) i = x := by
  unfold flip
  have e : (x + 2 ^ i) / 2 ^ i % 2 = 1 := by
    rw [Nat.add_div_right _ (Nat.two_pow_pos i)]
    omega
  rw [e, if_neg (by decide)]
  omega
def rimI (t : List Int) (i x : Nat) : Nat := if t.getD x 0 = 1 ∧ t.getD (flip x i) 0 = 0 then 1 else 0
theorem len_fm (m : Nat) (p : Nat → Bool) (f : Nat → BA.D) : ((List.range m).filterMap fun x => if p x = true then some (f x) else none).length = sumTo m fun x => if p x = true then 1 else 0 := by
  induction m with
  | zero => rfl
  | succ m ih =>
    rw [List.range_succ, List.filterMap_append, List.length_append, sumTo_succ, ih]
    congr 1
    simp only [List.filterMap_cons, List.filterMap_nil]
    by_cases h : p m = true
    · rw [if_pos h, if_pos h]; rfl
    · rw [if_neg h, if_neg h]; rfl
theorem len_f (m : Nat) (p : Nat → Bool) : ((List.range m).filter p).length = sumTo m fun x => if p x = true then 1 else 0 := by
  induction m with
  | zero => rfl
  | succ m ih =>
    rw [List.range_succ, List.filter_append, List.length_append, sumTo_succ, ih]
    congr 1
    simp only [List.filter_cons, List.filter_nil]
    by_cases h : p m = true
    · rw [if_pos h, if_pos h]; rfl
    · rw [if_neg h, if_neg h]; rfl
theorem many_rim {n i : Nat} {t : List Int} (ht : t.length = 2 ^ n) (hi : i < n) (hb : ∀ x ∈ t, x = 0 ∨ x = 1) : many n t i = sumTo (2 ^ n) (rimI t i) := by
  unfold many pairsL
  rw [len_fm, sum_pairs n i (rimI t i) hi]
  refine sumTo_congr fun x hx => ?_
  have hg : ∀ y, y < 2 ^ n → t.getD y 0 = 0 ∨ t.getD y 0 = 1 := fun y hy => by
    have e : t.getD y 0 = t[y]'(by rw [ht]; exact hy) := by simp [List.getD, List.getElem?_eq_getElem (show y < t.length by rw [ht]; exact hy)]
    rw [e]
    exact hb _ (List.getElem_mem _)
  by_cases h : x / 2 ^ i % 2 = 0
  · have e1 : flip x i = x + 2 ^ i := by unfold flip; rw [if_pos h]
    rw [if_pos h]
    unfold rimI
    rw [flip_up h, e1]
    have a := hg x hx
    have b := hg (x + 2 ^ i) (up_lt hx hi h)
    unfold unlike
    rw [h]
    rcases a with a | a <;> rcases b with b | b <;> rw [a, b] <;> decide
  · rw [if_neg h]
    unfold unlike
    rw [show (x / 2 ^ i % 2 == 0) = false by simpa using h]
    rfl
theorem sumTo_swap (m k : Nat) (f : Nat → Nat → Nat) : (sumTo m fun x => sumTo k fun i => f x i) = sumTo k fun i => sumTo m fun x => f x i := by
  induction m with
  | zero =>
    show 0 = _
    induction k with
    | zero => rfl
    | succ k ih => rw [sumTo_succ, ← ih]; rfl
  | succ m ih =>
    rw [sumTo_succ, ih, ← sumTo_plus]
    exact sumTo_congr fun i _ => by rw [sumTo_succ]
def rimX (n : Nat) (t : List Int) (x : Nat) : Nat := if t.getD x 0 = 1 then sumTo n fun i => if t.getD (flip x i) 0 = 0 then 1 else 0 else 0
theorem sumTo_zero (m : Nat) : sumTo m (fun _ => 0) = 0 := by
  induction m with
  | zero => rfl
  | succ m ih => rw [sumTo_succ, ih]
theorem whole_rim {n : Nat} {t : List Int} (ht : t.length = 2 ^ n) (hb : ∀ x ∈ t, x = 0 ∨ x = 1) : sumTo (2 ^ n) (rimX n t) = whole n t := by
  have e : whole n t = sumTo n fun i => many n t i := rfl
  rw [e, sumTo_congr fun i hi => many_rim ht hi hb, ← sumTo_swap]
  refine sumTo_congr fun x _ => ?_
  unfold rimX rimI
  by_cases h : t.getD x 0 = 1
  · rw [if_pos h]
    refine sumTo_congr fun i _ => ?_
    by_cases h2 : t.getD (flip x i) 0 = 0
    · rw [if_pos h2, if_pos ⟨h, h2⟩]
    · rw [if_neg h2, if_neg fun k => h2 k.2]
  · rw [if_neg h]
    have : (sumTo n fun i => if t.getD x 0 = 1 ∧ t.getD (flip x i) 0 = 0 then 1 else 0) = sumTo n fun _ => 0 := sumTo_congr fun i _ => if_neg fun k => h k.1
    rw [this, sumTo_zero]
theorem sif_no {c : E} {a : BA.St} {C : Calls} {ρ : Rho} (h : c C ρ = pur (.bool false)) : sIf c a sNil C ρ = pur (.next ρ) := by
  rw [r_sif, h]
  rfl
theorem seq_no {c : E} {a b : BA.St} {C : Calls} {ρ : Rho} (h : c C ρ = pur (.bool false)) : sSeq (sIf c a sNil) b C ρ = b C ρ := r_seq _ _ _ _ _ (sif_no h)
theorem len_ds (ds : List BA.D) : prim .len [.list ds] = some (.int (ds.length : Int)) := rfl
end BB

/-! sums by signs, in plain numbers -/
namespace F1
def sm (n : Nat) (f : Nat → Int) : Int := ((List.range n).map f).sum
theorem sm_zero (f : Nat → Int) : sm 0 f = 0 := rfl
theorem sm_succ (n : Nat) (f : Nat → Int) : sm (n + 1) f = sm n f + f n := by
  unfold sm
  rw [List.range_succ, List.map_append, List.sum_append]
  simp
theorem sm_add (m k : Nat) (f : Nat → Int) : sm (m + k) f = sm m f + sm k fun x => f (m + x) := by
  induction k with
  | zero => rw [Nat.add_zero, sm_zero, Int.add_zero]
  | succ k ih => rw [← Nat.add_assoc, sm_succ, ih, sm_succ]; omega
theorem sm_congr {n : Nat} {f g : Nat → Int} (h : ∀ x, x < n → f x = g x) : sm n f = sm n g := by
  induction n with
  | zero => rfl
  | succ n ih => rw [sm_succ, sm_succ, ih fun x hx => h x (by omega), h n (by omega)]
theorem sm_plus (n : Nat) (f g : Nat → Int) : sm n (fun x => f x + g x) = sm n f + sm n g := by
  induction n with
  | zero => rfl
  | succ n ih => rw [sm_succ, sm_succ, sm_succ, ih]; omega
theorem sm_sub (n : Nat) (f g : Nat → Int) : sm n (fun x => f x - g x) = sm n f - sm n g := by
  induction n with
  | zero => rfl
  | succ n ih => rw [sm_succ, sm_succ, sm_succ, ih]; omega
theorem sm_mul (n : Nat) (c : Int) (f : Nat → Int) : sm n (fun x => c * f x) = c * sm n f := by
  induction n with
  | zero => rw [sm_zero, sm_zero, Int.mul_zero]
  | succ n ih => rw [sm_succ, sm_succ, ih, Int.mul_add]
theorem sm_nil (n : Nat) : sm n (fun _ => 0) = 0 := by
  induction n with
  | zero => rfl
  | succ n ih => rw [sm_succ, ih]; rfl
theorem sm_swap (m k : Nat) (f : Nat → Nat → Int) : (sm m fun x => sm k fun i => f x i) = sm k fun i => sm m fun x => f x i := by
  induction m with
  | zero => rw [sm_zero]; exact (sm_nil k).symm
  | succ m ih =>
    rw [sm_succ, ih, ← sm_plus]
    exact sm_congr fun i _ => by rw [sm_succ]
theorem two_pow_succ (n : Nat) : 2 ^ (n + 1) = 2 ^ n + 2 ^ n := by rw [Nat.pow_succ]; omega
theorem sm_two (n : Nat) (f : Nat → Int) : sm (2 ^ (n + 1)) f = sm (2 ^ n) (fun x => f x) + sm (2 ^ n) fun x => f (2 ^ n + x) := by
  rw [two_pow_succ, sm_add]
/-- how many bits both have -/
def dot : Nat → Nat → Nat → Nat
  | 0, _, _ => 0
  | n + 1, s, x => dot n s x + (s / 2 ^ n % 2) * (x / 2 ^ n % 2)
def chi (n s x : Nat) : Int := 1 - 2 * ((dot n s x % 2 : Nat) : Int)
theorem bit_hi (n x : Nat) (h : x < 2 ^ n) : (2 ^ n + x) / 2 ^ n % 2 = 1 := by
  rw [Nat.add_div_left _ (Nat.two_pow_pos n), Nat.div_eq_of_lt h]
theorem bit_lo (n x : Nat) (h : x < 2 ^ n) : x / 2 ^ n % 2 = 0 := by
  rw [Nat.div_eq_of_lt h]
theorem bit_up (n i x : Nat) (h : i < n) : (2 ^ n + x) / 2 ^ i % 2 = x / 2 ^ i % 2 := by
  have ed : 2 ^ n = 2 ^ i * (2 * 2 ^ (n - i - 1)) := by
    rw [← Nat.pow_succ', ← Nat.pow_add]
    congr 1
    omega
  rw [ed, Nat.mul_add_div (Nat.two_pow_pos i)]
  omega
theorem dot_upx (m n s x : Nat) (h : m ≤ n) : dot m s (2 ^ n + x) = dot m s x := by
  induction m with
  | zero => rfl
  | succ m ih => rw [dot, dot, ih (by omega), bit_up n m x (by omega)]
theorem dot_ups (m n s x : Nat) (h : m ≤ n) : dot m (2 ^ n + s) x = dot m s x := by
  induction m with
  | zero => rfl
  | succ m ih => rw [dot, dot, ih (by omega), bit_up n m s (by omega)]
theorem chi_ll (n s x : Nat) (hs : s < 2 ^ n) (hx : x < 2 ^ n) : chi (n + 1) s x = chi n s x := by
  unfold chi
  rw [dot, bit_lo n s hs, Nat.zero_mul, Nat.add_zero]
theorem chi_lh (n s x : Nat) (hs : s < 2 ^ n) : chi (n + 1) s (2 ^ n + x) = chi n s x := by
  unfold chi
  rw [dot, bit_lo n s hs, Nat.zero_mul, Nat.add_zero, dot_upx n n s x (Nat.le_refl n)]
theorem chi_hl (n s x : Nat) (hx : x < 2 ^ n) : chi (n + 1) (2 ^ n + s) x = chi n s x := by
  unfold chi
  rw [dot, bit_lo n x hx, Nat.mul_zero, Nat.add_zero, dot_ups n n s x (Nat.le_refl n)]
theorem chi_hh (n s x : Nat) (hs : s < 2 ^ n) (hx : x < 2 ^ n) : chi (n + 1) (2 ^ n + s) (2 ^ n + x) = - chi n s x := by
  unfold chi
  rw [dot, bit_hi n x hx, bit_hi n s hs, dot_upx n n _ x (Nat.le_refl n), dot_ups n n s x (Nat.le_refl n)]
  omega
def hat (n : Nat) (g : Nat → Int) (s : Nat) : Int := sm (2 ^ n) fun x => g x * chi n s x
def hi (n : Nat) (g : Nat → Int) : Nat → Int := fun x => g (2 ^ n + x)
theorem hat_l (n : Nat) (g : Nat → Int) (s : Nat) (hs : s < 2 ^ n) : hat (n + 1) g s = hat n g s + hat n (hi n g) s := by
  unfold hat
  rw [sm_two]
  congr 1
  · exact sm_congr fun x hx => by rw [chi_ll n s x hs hx]
  · exact sm_congr fun x hx => by rw [chi_lh n s x hs]; rfl
theorem hat_h (n : Nat) (g : Nat → Int) (s : Nat) (hs : s < 2 ^ n) : hat (n + 1) g (2 ^ n + s) = hat n g s - hat n (hi n g) s := by
  unfold hat
  rw [sm_two, Int.sub_eq_add_neg]
  congr 1
  · exact sm_congr fun x hx => by rw [chi_hl n s x hx]
  · rw [← Int.neg_one_mul, ← sm_mul]
    exact sm_congr fun x hx => by
      rw [chi_hh n s x hs hx]
      unfold hi
      grind
/-- squares of sums -/
theorem parseval : ∀ (n : Nat) (g : Nat → Int), (sm (2 ^ n) fun s => hat n g s * hat n g s) = 2 ^ n * sm (2 ^ n) fun x => g x * g x
  | 0, g => by
    have e : hat 0 g 0 = g 0 := by
      show (List.map (fun x => g x * chi 0 0 x) [0]).sum = g 0
      simp [chi, dot]
    show (List.map (fun s => hat 0 g s * hat 0 g s) [0]).sum = 2 ^ 0 * (List.map (fun x => g x * g x) [0]).sum
    simp [e]
  | n + 1, g => by
    rw [sm_two, ← sm_plus, sm_congr (g := fun s => 2 * (hat n g s * hat n g s + hat n (hi n g) s * hat n (hi n g) s)) fun s hs => by
      rw [hat_l n g s hs, hat_h n g s hs]
      grind]
    rw [sm_mul, sm_plus, parseval n g, parseval n (hi n g), sm_two n fun x => g x * g x]
    rw [Int.pow_succ]
    show 2 * (2 ^ n * sm (2 ^ n) (fun x => g x * g x) + 2 ^ n * sm (2 ^ n) fun x => hi n g x * hi n g x) = 2 ^ n * 2 * (sm (2 ^ n) (fun x => g x * g x) + sm (2 ^ n) fun x => hi n g x * hi n g x)
    grind
/-- sums of sums -/
theorem back : ∀ (n : Nat) (g : Nat → Int) (x : Nat), x < 2 ^ n → (sm (2 ^ n) fun s => hat n g s * chi n s x) = 2 ^ n * g x
  | 0, g, x, hx => by
    have hx : x = 0 := by simpa using hx
    subst hx
    have e : hat 0 g 0 = g 0 := by
      show (List.map (fun x => g x * chi 0 0 x) [0]).sum = g 0
      simp [chi, dot]
    show (List.map (fun s => hat 0 g s * chi 0 s 0) [0]).sum = 2 ^ 0 * g 0
    simp [e, chi, dot]
  | n + 1, g, x, hx => by
    rw [sm_two, ← sm_plus]
    by_cases h : x < 2 ^ n
    · rw [sm_congr (g := fun s => 2 * (hat n g s * chi n s x)) fun s hs => by
        rw [hat_l n g s hs, hat_h n g s hs, chi_ll n s x hs h, chi_hl n s x h]
        grind]
      rw [sm_mul, back n g x h, Int.pow_succ]
      grind
    · have hx2 : x - 2 ^ n < 2 ^ n := by rw [two_pow_succ] at hx; omega
      have e : x = 2 ^ n + (x - 2 ^ n) := by omega
      rw [e]
      generalize x - 2 ^ n = y at hx2
      rw [sm_congr (g := fun s => 2 * (hat n (hi n g) s * chi n s y)) fun s hs => by
        rw [hat_l n g s hs, hat_h n g s hs, chi_lh n s y hs, chi_hh n s y hs hx2]
        grind]
      rw [sm_mul, back n (hi n g) y hx2, Int.pow_succ]
      unfold hi
      grind
/-- the change at one bit -/
def chg (n : Nat) (g : Nat → Int) (i : Nat) : Int := sm (2 ^ n) fun x => if x / 2 ^ i % 2 = 0 then (g x - g (x + 2 ^ i)) * (g x - g (x + 2 ^ i)) else 0
theorem hat_sub (n : Nat) (g h : Nat → Int) (s : Nat) : hat n (fun x => g x - h x) s = hat n g s - hat n h s := by
  unfold hat
  rw [← sm_sub]
  exact sm_congr fun x _ => by grind
theorem infl : ∀ (n : Nat) (g : Nat → Int) (i : Nat), i < n → 2 * (sm (2 ^ n) fun s => if s / 2 ^ i % 2 = 1 then hat n g s * hat n g s else 0) = 2 ^ n * chg n g i
  | 0, g, i, h => absurd h (Nat.not_lt_zero _)
  | n + 1, g, i, h => by
    unfold chg
    rw [sm_two, sm_two]
    by_cases hi' : i = n
    · subst hi'
      have a1 : (sm (2 ^ i) fun s => if s / 2 ^ i % 2 = 1 then hat (i + 1) g s * hat (i + 1) g s else 0) = sm (2 ^ i) fun _ => 0 := sm_congr fun s hs => by
        rw [bit_lo i s hs, if_neg (by decide)]
      have a2 : (sm (2 ^ i) fun s => if (2 ^ i + s) / 2 ^ i % 2 = 1 then hat (i + 1) g (2 ^ i + s) * hat (i + 1) g (2 ^ i + s) else 0) = sm (2 ^ i) fun s => hat i (fun x => g x - hi i g x) s * hat i (fun x => g x - hi i g x) s := sm_congr fun s hs => by
        rw [bit_hi i s hs, if_pos rfl, hat_h i g s hs, hat_sub]
      have b1 : (sm (2 ^ i) fun x => if x / 2 ^ i % 2 = 0 then (g x - g (x + 2 ^ i)) * (g x - g (x + 2 ^ i)) else 0) = sm (2 ^ i) fun x => (g x - hi i g x) * (g x - hi i g x) := sm_congr fun x hx => by
        rw [bit_lo i x hx, if_pos rfl, Nat.add_comm x]
        rfl
      have b2 : (sm (2 ^ i) fun x => if (2 ^ i + x) / 2 ^ i % 2 = 0 then (g (2 ^ i + x) - g (2 ^ i + x + 2 ^ i)) * (g (2 ^ i + x) - g (2 ^ i + x + 2 ^ i)) else 0) = sm (2 ^ i) fun _ => 0 := sm_congr fun x hx => by
        rw [bit_hi i x hx, if_neg (by decide)]
      rw [a1, a2, b1, b2, sm_nil, parseval, Int.pow_succ]
      grind
    · have hin : i < n := by omega
      have e : (sm (2 ^ n) (fun s => if s / 2 ^ i % 2 = 1 then hat (n + 1) g s * hat (n + 1) g s else 0) + sm (2 ^ n) fun s => if (2 ^ n + s) / 2 ^ i % 2 = 1 then hat (n + 1) g (2 ^ n + s) * hat (n + 1) g (2 ^ n + s) else 0) = sm (2 ^ n) fun s => 2 * (if s / 2 ^ i % 2 = 1 then hat n g s * hat n g s else 0) + 2 * (if s / 2 ^ i % 2 = 1 then hat n (hi n g) s * hat n (hi n g) s else 0) := by
        rw [← sm_plus]
        exact sm_congr fun s hs => by
          rw [bit_up n i s hin, hat_l n g s hs, hat_h n g s hs]
          by_cases hb : s / 2 ^ i % 2 = 1
          · rw [if_pos hb, if_pos hb, if_pos hb, if_pos hb]
            grind
          · rw [if_neg hb, if_neg hb, if_neg hb, if_neg hb]
            rfl
      have b2 : (sm (2 ^ n) fun x => if (2 ^ n + x) / 2 ^ i % 2 = 0 then (g (2 ^ n + x) - g (2 ^ n + x + 2 ^ i)) * (g (2 ^ n + x) - g (2 ^ n + x + 2 ^ i)) else 0) = chg n (hi n g) i := sm_congr fun x hx => by
        rw [bit_up n i x hin, Nat.add_assoc]
        rfl
      rw [e, sm_plus, sm_mul, sm_mul, b2]
      have i1 := infl n g i hin
      have i2 := infl n (hi n g) i hin
      rw [i1, i2, Int.pow_succ]
      show 2 * (2 ^ n * chg n g i + 2 ^ n * chg n (hi n g) i) = 2 ^ n * 2 * (chg n g i + chg n (hi n g) i)
      grind
end F1

/-! BB2: values against themselves; sums; walks with plain bodies -/
namespace BB
open PySem BA
open Z46 (sumTo sumTo_succ sumTo_add sumTo_congr sumTo_plus sum_pairs)
mutual
theorem lay_rok : ∀ d : BA.D, rok d = true → d.canLay0 = true ∧ PyData.eqv d d = true
  | .none, _ => ⟨rfl, by simp [PyData.eqv]⟩
  | .bool b, _ => ⟨rfl, by simp [PyData.eqv]⟩
  | .int i, _ => ⟨rfl, by simp [PyData.eqv]⟩
  | .str x, h => by
    simp only [rok] at h
    exact ⟨by simp only [PyData.canLay0, h], by simp [PyData.eqv]⟩
  | .list xs, h => by
    simp only [rok] at h
    simp only [PyData.canLay0, PyData.eqv]
    exact lay_roks xs h
  | .tuple xs, h => by
    simp only [rok] at h
    simp only [PyData.canLay0, PyData.eqv]
    exact lay_roks xs h
  | .dict _, h => by simp [rok] at h
theorem lay_roks : ∀ ds : List BA.D, rokA ds = true → PyData.canLayAll0 ds = true ∧ PyData.eqvAll ds ds = true
  | [], _ => ⟨rfl, by simp [PyData.eqvAll]⟩
  | d :: r, h => by
    simp only [rokA, Bool.and_eq_true] at h
    obtain ⟨a, b⟩ := lay_rok d h.1
    obtain ⟨a2, b2⟩ := lay_roks r h.2
    simp only [PyData.canLayAll0, PyData.eqvAll, a, b, a2, b2, Bool.and_self, true_and]
end
theorem rep_parts {d : BA.D} (h : repOk d = true) : rok d = true ∧ d.depth ≤ 64 := by
  unfold repOk at h
  simp only [Bool.and_eq_true, decide_eq_true_eq] at h
  exact h.1
theorem eqD_self {d : BA.D} (h : repOk d = true) : eqD d d = some true := by
  obtain ⟨h1, h2⟩ := rep_parts h
  obtain ⟨a, b⟩ := lay_rok d h1
  have hs : SeqAt.shaped d = true := by
    unfold SeqAt.shaped
    rw [a, decide_eq_true h2]
    rfl
  unfold eqD
  split
  · rw [decide_eq_true rfl]
  · rw [decide_eq_true rfl]
  · rw [hs, b]
    rfl
theorem ne_self {d : BA.D} (h : repOk d = true) : cmpF .NotEq d d = some false := by
  show (eqD d d).map (! ·) = some false
  rw [eqD_self h]
  rfl
theorem cmpeq_self {d : BA.D} (h : repOk d = true) : cmpF .Eq d d = some true := eqD_self h
theorem Sm_lst {ds : List BA.D} {k m : Nat} (h : ∀ d ∈ ds, Sm d k m) : Sm (.list ds) (k + 1) (2 + ds.length * (m + 2)) := by
  obtain ⟨a, b, c⟩ := Sms ds h
  refine ⟨by simp only [rok, a], ?_, ?_⟩
  · simp only [PyData.depth]
    omega
  · simp only [wt]
    omega
theorem intsD_int : ∀ ns : List Int, intsD (ns.map PyData.int) = some ns
  | [] => rfl
  | n :: r => by
    simp only [List.map_cons, intsD, asI]
    rw [intsD_int r]
    rfl
theorem sum_int (ns : List Int) : prim .sum [.list (ns.map PyData.int)] = some (.int ns.sum) := by
  show ofInts (.list (ns.map PyData.int)) (fun ns => some (.int ns.sum)) = _
  unfold ofInts
  simp only [seqD, intsD_int]
theorem pur_of_post {α : Type} {x : M α} {v : α} (h : ∀ s, post x (fun a s' => a = v ∧ s' = s) s) : x = pur v := by
  funext s
  have := h s
  unfold post at this
  cases e : x s with
  | ok a s' =>
    rw [e] at this
    obtain ⟨rfl, rfl⟩ := this
    rfl
  | bad => rw [e] at this; exact this.elim
/-- a for loop whose body computes plainly -/
theorem forM_run {α : Type} {g : G} {bd : Rho → M Fl} (e : α → BA.D) (I : List α → Rho → Prop) : ∀ (L pre : List α) (ρ : Rho), I pre ρ →
    (∀ pre a ρ, a ∈ L → I pre ρ → ∃ ρ1, g (e a) ρ = some ρ1 ∧ ∃ ρ2, bd ρ1 = pur (.next ρ2) ∧ I (pre ++ [a]) ρ2) →
    ∃ ρ', forM g bd (L.map e) ρ = pur (.next ρ') ∧ I (pre ++ L) ρ'
  | [], pre, ρ, h, _ => ⟨ρ, rfl, by rw [List.append_nil]; exact h⟩
  | a :: r, pre, ρ, h, step => by
    obtain ⟨ρ1, e1, ρ2, e2, i2⟩ := step pre a ρ List.mem_cons_self h
    obtain ⟨ρ', e3, i3⟩ := forM_run e I r (pre ++ [a]) ρ2 i2 fun pre b ρ hb i => step pre b ρ (List.mem_cons_of_mem _ hb) i
    refine ⟨ρ', ?_, by rw [List.append_assoc] at i3; exact i3⟩
    rw [List.map_cons]
    unfold BA.forM
    rw [e1, opt_some, bnd_pur, e2, bnd_pur]
    exact e3
theorem numbered_map (ds : List BA.D) (k : Nat) : numbered (k : Int) ds = (List.range ds.length).map fun x => .tuple [.int ((k + x : Nat) : Int), ds.getD x .none] := by
  induction ds generalizing k with
  | nil => rfl
  | cons d r ih =>
    rw [List.length_cons, List.range_succ_eq_map, List.map_cons, List.map_map]
    unfold BA.numbered
    rw [show (k : Int) + 1 = ((k + 1 : Nat) : Int) by omega, ih (k + 1)]
    congr 1
    apply List.map_congr_left
    intro x _
    simp only [Function.comp]
    rw [show k + 1 + x = k + (x + 1) by omega]
    rfl
theorem numbered_tab (t : List Int) : numbered 0 (t.map PyData.int) = (List.range t.length).map fun x => .tuple [.int (x : Int), .int (t.getD x 0)] := by
  rw [show (0 : Int) = ((0 : Nat) : Int) from rfl, numbered_map, List.length_map]
  apply List.map_congr_left
  intro x hx
  have hx := List.mem_range.mp hx
  rw [Nat.zero_add]
  simp [List.getD, List.getElem?_map, List.getElem?_eq_getElem hx]
theorem paired_map {α : Type} (f g : α → BA.D) : ∀ L : List α, paired (L.map f) (L.map g) = L.map fun a => .tuple [f a, g a]
  | [] => rfl
  | a :: r => by
    rw [List.map_cons, List.map_cons, List.map_cons]
    unfold paired
    rw [paired_map f g r]
/-! ### lots of bits -/
open F1 (sm hat chi dot)
def lotL (n c : Nat) : List Nat := (List.range n).filter fun i => c / 2 ^ i % 2 == 1
def LT (n c : Nat) : BA.D := .tuple ((lotL n c).map fun (i : Nat) => .int (i : Int))
theorem lotL_succ (n c : Nat) : lotL (n + 1) c = lotL n c ++ if c / 2 ^ n % 2 = 1 then [n] else [] := by
  unfold lotL
  rw [List.range_succ, List.filter_append]
  congr 1
  simp only [List.filter_cons, List.filter_nil]
  by_cases h : c / 2 ^ n % 2 = 1
  · rw [if_pos h, if_pos (by simpa using h)]
  · rw [if_neg h, if_neg (by simpa using h)]
theorem lotL_lt {n c i : Nat} (h : i ∈ lotL n c) : i < n ∧ c / 2 ^ i % 2 = 1 := by
  unfold lotL at h
  rw [List.mem_filter] at h
  exact ⟨List.mem_range.mp h.1, by simpa using h.2⟩
theorem lotL_dot (n c x : Nat) : ((lotL n c).map fun i => x / 2 ^ i % 2).sum = dot n c x := by
  induction n with
  | zero => rfl
  | succ n ih =>
    rw [lotL_succ, List.map_append, List.sum_append, ih, dot]
    congr 1
    have h : c / 2 ^ n % 2 = 0 ∨ c / 2 ^ n % 2 = 1 := by omega
    rcases h with h | h
    · rw [if_neg (by omega), h, Nat.zero_mul]
      rfl
    · rw [if_pos h, h, Nat.one_mul]
      simp
theorem hasInt_lot (i : Nat) : ∀ L : List Nat, hasInt (i : Int) (L.map fun (i : Nat) => PyData.int (i : Int)) = decide (i ∈ L)
  | [] => by simp [hasInt]
  | j :: r => by
    rw [List.map_cons]
    unfold hasInt
    rw [hasInt_lot i r]
    by_cases h : j = i
    · subst h
      simp
    · have h2 : ¬ ((j : Int) = (i : Int)) := by omega
      have h3 : ¬ i = j := fun e => h e.symm
      simp [h2, h3]
theorem allInt_lot : ∀ L : List Nat, allInt (L.map fun (i : Nat) => PyData.int (i : Int)) = true
  | [] => rfl
  | j :: r => allInt_lot r
theorem in_lot {n c i : Nat} (hi : i < n) : cmpF .In (.int (i : Int)) (LT n c) = some (decide (c / 2 ^ i % 2 = 1)) := by
  show inF (.int (i : Int)) (LT n c) = _
  unfold inF LT
  simp only [allInt_lot, if_true, hasInt_lot]
  congr 1
  rw [Bool.eq_iff_iff, decide_eq_true_iff, decide_eq_true_iff]
  exact ⟨fun h => (lotL_lt h).2, fun h => by
    unfold lotL
    rw [List.mem_filter]
    exact ⟨List.mem_range.mpr hi, by simpa using h⟩⟩
def gs (t : List Int) (x : Nat) : Int := 1 - 2 * t.getD x 0
theorem chi_pm (n c x : Nat) : chi n c x = 1 ∨ chi n c x = -1 := by
  unfold chi
  have h : dot n c x % 2 = 0 ∨ dot n c x % 2 = 1 := by omega
  rcases h with h | h <;> rw [h]
  · exact .inl rfl
  · exact .inr rfl
theorem sm_bound (n : Nat) (f : Nat → Int) (h : ∀ x, x < n → -1 ≤ f x ∧ f x ≤ 1) : -(n : Int) ≤ sm n f ∧ sm n f ≤ n := by
  induction n with
  | zero => exact ⟨Int.le_refl _, Int.le_refl _⟩
  | succ n ih =>
    have a := ih fun x hx => h x (by omega)
    have b := h n (by omega)
    rw [F1.sm_succ]
    omega
theorem getD_01 {n x : Nat} {t : List Int} (ht : t.length = 2 ^ n) (hb : ∀ x ∈ t, x = 0 ∨ x = 1) (hx : x < 2 ^ n) : t.getD x 0 = 0 ∨ t.getD x 0 = 1 := by
  have e : t.getD x 0 = t[x]'(by rw [ht]; exact hx) := by simp [List.getD, List.getElem?_eq_getElem (show x < t.length by rw [ht]; exact hx)]
  rw [e]
  exact hb _ (List.getElem_mem _)
theorem hat_bound {n : Nat} {t : List Int} (ht : t.length = 2 ^ n) (hb : ∀ x ∈ t, x = 0 ∨ x = 1) (c : Nat) : -((2 ^ n : Nat) : Int) ≤ hat n (gs t) c ∧ hat n (gs t) c ≤ ((2 ^ n : Nat) : Int) := sm_bound (2 ^ n) _ fun x hx => by
  unfold gs
  rcases getD_01 ht hb hx with h | h <;> rcases chi_pm n c x with k | k <;> rw [h, k] <;> decide
theorem small_of {a : Int} (h1 : -1000000 ≤ a) (h2 : a ≤ 1000000) : small64 a = true := by
  exact small64_of (by omega) (by omega)
theorem sm_list (n : Nat) (f : Nat → Int) : ((List.range n).map f).sum = sm n f := rfl
/-- the squares of all sums -/
theorem squares {n : Nat} {t : List Int} (ht : t.length = 2 ^ n) (hb : ∀ x ∈ t, x = 0 ∨ x = 1) : (sm (2 ^ n) fun c => hat n (gs t) c * hat n (gs t) c) = 2 ^ (2 * n) := by
  rw [F1.parseval]
  have e : (sm (2 ^ n) fun x => gs t x * gs t x) = sm (2 ^ n) fun _ => 1 := F1.sm_congr fun x hx => by
    unfold gs
    rcases getD_01 ht hb hx with h | h <;> rw [h] <;> rfl
  have o : ∀ m : Nat, (sm m fun _ => 1) = (m : Int) := fun m => by
    induction m with
    | zero => rfl
    | succ m ih => rw [F1.sm_succ, ih]; omega
  rw [e, o, show 2 * n = n + n by omega, Int.pow_add, pow_cast]
theorem sm_nat (n : Nat) (f : Nat → Nat) : (sm n fun x => ((f x : Nat) : Int)) = ((sumTo n f : Nat) : Int) := by
  induction n with
  | zero => rfl
  | succ n ih => rw [F1.sm_succ, ih, sumTo_succ]; omega
theorem chg_many {n i : Nat} {t : List Int} (ht : t.length = 2 ^ n) (hb : ∀ x ∈ t, x = 0 ∨ x = 1) (hi : i < n) : F1.chg n (gs t) i = 4 * (many n t i : Int) := by
  have e : many n t i = sumTo (2 ^ n) fun x => if unlike t i x = true then 1 else 0 := by
    unfold many pairsL
    rw [len_fm]
  rw [e, ← sm_nat, ← F1.sm_mul]
  unfold F1.chg
  refine F1.sm_congr fun x hx => ?_
  by_cases h : x / 2 ^ i % 2 = 0
  · rw [if_pos h]
    unfold unlike gs
    rw [h]
    rcases getD_01 ht hb hx with a | a <;> rcases getD_01 ht hb (up_lt hx hi h) with b | b <;> rw [a, b] <;> decide
  · rw [if_neg h]
    unfold unlike
    rw [show (x / 2 ^ i % 2 == 0) = false by simpa using h]
    rfl
/-- the squares of the sums of lots with bit i -/
theorem squares_at {n i : Nat} {t : List Int} (ht : t.length = 2 ^ n) (hb : ∀ x ∈ t, x = 0 ∨ x = 1) (hi : i < n) : (sm (2 ^ n) fun c => if c / 2 ^ i % 2 = 1 then hat n (gs t) c * hat n (gs t) c else 0) = ((2 ^ (n + 1) * many n t i : Nat) : Int) := by
  have h := F1.infl n (gs t) i hi
  rw [chg_many ht hb hi] at h
  rw [Int.natCast_mul, ← pow_cast, Int.pow_succ]
  grind
theorem len_sm (n c : Nat) : ((lotL n c).length : Int) = sm n fun i => if c / 2 ^ i % 2 = 1 then 1 else 0 := by
  induction n with
  | zero => rfl
  | succ n ih =>
    rw [lotL_succ, List.length_append, F1.sm_succ, Int.natCast_add, ih]
    congr 1
    by_cases h : c / 2 ^ n % 2 = 1
    · rw [if_pos h, if_pos h]; rfl
    · rw [if_neg h, if_neg h]; rfl
theorem squares_all {n : Nat} {t : List Int} (ht : t.length = 2 ^ n) (hb : ∀ x ∈ t, x = 0 ∨ x = 1) : (sm (2 ^ n) fun c => ((lotL n c).length : Int) * hat n (gs t) c * hat n (gs t) c) = ((2 ^ (n + 1) * whole n t : Nat) : Int) := by
  have e : (sm (2 ^ n) fun c => ((lotL n c).length : Int) * hat n (gs t) c * hat n (gs t) c) = sm (2 ^ n) fun c => sm n fun i => if c / 2 ^ i % 2 = 1 then hat n (gs t) c * hat n (gs t) c else 0 := F1.sm_congr fun c _ => by
    rw [len_sm, Int.mul_assoc, Int.mul_comm, ← F1.sm_mul]
    exact F1.sm_congr fun i _ => by
      by_cases h : c / 2 ^ i % 2 = 1
      · rw [if_pos h, if_pos h, Int.mul_one]
      · rw [if_neg h, if_neg h, Int.mul_zero]
  rw [e, F1.sm_swap, F1.sm_congr fun i hi => squares_at ht hb hi, sm_nat]
  have w : whole n t = sumTo n fun i => many n t i := rfl
  rw [w]
  congr 1
  generalize 2 ^ (n + 1) = k
  clear w e hb ht
  generalize n = m at *
  have go : ∀ j : Nat, (sumTo j fun i => k * many m t i) = k * sumTo j fun i => many m t i := fun j => by
    induction j with
    | zero => rfl
    | succ j ih => rw [sumTo_succ, sumTo_succ, ih, Nat.mul_add]
  exact go m
theorem cut_mul (k a b : Nat) (hk : 0 < k) (hb : 0 < b) : cutP (k * a) (k * b) = cutP a b := by
  unfold cutP
  have h2 : 0 < k * b := Nat.mul_pos hk hb
  rw [gg1_pos' h2, gg1_pos' hb, Nat.gcd_mul_left, Nat.mul_div_mul_left _ _ hk, Nat.mul_div_mul_left _ _ hk]
theorem cut_pow {n : Nat} (hn1 : 1 ≤ n) (a : Nat) : cutP (2 ^ (n + 1) * a) (2 ^ (2 * n)) = cutP a (2 ^ (n - 1)) := by
  have e : 2 ^ (2 * n) = 2 ^ (n + 1) * 2 ^ (n - 1) := by
    rw [← Nat.pow_add]
    congr 1
    omega
  rw [e, cut_mul _ _ _ (Nat.two_pow_pos _) (Nat.two_pow_pos _)]
end BB

/-! the quick way of the sums by signs; words by their bits -/
namespace F1
/-- partial sums: the first j bits done -/
def wp (g : Nat → Int) : Nat → Nat → Int
  | 0, x => g x
  | j + 1, x => if x / 2 ^ j % 2 = 0 then wp g j x + wp g j (x + 2 ^ j) else wp g j (x - 2 ^ j) - wp g j x
theorem wp_hat (g : Nat → Int) : ∀ (j q r : Nat), r < 2 ^ j → wp g j (2 ^ j * q + r) = hat j (fun y => g (2 ^ j * q + y)) r
  | 0, q, r, h => by
    have hr : r = 0 := by simpa using h
    subst hr
    show g (2 ^ 0 * q + 0) = (List.map (fun x => g (2 ^ 0 * q + x) * chi 0 0 x) [0]).sum
    simp [chi, dot]
  | j + 1, q, r, h => by
    have e2 : 2 ^ (j + 1) * q = 2 ^ j * (2 * q) := by rw [Nat.pow_succ, Nat.mul_assoc]
    have e3 : 2 ^ (j + 1) * q + 2 ^ j = 2 ^ j * (2 * q + 1) := by rw [e2, Nat.mul_add, Nat.mul_one]
    by_cases hr : r < 2 ^ j
    · have hb : (2 ^ (j + 1) * q + r) / 2 ^ j % 2 = 0 := by
        rw [e2, Nat.mul_add_div (Nat.two_pow_pos j), Nat.div_eq_of_lt hr]
        omega
      rw [wp, if_pos hb, hat_l j _ r hr]
      have a := wp_hat g j (2 * q) r hr
      have b := wp_hat g j (2 * q + 1) r hr
      rw [← e2] at a
      rw [← e3] at b
      rw [a, show 2 ^ (j + 1) * q + r + 2 ^ j = 2 ^ (j + 1) * q + 2 ^ j + r by omega, b]
      congr 1
      unfold hi
      congr 1
      funext y
      rw [Nat.add_assoc]
    · have hr2 : r - 2 ^ j < 2 ^ j := by rw [two_pow_succ] at h; omega
      have er : r = 2 ^ j + (r - 2 ^ j) := by omega
      generalize hk : r - 2 ^ j = k at hr2 er
      subst er
      have hb : (2 ^ (j + 1) * q + (2 ^ j + k)) / 2 ^ j % 2 = 1 := by
        rw [show 2 ^ (j + 1) * q + (2 ^ j + k) = 2 ^ (j + 1) * q + 2 ^ j + k by omega, e3, Nat.mul_add_div (Nat.two_pow_pos j), Nat.div_eq_of_lt hr2]
        omega
      rw [wp, if_neg (by omega), hat_h j _ k hr2]
      have a := wp_hat g j (2 * q) k hr2
      have b := wp_hat g j (2 * q + 1) k hr2
      rw [← e2] at a
      rw [← e3] at b
      rw [show 2 ^ (j + 1) * q + (2 ^ j + k) - 2 ^ j = 2 ^ (j + 1) * q + k by omega, a, show 2 ^ (j + 1) * q + (2 ^ j + k) = 2 ^ (j + 1) * q + 2 ^ j + k by omega, b]
      congr 1
      unfold hi
      congr 1
      funext y
      rw [Nat.add_assoc]
theorem wp_all (g : Nat → Int) (n s : Nat) (h : s < 2 ^ n) : wp g n s = hat n g s := by
  have := wp_hat g n 0 s h
  rw [Nat.mul_zero, Nat.zero_add] at this
  rw [this]
  congr 1
  funext y
  rw [Nat.zero_add]
/-- a word by its bits -/
def word : Nat → (Nat → Bool) → Nat
  | 0, _ => 0
  | k + 1, c => word k c + if c k then 2 ^ k else 0
theorem word_lt : ∀ (k : Nat) (c : Nat → Bool), word k c < 2 ^ k
  | 0, _ => Nat.zero_lt_one
  | k + 1, c => by
    have := word_lt k c
    rw [word, two_pow_succ]
    split <;> omega
theorem word_bit : ∀ (k j : Nat) (c : Nat → Bool), j < k → word k c / 2 ^ j % 2 = if c j then 1 else 0
  | 0, j, _, h => absurd h (Nat.not_lt_zero _)
  | k + 1, j, c, h => by
    rw [word]
    have hw := word_lt k c
    by_cases hj : j = k
    · subst hj
      by_cases hc : c j = true
      · rw [if_pos hc, if_pos hc, Nat.add_comm, bit_hi j _ hw]
      · rw [if_neg hc, if_neg hc, Nat.add_zero, bit_lo j _ hw]
    · have hjk : j < k := by omega
      by_cases hc : c k = true
      · rw [if_pos hc, Nat.add_comm, bit_up k j _ hjk, word_bit k j c hjk]
      · rw [if_neg hc, Nat.add_zero, word_bit k j c hjk]
theorem dot_le : ∀ (k n s x : Nat), s < 2 ^ n → n ≤ k → dot k s x = dot n s x
  | 0, n, s, x, _, h => by
    have : n = 0 := by omega
    subst this
    rfl
  | k + 1, n, s, x, hs, h => by
    by_cases hn : n = k + 1
    · subst hn; rfl
    · have : s < 2 ^ k := Nat.lt_of_lt_of_le hs (Nat.pow_le_pow_right (by decide) (by omega))
      rw [dot, bit_lo k s this, Nat.zero_mul, Nat.add_zero, dot_le k n s x hs (by omega)]
theorem chi_le {k n s x : Nat} (hs : s < 2 ^ n) (h : n ≤ k) : chi k s x = chi n s x := by
  unfold chi
  rw [dot_le k n s x hs h]
theorem dot_and : ∀ (k z s x : Nat), (∀ i, i < k → z / 2 ^ i % 2 = (s / 2 ^ i % 2) * (x / 2 ^ i % 2)) → dot k z z = dot k s x
  | 0, _, _, _, _ => rfl
  | k + 1, z, s, x, h => by
    rw [dot, dot, dot_and k z s x fun i hi => h i (by omega), ← h k (by omega)]
    have : z / 2 ^ k % 2 = 0 ∨ z / 2 ^ k % 2 = 1 := by omega
    rcases this with e | e <;> rw [e]
theorem dot_xor : ∀ (k z s t x : Nat), (∀ i, i < k → z / 2 ^ i % 2 = (s / 2 ^ i % 2 + t / 2 ^ i % 2) % 2) → dot k z x % 2 = (dot k s x + dot k t x) % 2
  | 0, _, _, _, _, _ => rfl
  | k + 1, z, s, t, x, h => by
    have ih := dot_xor k z s t x fun i hi => h i (by omega)
    rw [dot, dot, dot, h k (by omega)]
    have a : s / 2 ^ k % 2 = 0 ∨ s / 2 ^ k % 2 = 1 := by omega
    have b : t / 2 ^ k % 2 = 0 ∨ t / 2 ^ k % 2 = 1 := by omega
    have c : x / 2 ^ k % 2 = 0 ∨ x / 2 ^ k % 2 = 1 := by omega
    rcases a with a | a <;> rcases b with b | b <;> rcases c with c | c <;> rw [a, b, c] <;> omega
theorem chi_mul {k z s t x : Nat} (h : ∀ i, i < k → z / 2 ^ i % 2 = (s / 2 ^ i % 2 + t / 2 ^ i % 2) % 2) : chi k s x * chi k t x = chi k z x := by
  unfold chi
  rw [dot_xor k z s t x h]
  have a : dot k s x % 2 = 0 ∨ dot k s x % 2 = 1 := by omega
  have b : dot k t x % 2 = 0 ∨ dot k t x % 2 = 1 := by omega
  rw [Nat.add_mod]
  rcases a with a | a <;> rcases b with b | b <;> rw [a, b] <;> decide
theorem dot_comm : ∀ (k s x : Nat), dot k s x = dot k x s
  | 0, _, _ => rfl
  | k + 1, s, x => by rw [dot, dot, dot_comm k s x, Nat.mul_comm]
/-- the sum of a sign over all inputs -/
theorem chi_sum : ∀ (n s : Nat), s < 2 ^ n → (sm (2 ^ n) fun x => chi n s x) = if s = 0 then 2 ^ n else 0
  | 0, s, h => by
    have hs : s = 0 := by simpa using h
    subst hs
    rfl
  | n + 1, s, h => by
    rw [sm_two]
    by_cases hs : s < 2 ^ n
    · rw [sm_congr fun x hx => chi_ll n s x hs hx, sm_congr (f := fun x => chi (n + 1) s (2 ^ n + x)) fun x hx => chi_lh n s x hs, chi_sum n s hs]
      by_cases h0 : s = 0
      · rw [if_pos h0, if_pos h0, Int.pow_succ]
        omega
      · rw [if_neg h0, if_neg h0]
        rfl
    · have hs2 : s - 2 ^ n < 2 ^ n := by rw [two_pow_succ] at h; omega
      have e : s = 2 ^ n + (s - 2 ^ n) := by omega
      rw [e]
      generalize s - 2 ^ n = k at hs2
      rw [sm_congr fun x hx => chi_hl n k x hx, sm_congr (f := fun x => chi (n + 1) (2 ^ n + k) (2 ^ n + x)) (g := fun x => -1 * chi n k x) fun x hx => by
        rw [chi_hh n k x hs2 hx]
        omega]
      rw [sm_mul, if_neg (by have := Nat.two_pow_pos n; omega)]
      omega
end F1

/-! BB3: the other way of picks -/
namespace BB
open PySem BA
def pickA : BA.St := (sSeq (sWhile (xAnd (xCmp .Gt (xVar 1) (xCon (.int 1))) (xAnd (xCmp .Lt (xSrc 0 (xGet .left)) (xCon (.int 2))) (xCmp .Gt (xSrc 0 xCelLen) (xCon (.int 0))))) (sSrc 0 sPopLeft)) (sSeq (sSet 2 (xSrc 0 (xGet .left))) (sSeq (sIf (xOr (xCmp .Lt (xVar 1) (xCon (.int 2))) (xCmp .Gt (xVar 2) (xCon (.int 1)))) (sSeq (sSrc 0 (sPut .left (xOp .FloorDiv (xVar 2) (xPrim .max (xCons (xCon (.int 1)) (xCons (xVar 1) xNil)))))) (sRet (xOp .Mod (xPrim .int (xCons (xVar 2) xNil)) (xPrim .max (xCons (xCon (.int 1)) (xCons (xVar 1) xNil)))))) sNil) (sSeq (sSrc 0 (sPut .turn (xOp .Add (xSrc 0 (xGet .turn)) (xCon (.int 1))))) (sSeq (sSet 3 (xOp .Mod (xPrim .int (xCons (xOp .Add (xSrc 0 (xGet .mixed)) (xOp .Mult (xSrc 0 (xGet .turn)) (xCon (.int 104729)))) xNil)) (xCon (.int 998244353)))) (sSeq (sSet 3 (xOp .Mod (xPrim .int (xCons (xOp .Add (xOp .Mult (xVar 3) (xVar 3)) (xOp .Mult (xSrc 0 (xGet .turn)) (xCon (.int 17)))) xNil)) (xCon (.int 2147483647)))) (sSeq (sSrc 0 (sPut .mixed (xVar 3))) (sRet (xOp .Mod (xPrim .int (xCons (xOp .FloorDiv (xVar 3) (xCon (.int 16))) xNil)) (xVar 1))))))))))
theorem drainA (C : Calls) (a b : Option BA.D) (c0 : BA.D) (m : Int) : ∀ (n : Nat) (s : Src), s.cells.length < n → SrcOkk s → post (whileM ((xAnd (xCmp .Gt (xVar 1) (xCon (.int 1))) (xAnd (xCmp .Lt (xSrc 0 (xGet .left)) (xCon (.int 2))) (xCmp .Gt (xSrc 0 xCelLen) (xCon (.int 0))))) C) ((sSrc 0 sPopLeft) C) n [some c0, some (.int m), a, b]) (fun f s' => f = .next [some c0, some (.int m), a, b] ∧ SrcOkk s') s
  | 0, s, h, _ => absurd h (Nat.not_lt_zero _)
  | n + 1, s, h, ok => by
    unfold whileM
    simp only [xAnd, xCmp, xSrc, xCon, xVar, bnd_assoc, getV_zero, getV_succ, opt_some, bnd_pur, cmp_gt, asB]
    by_cases h0 : 1 < m
    · rw [decide_eq_true h0, if_pos rfl]
      simp only [bnd_assoc]
      rw [post_get]
      simp only [cmp_lt, opt_some, bnd_pur, asB]
      by_cases h1 : sget .left s < 2
      · rw [decide_eq_true h1, if_pos rfl]
        simp only [bnd_assoc, bnd_pur]
        rw [post_len]
        simp only [cmp_gt, opt_some, bnd_pur, asB]
        by_cases h2 : (0 : Int) < s.cells.length
        · rw [decide_eq_true h2, if_pos rfl]
          simp only [sSrc, getV_zero, getV_succ, opt_some, bnd_pur]
          rw [post_bnd]
          have hlt : s.cells.length - 1 < s.cells.length := by omega
          unfold sPopLeft post
          simp only [List.getElem?_eq_getElem hlt]
          refine drainA C a b c0 m n _ (by show s.cells.dropLast.length < n; rw [List.length_dropLast]; omega) ⟨ok.mixed, ok.turn, ?_, fun x hx => ok.cells x (List.dropLast_subset _ hx), by show s.cells.dropLast.length ≤ _; rw [List.length_dropLast]; have := ok.len; omega⟩
          exact ok.cells _ (List.getElem_mem hlt)
        · rw [decide_eq_false h2, if_neg Bool.false_ne_true]
          exact ⟨rfl, ok⟩
      · rw [decide_eq_false h1, if_neg Bool.false_ne_true]
        simp only [bnd_pur, opt_some, asB]
        rw [if_neg Bool.false_ne_true]
        exact ⟨rfl, ok⟩
    · rw [decide_eq_false h0, if_neg Bool.false_ne_true]
      simp only [bnd_pur, opt_some, asB]
      rw [if_neg Bool.false_ne_true]
      exact ⟨rfl, ok⟩
/-- a run that ends with a value -/
def Ends (Q : BA.D → Src → Prop) (f : Fl) (s : Src) : Prop := ∃ d, f = .ret d ∧ Q d s
theorem seq_ret {a b : BA.St} {C : Calls} {ρ : Rho} {s : Src} {Q : BA.D → Src → Prop} (h : post (a C ρ) (Ends Q) s) : post (sSeq a b C ρ) (Ends Q) s := by
  unfold sSeq
  rw [post_bnd]
  exact post_mono h fun f s' ⟨d, e, q⟩ => by subst e; exact ⟨d, rfl, q⟩
theorem run_ends {d : Def} {C : Calls} {ds : List BA.D} {Q : BA.D → Src → Prop} {s : Src} (hl : ds.length = d.arity) (h : post (d.body C (startD d.slots ds)) (Ends Q) s) : post (runDef d C ds) Q s := by
  unfold runDef
  rw [if_pos hl, post_bnd]
  exact post_mono h fun f s' ⟨v, e, q⟩ => by subst e; exact q
def PQ (m : Int) (d : BA.D) (s : Src) : Prop := PickD m d ∧ SrcOkk s
def pickA1 : BA.St := (sSeq (sSrc 0 (sPut .left (xOp .FloorDiv (xVar 2) (xPrim .max (xCons (xCon (.int 1)) (xCons (xVar 1) xNil)))))) (sRet (xOp .Mod (xPrim .int (xCons (xVar 2) xNil)) (xPrim .max (xCons (xCon (.int 1)) (xCons (xVar 1) xNil))))))
def pickA2 : BA.St := (sSeq (sSrc 0 (sPut .turn (xOp .Add (xSrc 0 (xGet .turn)) (xCon (.int 1))))) (sSeq (sSet 3 (xOp .Mod (xPrim .int (xCons (xOp .Add (xSrc 0 (xGet .mixed)) (xOp .Mult (xSrc 0 (xGet .turn)) (xCon (.int 104729)))) xNil)) (xCon (.int 998244353)))) (sSeq (sSet 3 (xOp .Mod (xPrim .int (xCons (xOp .Add (xOp .Mult (xVar 3) (xVar 3)) (xOp .Mult (xSrc 0 (xGet .turn)) (xCon (.int 17)))) xNil)) (xCon (.int 2147483647)))) (sSeq (sSrc 0 (sPut .mixed (xVar 3))) (sRet (xOp .Mod (xPrim .int (xCons (xOp .FloorDiv (xVar 3) (xCon (.int 16))) xNil)) (xVar 1)))))))
def big (m : Int) : Int := if m > 1 then m else 1
theorem max_run (m : Int) : prim .max [.int 1, .int m] = some (.int (big m)) := rfl
theorem int_run (m : Int) : prim .int [.int m] = some (.int m) := rfl
theorem big_pos (m : Int) : 0 < big m := by unfold big; split <;> omega
theorem pickA1_ok (C : Calls) (c0 : BA.D) (m l : Int) (a3 : Option BA.D) (hm : m < 1073741824) (hl : 0 ≤ l) (s : Src) (ok : SrcOkk s) : post (pickA1 C [some c0, some (.int m), some (.int l), a3]) (Ends (PQ m)) s := by
  have h2 : big m < 1073741824 := by unfold big; split <;> omega
  unfold pickA1
  simp only [sSeq, sSrc, sPut, xOp, xPrim, xCons, xNil, xVar, xCon, getV_succ, getV_zero, opt_some, bnd_pur, bnd_assoc, max_run, op_divi _ _ (big_pos m) h2, asI]
  rw [post_put]
  simp only [sRet, xOp, xPrim, xCons, xNil, xVar, xCon, getV_succ, getV_zero, opt_some, bnd_pur, bnd_assoc, max_run, int_run, op_modi _ _ (big_pos m)]
  refine ⟨_, rfl, ⟨_, rfl, Int.emod_nonneg _ (by have := big_pos m; omega), fun h => ?_, fun h => ?_⟩, ok.mixed, ok.turn, Int.ediv_nonneg hl (by have := big_pos m; omega), ok.cells, ok.len⟩
  · have := Int.emod_lt_of_pos l (big_pos m)
    have e : big m = m := by unfold big; rw [if_pos (by omega)]
    rw [e] at this ⊢
    exact this
  · have e : big m = 1 := by unfold big; rw [if_neg (by omega)]
    rw [e]
    omega
theorem pickA2_ok (C : Calls) (c0 : BA.D) (m : Int) (a2 a3 : Option BA.D) (hm2 : 2 ≤ m) (s1 : Src) (ok1 : SrcOkk s1) : post (pickA2 C [some c0, some (.int m), a2, a3]) (Ends (PQ m)) s1 := by
  have hm0 : 0 < m := by omega
  unfold pickA2
  simp only [sSeq, sSrc, sPut, xOp, xSrc, xCon, getV_succ, getV_zero, opt_some, bnd_assoc, bnd_pur]
  rw [post_get]
  simp only [bnd_pur, op_addi, opt_some, asI]
  rw [post_put]
  simp only [bnd_pur, bnd_assoc, getV_succ, getV_zero, opt_some, sSet, xPrim, xCons, xNil, xOp, xSrc, xCon]
  rw [post_get, post_get]
  simp only [bnd_pur, op_mul1 _ _ (show small64 104729 = true by decide), op_addi, opt_some, int_run, op_modi _ _ (show (0 : Int) < 998244353 by decide), setV_succ, setV_zero, getV_succ, getV_zero, xVar]
  have hb : ∀ x : Int, small64 (x % 998244353) = true := fun x => by
    have a1 := Int.emod_nonneg x (show (998244353 : Int) ≠ 0 by decide)
    have a2 := Int.emod_lt_of_pos x (show (0 : Int) < 998244353 by decide)
    exact small64_of (by omega) (by omega)
  simp only [op_mul1 _ _ (hb _), opt_some, bnd_pur]
  rw [post_get]
  simp only [bnd_pur, op_mul1 _ _ (show small64 17 = true by decide), op_addi, opt_some, int_run, op_modi _ _ (show (0 : Int) < 2147483647 by decide), setV_succ, setV_zero, getV_succ, getV_zero]
  rw [post_put]
  generalize hX : (((sget SF.mixed (sput SF.turn (sget SF.turn s1 + 1) s1) + sget SF.turn (sput SF.turn (sget SF.turn s1 + 1) s1) * 104729) % 998244353 * ((sget SF.mixed (sput SF.turn (sget SF.turn s1 + 1) s1) + sget SF.turn (sput SF.turn (sget SF.turn s1 + 1) s1) * 104729) % 998244353) + sget SF.turn (sput SF.turn (sget SF.turn s1 + 1) s1) * 17)) = X
  simp only [sRet, xOp, xPrim, xCons, xNil, xVar, xCon, getV_succ, getV_zero, opt_some, bnd_pur, bnd_assoc, int_run, op_divi _ _ (show (0 : Int) < 16 by decide) (show (16 : Int) < 1073741824 by decide), op_modi _ _ hm0]
  refine ⟨_, rfl, mod_pick hm2, ?_, ?_, ok1.left, ok1.cells, ok1.len⟩
  · show 0 ≤ X % 2147483647 ∧ X % 2147483647 < 2147483648
    omega
  · have := ok1.turn
    show 0 ≤ s1.turn + 1
    omega
theorem pickA_ok (C : Calls) (c0 : BA.D) (m : Int) (hm : m < 1073741824) (s : Src) (ok : SrcOkk s) : post (runDef ⟨2, 4, pickA⟩ C [c0, .int m]) (PQ m) s := by
  refine run_ends rfl ?_
  show post (pickA C [some c0, some (.int m), none, none]) _ s
  unfold pickA
  refine post_seq ?_
  rw [r_while]
  refine post_mono (drainA C none none c0 m fuelW s (by have := ok.len; show _ < 100000000; omega) ok) fun f s1 ⟨e, ok1⟩ => ⟨_, e, ?_⟩
  refine post_seq ?_
  simp only [r_set, xSrc, getV_succ, getV_zero, opt_some, bnd_pur, bnd_assoc]
  rw [post_get]
  refine ⟨[some c0, some (.int m), some (.int (sget .left s1)), none], rfl, ?_⟩
  have hl : 0 ≤ sget .left s1 := ok1.left
  generalize sget .left s1 = l at hl
  have ec : sIf (xOr (xCmp .Lt (xVar 1) (xCon (.int 2))) (xCmp .Gt (xVar 2) (xCon (.int 1)))) pickA1 sNil C [some c0, some (.int m), some (.int l), none] = if m < 2 ∨ 1 < l then pickA1 C [some c0, some (.int m), some (.int l), none] else pur (.next [some c0, some (.int m), some (.int l), none]) := by
    rw [r_sif]
    simp only [r_or, r_cmp, r_con, r_var, getV_zero, getV_succ, opt_some, bnd_pur, bnd_assoc, cmp_lt, cmp_gt, asB]
    by_cases h1 : m < 2
    · rw [decide_eq_true h1, if_pos rfl, if_pos (.inl h1)]
      rfl
    · rw [decide_eq_false h1, if_neg Bool.false_ne_true]
      by_cases h2 : 1 < l
      · rw [decide_eq_true h2, if_pos (.inr h2)]
        rfl
      · rw [decide_eq_false h2, if_neg (by omega)]
        rfl
  show post (sSeq (sIf _ pickA1 sNil) pickA2 C _) _ _
  by_cases h : m < 2 ∨ 1 < l
  · rw [if_pos h] at ec
    refine seq_ret ?_
    rw [ec]
    exact pickA1_ok C c0 m l none hm hl s1 ok1
  · rw [if_neg h] at ec
    rw [r_seq (h := ec)]
    exact pickA2_ok C c0 m _ _ (by omega) s1 ok1
theorem picksA {T : Nat → Option Def} {sp : Nat → Option (List BA.D → M BA.D)} {n k : Nat} (h1 : sp k = none) (h2 : T k = some ⟨2, 4, pickA⟩) : Picks (callD T sp (n + 1)) k := fun m hm s ok => by
  unfold callD
  simp only [h1, h2]
  exact pickA_ok _ .none m hm s ok
theorem post_pick1 {β : Type} {C : Calls} {c : Nat} {m : Int} {k : BA.D → M β} {P : β → Src → Prop} {s : Src} (hp : Picks C c) (h2 : 1 ≤ m) (h3 : m < 1073741824) (ok : SrcOkk s) (go : ∀ (r : Nat) s', (r : Int) < m → SrcOkk s' → post (k (.int (r : Int))) P s') : post (bnd (C c [.none, .int m]) k) P s := by
  refine post_by (hp m h3 s ok) fun d s' ⟨⟨r, e, h0, h1, h4⟩, ok1⟩ => ?_
  subst e
  have hr : r < m := by
    by_cases h : 2 ≤ m
    · exact h1 h
    · rw [h4 (by omega)]; omega
  have := go r.toNat s' (by omega) ok1
  rw [Int.toNat_of_nonneg h0] at this
  exact this
theorem at_ds {ds : List BA.D} {k : Nat} (h : k < ds.length) : ∃ d ∈ ds, ixD (.list ds) (.int (k : Int)) = some d :=
  ⟨ds[k], List.getElem_mem h, L2.atI_nat (List.getElem?_eq_getElem h)⟩
end BB

/-! KC: closed loops run in parts by the kernel -/
namespace KC
open PySem BA
/-- laps without a break -/
def lapsM (g : G) (bd : Rho → M Fl) : List D → Rho → M Fl
  | [], ρ => pur (.next ρ)
  | x :: xs, ρ => bnd (opt (g x ρ)) fun ρ1 => bnd (bd ρ1) fun f => match f with
    | .next ρ2 => lapsM g bd xs ρ2
    | .cont ρ2 => lapsM g bd xs ρ2
    | .brk _ => bad
    | .ret _ => bad
theorem forM_cons (g : G) (bd : Rho → M Fl) (x : D) (xs : List D) (ρ : Rho) : BA.forM g bd (x :: xs) ρ = bnd (opt (g x ρ)) fun ρ1 => bnd (bd ρ1) fun f => match f with
    | .next ρ2 => BA.forM g bd xs ρ2
    | .cont ρ2 => BA.forM g bd xs ρ2
    | .brk ρ2 => pur (.next ρ2)
    | .ret d => pur (.ret d) := rfl
theorem laps_app {g : G} {bd : Rho → M Fl} {ys : List D} {ρ' : Rho} {s' : Src} : ∀ (xs : List D) (ρ : Rho) (s : Src), lapsM g bd xs ρ s = .ok (.next ρ') s' → BA.forM g bd (xs ++ ys) ρ s = BA.forM g bd ys ρ' s'
  | [], ρ, s, h => by
    cases h
    rfl
  | x :: xs, ρ, s, h => by
    rw [List.cons_append, forM_cons]
    unfold lapsM at h
    unfold bnd at h ⊢
    cases e1 : opt (g x ρ) s with
    | bad => rw [e1] at h; cases h
    | ok ρ1 s1 =>
      rw [e1] at h
      simp only at h ⊢
      cases e2 : bd ρ1 s1 with
      | bad => rw [e2] at h; cases h
      | ok f s2 =>
        rw [e2] at h
        cases f with
        | next ρ2 => exact laps_app xs ρ2 s2 h
        | cont ρ2 => exact laps_app xs ρ2 s2 h
        | brk ρ2 => cases h
        | ret d => cases h
theorem nextOf_some {ks : List Nat} {o : Out Fl} {ρ1 : Rho} {s1 : Src} (h : nextOf ks o = some (ρ1, s1)) : ∃ ρ', o = .ok (.next ρ') s1 ∧ BA.blank ρ' ks = ρ1 := by
  unfold nextOf at h
  split at h
  · cases h
    exact ⟨_, rfl, rfl⟩
  · cases h
theorem chunk {g : G} {bd : Rho → M Fl} {xs ys zs : List D} {ρ ρ1 : Rho} {s s1 : Src} {ks : List Nat} {P : Fl → Src → Prop} (e : zs = xs ++ ys) (h : nextOf ks (lapsM g bd xs ρ s) = some (ρ1, s1)) (k : ∀ ρ', BA.blank ρ' ks = ρ1 → post (BA.forM g bd ys ρ') P s1) : post (BA.forM g bd zs ρ) P s := by
  subst e
  obtain ⟨ρ', e1, e2⟩ := nextOf_some h
  have := laps_app (ys := ys) xs ρ s e1
  unfold post
  rw [this]
  exact k ρ' e2
theorem post_ok {α : Type} {x : M α} {P : α → Src → Prop} {s s' : Src} {a : α} (h : x s = .ok a s') (k : P a s') : post x P s := by
  unfold post
  rw [h]
  exact k
theorem for_go {g : G} {it : Es} {bd : St} {C : Calls} {ρ : Rho} {s : Src} {xs : List D} {P : Fl → Src → Prop} (h : (it C ρ : M (List D)) s = .ok xs s) (k : post (BA.forM g (bd C) xs ρ) P s) : post (sFor g it bd C ρ) P s := by
  have e : sFor g it bd C ρ = bnd (it C ρ) fun xs => BA.forM g (bd C) xs ρ := rfl
  rw [e, post_bnd]
  exact post_ok h k
theorem for_end {g : G} {bd : Rho → M Fl} {ρ : Rho} {P : Fl → Src → Prop} {s : Src} (k : P (.next ρ) s) : post (BA.forM g bd [] ρ) P s := k
/-- whole numbers from a on, n of them -/
def seg (a n : Nat) : List D := (List.range' a n).map fun i => .int ((0 : Int) + (i : Nat))
theorem seg_cut (a n m : Nat) : seg a (n + m) = seg a n ++ seg (a + n) m := by
  unfold seg
  rw [← List.map_append, show a + n = a + 1 * n by omega, List.range'_append]
theorem blank_len {ρ ρ1 : Rho} {ks : List Nat} (h : BA.blank ρ ks = ρ1) : ρ.length = ρ1.length := by rw [← h, BA.blank_len]
/-! the same, shut -/
theorem mono {α : Type} {x : M α} {P Q : α → Src → Prop} {s : Src} (h : Post x P s) (k : ∀ a s', P a s' → Q a s') : Post x Q s := ⟨post_mono h.h k⟩
theorem cut {a b : BA.St} {ks : List Nat} {C : Calls} {ρ ρ' : Rho} {s s' : Src} {P : Fl → Src → Prop} (h : nextOf ks (a C ρ s) = some (ρ', s')) (k : Post (b C ρ') P s') : Post (sSeqF a ks b C ρ) P s := ⟨cutF h k.h⟩
theorem ret {a : BA.St} {C : Calls} {ρ : Rho} {s : Src} {d : D} (h : retOf (a C ρ s) = some d) : Post (a C ρ) (fun f _ => f = .ret d) s := ⟨retF h⟩
theorem step {a b : BA.St} {ks : List Nat} {C : Calls} {ρ : Rho} {s : Src} {P : Fl → Src → Prop} (h : Post (a C ρ) (fun f s' => ∃ ρ', f = .next ρ' ∧ Post (b C (BA.blank ρ' ks)) P s') s) : Post (sSeqF a ks b C ρ) P s := ⟨stepF (post_mono h.h fun f s' ⟨ρ', e, q⟩ => ⟨ρ', e, q.h⟩)⟩
theorem pick {b : BA.St} {ks : List Nat} {C : Calls} {ρ : Rho} {s : Src} {P : Fl → Src → Prop} {i j k : Nat} {a m : Int} (hp : Picks C k) (hm : m < 1073741824) (hm2 : 2 ≤ m) (ok : SrcOkk s) (hj : getV ρ j = some .none)
    (go : ∀ r s', 0 ≤ r → r < m → SrcOkk s' → Post (b C (BA.blank (setV ρ i (.int (a + r))) ks)) P s') : Post (sSeqF (sSet i (xOp .Add (xCon (.int a)) (xCall k (xCons (xVar j) (xCons (xCon (.int m)) xNil))))) ks b C ρ) P s :=
  ⟨add_pick hp hm hm2 ok hj fun r s' h0 h1 ok' => (go r s' h0 h1 ok').h⟩
theorem chunkP {g : G} {bd : Rho → M Fl} {xs ys zs : List D} {ρ ρ1 : Rho} {s s1 : Src} {ks : List Nat} {P : Fl → Src → Prop} (e : zs = xs ++ ys) (h : nextOf ks (lapsM g bd xs ρ s) = some (ρ1, s1)) (k : ∀ ρ', BA.blank ρ' ks = ρ1 → Post (BA.forM g bd ys ρ') P s1) : Post (BA.forM g bd zs ρ) P s :=
  ⟨chunk e h fun ρ' h' => (k ρ' h').h⟩
theorem for_goP {g : G} {it : Es} {bd : St} {C : Calls} {ρ : Rho} {s : Src} {xs : List D} {P : Fl → Src → Prop} (h : (it C ρ : M (List D)) s = .ok xs s) (k : Post (BA.forM g (bd C) xs ρ) P s) : Post (sFor g it bd C ρ) P s := ⟨for_go h k.h⟩
theorem for_endP {g : G} {bd : Rho → M Fl} {ρ : Rho} {P : Fl → Src → Prop} {s : Src} (k : P (.next ρ) s) : Post (BA.forM g bd [] ρ) P s := ⟨k⟩
end KC

namespace Z54
open PySem PySem.Spec PyProof.Rows BA
open L2 hiding St

abbrev depth : Nat := 6
abbrev C4 : Calls := CC (depth + 1)
theorem picks : Picks C4 12 := BB.picksA rfl rfl
abbrev D54 := BA.D
def row (n k a4 a5 a6 a7 a8 a9 a10 a11 : Option BA.D) : Rho := [none, some .none, n, k, a4, a5, a6, a7, a8, a9, a10, a11, none, none, none]
def rho (n k : Option BA.D) : Rho := row n k none none none none none none none none
theorem b1 (C : Calls) (r : Int) : BA.blank (setV (lawRho 15 1) 2 (.int (1 + r))) [3, 4, 5, 6, 7, 8, 9, 10, 11, 12, 13, 14] = rho (some (.int (1 + r))) none := rfl
theorem s1 (n : Int) (s : Src) : nextOf [4, 5, 6, 7, 8, 9, 10, 11, 12, 13, 14] (l1 C4 (rho (some (.int n)) none) s) = some (rho (some (.int n)) (some (.int 0)), s) := by kernel_rfl
def it2 : Es := (iRange (xOp .LShift (xCon (.int 1)) (xOp .LShift (xCon (.int 1)) (xVar 2))))
def bd2 : BA.St := (sSeq (sSet 5 (xPrim .tuple (xCons (xComp [7] (iRange (xOp .LShift (xCon (.int 1)) (xVar 2))) (gVar 7) tYes (xOp .Mod (xPrim .int (xCons (xOp .FloorDiv (xVar 4) (xOp .LShift (xCon (.int 1)) (xVar 7))) xNil)) (xCon (.int 2)))) xNil))) (sSeq (sSet 6 (xCon (.int 0))) (sSeq (sFor (gVar 7) (iRange (xOp .LShift (xCon (.int 1)) (xVar 2))) (sSeq (sSet 8 (xPrim .sum (xCons (xComp [14] (iRange (xVar 2)) (gVar 14) tYes (xOp .Mod (xPrim .int (xCons (xOp .FloorDiv (xVar 7) (xOp .LShift (xCon (.int 1)) (xVar 14))) xNil)) (xCon (.int 2)))) xNil))) (sSet 6 (xOp .Add (xVar 6) (xOp .Mult (xSubY (xVar 5) (xVar 7)) (xOp .Sub (xCon (.int 1)) (xOp .Mult (xCon (.int 2)) (xOp .Mod (xPrim .int (xCons (xVar 8) xNil)) (xCon (.int 2)))))))))) (sSeq (sIf (xCmp .NotEq (xCall 5 (xCons (xTup (xCons (xVar 2) (xCons (xVar 5) xNil))) xNil)) (xVar 6)) (sRet (xCon (.bool false))) sNil) (sSeq (sSet 3 (xOp .Add (xVar 3) (xPrim .int (xCons (xCmp .Eq (xVar 6) (xCon (.int 0))) xNil)))) (sIf (xAnd (xCmp .NotEq (xVar 6) (xCon (.int 0))) (xAnd (xCmp .Eq (xOp .Mod (xPrim .int (xCons (xVar 4) xNil)) (xCon (.int 7))) (xCon (.int 3))) (xCmp .NotEq (xCall 10 (xCons (xTup (xCons (xVar 2) (xCons (xVar 5) xNil))) xNil)) (xVar 2)))) (sRet (xCon (.bool false))) sNil))))))
theorem l2_is : l2 = sFor (gVar 4) it2 bd2 := rfl
def it6 : Es := (iRange (xOp .Mult (xCon (.int 2)) (xVar 9)))
def bd6 : BA.St := (sSet 10 (xSlice (xComp [12, 13] (iZip (xOp .Add (xVar 10) (xLst (xCons (xCon (.int 0)) xNil))) (xOp .Add (xLst (xCons (xCon (.int 0)) xNil)) (xVar 10))) (gTup (gCons (gVar 12) (gCons (gVar 13) gNil))) tYes (xOp .Add (xVar 12) (xVar 13))) xNo (xPart (xOp .Add (xVar 9) (xCon (.int 1))))))
theorem l6_is : l6 = sFor (gVar 11) it6 bd6 := rfl
theorem lap1 (s : Src) : nextOf [4, 5, 6, 7, 8, 9, 10, 11, 12, 13, 14] (l2 C4 (rho (some (.int 1)) (some (.int 0))) s) = some (rho (some (.int 1)) (some (.int 2)), s) := by kernel_rfl
theorem lap2 (s : Src) : nextOf [4, 5, 6, 7, 8, 9, 10, 11, 12, 13, 14] (l2 C4 (rho (some (.int 2)) (some (.int 0))) s) = some (rho (some (.int 2)) (some (.int 6)), s) := by kernel_rfl
theorem t1 (s : Src) : nextOf [2, 3, 4, 5, 6, 7, 8, 9, 10, 11, 12, 13, 14] (l3 C4 (rho (some (.int 1)) (some (.int 2))) s) = some (rho none none, s) := by kernel_rfl
theorem t2 (s : Src) : nextOf [2, 3, 4, 5, 6, 7, 8, 9, 10, 11, 12, 13, 14] (l3 C4 (rho (some (.int 2)) (some (.int 6))) s) = some (rho none none, s) := by kernel_rfl
theorem t3 (s : Src) : nextOf [2, 3, 4, 5, 6, 7, 8, 9, 10, 11, 12, 13, 14] (l3 C4 (rho (some (.int 3)) (some (.int 70))) s) = some (rho none none, s) := by kernel_rfl
theorem it2_3 (s : Src) : (it2 C4 (rho (some (.int 3)) (some (.int 0))) : M (List BA.D)) s = .ok (KC.seg 0 256) s := by kernel_rfl
theorem c0 (a4 a5 a6 a7 a8 : Option BA.D) (s : Src) : nextOf [4, 5, 6, 7, 8] (KC.lapsM (gVar 4) (bd2 C4) (KC.seg 0 32) (row (some (.int 3)) (some (.int 0)) a4 a5 a6 a7 a8 none none none) s) = some (rho (some (.int 3)) (some (.int 10)), s) := by kernel_rfl
theorem c1 (a4 a5 a6 a7 a8 : Option BA.D) (s : Src) : nextOf [4, 5, 6, 7, 8] (KC.lapsM (gVar 4) (bd2 C4) (KC.seg 32 32) (row (some (.int 3)) (some (.int 10)) a4 a5 a6 a7 a8 none none none) s) = some (rho (some (.int 3)) (some (.int 20)), s) := by kernel_rfl
theorem c2 (a4 a5 a6 a7 a8 : Option BA.D) (s : Src) : nextOf [4, 5, 6, 7, 8] (KC.lapsM (gVar 4) (bd2 C4) (KC.seg 64 32) (row (some (.int 3)) (some (.int 20)) a4 a5 a6 a7 a8 none none none) s) = some (rho (some (.int 3)) (some (.int 30)), s) := by kernel_rfl
theorem c3 (a4 a5 a6 a7 a8 : Option BA.D) (s : Src) : nextOf [4, 5, 6, 7, 8] (KC.lapsM (gVar 4) (bd2 C4) (KC.seg 96 32) (row (some (.int 3)) (some (.int 30)) a4 a5 a6 a7 a8 none none none) s) = some (rho (some (.int 3)) (some (.int 35)), s) := by kernel_rfl
theorem c4 (a4 a5 a6 a7 a8 : Option BA.D) (s : Src) : nextOf [4, 5, 6, 7, 8] (KC.lapsM (gVar 4) (bd2 C4) (KC.seg 128 32) (row (some (.int 3)) (some (.int 35)) a4 a5 a6 a7 a8 none none none) s) = some (rho (some (.int 3)) (some (.int 40)), s) := by kernel_rfl
theorem c5 (a4 a5 a6 a7 a8 : Option BA.D) (s : Src) : nextOf [4, 5, 6, 7, 8] (KC.lapsM (gVar 4) (bd2 C4) (KC.seg 160 32) (row (some (.int 3)) (some (.int 40)) a4 a5 a6 a7 a8 none none none) s) = some (rho (some (.int 3)) (some (.int 50)), s) := by kernel_rfl
theorem c6 (a4 a5 a6 a7 a8 : Option BA.D) (s : Src) : nextOf [4, 5, 6, 7, 8] (KC.lapsM (gVar 4) (bd2 C4) (KC.seg 192 32) (row (some (.int 3)) (some (.int 50)) a4 a5 a6 a7 a8 none none none) s) = some (rho (some (.int 3)) (some (.int 60)), s) := by kernel_rfl
theorem c7 (a4 a5 a6 a7 a8 : Option BA.D) (s : Src) : nextOf [4, 5, 6, 7, 8] (KC.lapsM (gVar 4) (bd2 C4) (KC.seg 224 32) (row (some (.int 3)) (some (.int 60)) a4 a5 a6 a7 a8 none none none) s) = some (rho (some (.int 3)) (some (.int 70)), s) := by kernel_rfl
end Z54

namespace Z54
open PySem PySem.Spec PyProof.Rows BA
open L2 hiding St

theorem f1 (s : Src) : retOf (r5 C4 (rho (some (.int 1)) none) s) = some (.bool true) := by kernel_rfl
theorem f2 (s : Src) : retOf (r5 C4 (rho (some (.int 2)) none) s) = some (.bool true) := by kernel_rfl
theorem f3 (s : Src) : retOf (r5 C4 (rho (some (.int 3)) none) s) = some (.bool true) := by kernel_rfl
theorem f4 (s : Src) : retOf (r5 C4 (rho (some (.int 4)) none) s) = some (.bool true) := by kernel_rfl
theorem f5 (s : Src) : retOf (r5 C4 (rho (some (.int 5)) none) s) = some (.bool true) := by kernel_rfl
theorem f6 (s : Src) : retOf (r5 C4 (rho (some (.int 6)) none) s) = some (.bool true) := by kernel_rfl
theorem f7 (s : Src) : retOf (r5 C4 (rho (some (.int 7)) none) s) = some (.bool true) := by kernel_rfl
theorem g5 (s : Src) : nextOf [3, 4, 5, 6, 7, 8, 11, 12, 13, 14] (l5 C4 (rho (some (.int 8)) none) s) = some (row (some (.int 8)) none none none none none none (some (.int 128)) (some (.list [.int 1])) none, s) := by kernel_rfl
theorem it6_8 (s : Src) : (it6 C4 (row (some (.int 8)) none none none none none none (some (.int 128)) (some (.list [.int 1])) none) : M (List BA.D)) s = .ok (KC.seg 0 256) s := by kernel_rfl
def ln0 : BA.D := (.list [.int 1])
def ln1 : BA.D := (.list [.int 1, .int 32, .int 496, .int 4960, .int 35960, .int 201376, .int 906192, .int 3365856, .int 10518300, .int 28048800, .int 64512240, .int 129024480, .int 225792840, .int 347373600, .int 471435600, .int 565722720, .int 601080390, .int 565722720, .int 471435600, .int 347373600, .int 225792840, .int 129024480, .int 64512240, .int 28048800, .int 10518300, .int 3365856, .int 906192, .int 201376, .int 35960, .int 4960, .int 496, .int 32, .int 1])
def ln2 : BA.D := (.list [.int 1, .int 64, .int 2016, .int 41664, .int 635376, .int 7624512, .int 74974368, .int 621216192, .int 4426165368, .int 27540584512, .int 151473214816, .int 743595781824, .int 3284214703056, .int 13136858812224, .int 47855699958816, .int 159518999862720, .int 488526937079580, .int 1379370175283520, .int 3601688791018080, .int 8719878125622720, .int 19619725782651120, .int 41107996877935680, .int 80347448443237920, .int 146721427591999680, .int 250649105469666120, .int 401038568751465792, .int 601557853127198688, .int 846636978475316672, .int 1118770292985239888, .int 1388818294740297792, .int 1620288010530347424, .int 1777090076065542336, .int 1832624140942590534, .int 1777090076065542336, .int 1620288010530347424, .int 1388818294740297792, .int 1118770292985239888, .int 846636978475316672, .int 601557853127198688, .int 401038568751465792, .int 250649105469666120, .int 146721427591999680, .int 80347448443237920, .int 41107996877935680, .int 19619725782651120, .int 8719878125622720, .int 3601688791018080, .int 1379370175283520, .int 488526937079580, .int 159518999862720, .int 47855699958816, .int 13136858812224, .int 3284214703056, .int 743595781824, .int 151473214816, .int 27540584512, .int 4426165368, .int 621216192, .int 74974368, .int 7624512, .int 635376, .int 41664, .int 2016, .int 64, .int 1])
def ln3 : BA.D := (.list [.int 1, .int 96, .int 4560, .int 142880, .int 3321960, .int 61124064, .int 927048304, .int 11919192480, .int 132601016340, .int 1296543270880, .int 11279926456656, .int 88188515933856, .int 624668654531480, .int 4036320536972640, .int 23929614612052080, .int 130815226545884704, .int 662252084388541314, .int 3116480397122547360, .int 13677886187371180080, .int 56151322242892212960, .int 216182590635135019896, .int 782375089917631500576, .int 2667187806537380115600, .int 8581386855815918632800, .int 26101718353106752508100, .int 75172948856947447223328, .int 205279975724741105879088, .int 532207344471551015242080, .int 1311510956019179287560840, .int 3075267069286351432901280, .int 6868096454739518200146192, .int 14622398903638974232569312, .int 29701747773016666409906415, .int 57603389620395959098000320, .int 106735692531910159505118240, .int 189074655342240853980495168, .int 320376499329908113689172368, .int 519529458372823968144603840, .int 806637843263068792645569120, .int 1199615254083538204447256640, .int 1709451737069041941337340712, .int 2334860909167471919875392192, .int 3057555952481213228408251680, .int 3839721428697337542652223040, .int 4625118993658156585467450480, .int 5344581948227203165429053888, .int 5925514768686681770366994528, .int 6303739115624129542943611200, .int 6435067013866298908421603100, .int 6303739115624129542943611200, .int 5925514768686681770366994528, .int 5344581948227203165429053888, .int 4625118993658156585467450480, .int 3839721428697337542652223040, .int 3057555952481213228408251680, .int 2334860909167471919875392192, .int 1709451737069041941337340712, .int 1199615254083538204447256640, .int 806637843263068792645569120, .int 519529458372823968144603840, .int 320376499329908113689172368, .int 189074655342240853980495168, .int 106735692531910159505118240, .int 57603389620395959098000320, .int 29701747773016666409906415, .int 14622398903638974232569312, .int 6868096454739518200146192, .int 3075267069286351432901280, .int 1311510956019179287560840, .int 532207344471551015242080, .int 205279975724741105879088, .int 75172948856947447223328, .int 26101718353106752508100, .int 8581386855815918632800, .int 2667187806537380115600, .int 782375089917631500576, .int 216182590635135019896, .int 56151322242892212960, .int 13677886187371180080, .int 3116480397122547360, .int 662252084388541314, .int 130815226545884704, .int 23929614612052080, .int 4036320536972640, .int 624668654531480, .int 88188515933856, .int 11279926456656, .int 1296543270880, .int 132601016340, .int 11919192480, .int 927048304, .int 61124064, .int 3321960, .int 142880, .int 4560, .int 96, .int 1])
def ln4 : BA.D := (.list [.int 1, .int 128, .int 8128, .int 341376, .int 10668000, .int 264566400, .int 5423611200, .int 94525795200, .int 1429702652400, .int 19062702032000, .int 226846154180800, .int 2433440563030400, .int 23726045489546400, .int 211709328983644800, .int 1739040916651368000, .int 13216710966550396800, .int 93343021201262177400, .int 614965786737727286400, .int 3792289018215984932800, .int 21955357473882018032000, .int 119656698232656998274400, .int 615377305196521705411200, .int 2992971438910355567227200, .int 13793694457586856092438400, .int 60347413251942495404418000, .int 251045239128080780882378880, .int 994525370392012324264808640, .int 3757095843703157669444832640, .int 13552381436214961593354574880, .int 46732349780051591701222672000, .int 154216754274170252614034817600, .int 487523932866731766328239100800, .int 1477806921502280666682474774300, .int 4299074680733907393985381161600, .int 12012120431462388306723859128000, .int 32261123444498985738058364515200, .int 83341235564955713156650774997600, .int 207226855999349340821942467561600, .int 496253786735283947757809593371200, .int 1145201046312193725594945215472000, .int 2548072328044631039448753104425200, .int 5469033289461647109060738370473600, .int 11328711813884840440197243767409600, .int 22657423627769680880394487534819200, .int 43770022917282338064398441828628000, .int 81704042778927031053543758080105600, .int 147422511970672686466176780883668800, .int 257205233650960857238861617711932800, .int 434033831785996446590578979888886600, .int 708626664140402361780537110022672000, .int 1119630129341835731613248633835821760, .int 1712375491934572295408497910572433280, .int 2535632939980039745124121906039949280, .int 3636001951669490955272325752057285760, .int 5050002710652070771211563544524008000, .int 6794549101604604310357376405359574400, .int 8857180078877430618858722814129445200, .int 11188016941739912360663649870479299200, .int 13695675911440237544950330013862590400, .int 16249107013573163188924120355430192000, .int 18686473065609137667262738408744720800, .int 20830822433793792809407642816305590400, .int 22510727468777163197263097882136686400, .int 23582666872052266206656578733667004800, .int 23951146041928082866135587776380551750, .int 23582666872052266206656578733667004800, .int 22510727468777163197263097882136686400, .int 20830822433793792809407642816305590400, .int 18686473065609137667262738408744720800, .int 16249107013573163188924120355430192000, .int 13695675911440237544950330013862590400, .int 11188016941739912360663649870479299200, .int 8857180078877430618858722814129445200, .int 6794549101604604310357376405359574400, .int 5050002710652070771211563544524008000, .int 3636001951669490955272325752057285760, .int 2535632939980039745124121906039949280, .int 1712375491934572295408497910572433280, .int 1119630129341835731613248633835821760, .int 708626664140402361780537110022672000, .int 434033831785996446590578979888886600, .int 257205233650960857238861617711932800, .int 147422511970672686466176780883668800, .int 81704042778927031053543758080105600, .int 43770022917282338064398441828628000, .int 22657423627769680880394487534819200, .int 11328711813884840440197243767409600, .int 5469033289461647109060738370473600, .int 2548072328044631039448753104425200, .int 1145201046312193725594945215472000, .int 496253786735283947757809593371200, .int 207226855999349340821942467561600, .int 83341235564955713156650774997600, .int 32261123444498985738058364515200, .int 12012120431462388306723859128000, .int 4299074680733907393985381161600, .int 1477806921502280666682474774300, .int 487523932866731766328239100800, .int 154216754274170252614034817600, .int 46732349780051591701222672000, .int 13552381436214961593354574880, .int 3757095843703157669444832640, .int 994525370392012324264808640, .int 251045239128080780882378880, .int 60347413251942495404418000, .int 13793694457586856092438400, .int 2992971438910355567227200, .int 615377305196521705411200, .int 119656698232656998274400, .int 21955357473882018032000, .int 3792289018215984932800, .int 614965786737727286400, .int 93343021201262177400, .int 13216710966550396800, .int 1739040916651368000, .int 211709328983644800, .int 23726045489546400, .int 2433440563030400, .int 226846154180800, .int 19062702032000, .int 1429702652400, .int 94525795200, .int 5423611200, .int 264566400, .int 10668000, .int 341376, .int 8128, .int 128, .int 1])
def ln5 : BA.D := (.list [.int 1, .int 160, .int 12720, .int 669920, .int 26294360, .int 820384032, .int 21193254160, .int 466251591520, .int 8917061687820, .int 150599264060960, .int 2274048887320496, .int 31009757554370400, .int 385037822966765800, .int 4383507523006256800, .int 46026828991565696400, .int 447994468851239444960, .int 4059949873964357469950, .int 34390163638286322098400, .int 273210744459719114448400, .int 2041890827014742855351200, .int 14395330330453937130225960, .int 95968868869692914201506400, .int 606348762403968867000426800, .int 3638092574423813202002560800, .int 20767445112335933694764617900, .int 112974901411107479299519521376, .int 586600449634596527132120591760, .int 2911276305593923505026079973920, .int 13828562451571136648873879876120, .int 62943801503703104746598349780960, .int 274854599899503557393479460710192, .int 1152616064094692337456526770720160, .int 4646483508381728485371623544465645, .int 18022723911298825640229327687624320, .int 67320174609851495773797782833184960, .int 242352628595465384785672018199465856, .int 841502182623143697172472285414812000, .int 2820169476899184282415853064633424000, .int 9128443306805254387819734919734504000, .int 28555643164877975264461734877118192000, .int 86380820573755875174996748003282530800, .int 252821913874407439536575847814485456000, .int 716328755977487745353631568807708792000, .int 1965739376868454743063454072542084592000, .int 5227079706672936475873275601986906756000, .int 13474249910534680693362221551788470748800, .int 33685624776336701733405553879471176872000, .int 81705557968135829736345386005525833264000, .int 192348501049986432504313096221342065809000, .int 439653716685683274295572791363067578992000, .int 976031251042216868936171596826010025362240, .int 2105165443424389325156448542173747113526400, .int 4412750641024200700808709444171892987968800, .int 8992020174162522182780011697557819673596800, .int 17817521456210923584397430585901605649534400, .int 34339223170151961817202320765555821797284480, .int 64386043444034928407254351435417165869908400, .int 117476289792625132532534255250585706148604800, .int 208621687045523942256052211910522891953556800, .int 360668001332939696781649586692768389479030400, .int 607124468910448489582443470932826788956367840, .int 995286014607292605872858149070207850748144000, .int 1589247023324547870667950915450815761678488000, .int 2472162036282630021039034757367935629277648000, .int 3746870586240861125637287054135777438123935250, .int 5533839635063425662479685495338994370152273600, .int 7965375232288264211145001849351582805522212000, .int 11175302564702937848472092146851474383866984000, .int 15283869684079017939822126024370398789700434000, .int 20378492912105357253096168032493865052933912000, .int 26492040785736964429025018442242024568814085600, .int 33581460150934180262144389574672988890046024000, .int 41510416019904750601817370446470777933529113000, .int 50039953558241343191231898620403129563706328000, .int 58830756210364822400502367296960436108681764000, .int 67459267121218329685909381167181300071288422720, .int 75447864543467868727661807884347506658677841200, .int 82306761320146765884721972237470007264012190400, .int 87582835763745917543999021739871930806577074400, .int 90908766235786901754530630160373396533409115200, .int 92045125813734238026462263037378063990076729140, .int 90908766235786901754530630160373396533409115200, .int 87582835763745917543999021739871930806577074400, .int 82306761320146765884721972237470007264012190400, .int 75447864543467868727661807884347506658677841200, .int 67459267121218329685909381167181300071288422720, .int 58830756210364822400502367296960436108681764000, .int 50039953558241343191231898620403129563706328000, .int 41510416019904750601817370446470777933529113000, .int 33581460150934180262144389574672988890046024000, .int 26492040785736964429025018442242024568814085600, .int 20378492912105357253096168032493865052933912000, .int 15283869684079017939822126024370398789700434000, .int 11175302564702937848472092146851474383866984000, .int 7965375232288264211145001849351582805522212000, .int 5533839635063425662479685495338994370152273600, .int 3746870586240861125637287054135777438123935250, .int 2472162036282630021039034757367935629277648000, .int 1589247023324547870667950915450815761678488000, .int 995286014607292605872858149070207850748144000, .int 607124468910448489582443470932826788956367840, .int 360668001332939696781649586692768389479030400, .int 208621687045523942256052211910522891953556800, .int 117476289792625132532534255250585706148604800, .int 64386043444034928407254351435417165869908400, .int 34339223170151961817202320765555821797284480, .int 17817521456210923584397430585901605649534400, .int 8992020174162522182780011697557819673596800, .int 4412750641024200700808709444171892987968800, .int 2105165443424389325156448542173747113526400, .int 976031251042216868936171596826010025362240, .int 439653716685683274295572791363067578992000, .int 192348501049986432504313096221342065809000, .int 81705557968135829736345386005525833264000, .int 33685624776336701733405553879471176872000, .int 13474249910534680693362221551788470748800, .int 5227079706672936475873275601986906756000, .int 1965739376868454743063454072542084592000, .int 716328755977487745353631568807708792000, .int 252821913874407439536575847814485456000, .int 86380820573755875174996748003282530800, .int 28555643164877975264461734877118192000, .int 9128443306805254387819734919734504000, .int 2820169476899184282415853064633424000, .int 841502182623143697172472285414812000, .int 242352628595465384785672018199465856, .int 67320174609851495773797782833184960, .int 18022723911298825640229327687624320, .int 4646483508381728485371623544465645])
def ln6 : BA.D := (.list [.int 1, .int 192, .int 18336, .int 1161280, .int 54870480, .int 2063130048, .int 64300886496, .int 1708566412608, .int 39510598291560, .int 807772231738560, .int 14782231840815648, .int 244578745002586176, .int 3689062737122341488, .int 51079330206309343680, .int 653085721923526608480, .int 7749950566825849087296, .int 85733828145510955528212, .int 887597279624113421939136, .int 8629417996345547157741600, .int 79027301650743431865633600, .int 683586159278930685637730640, .int 5598896161713146568080460480, .int 43518692893315821051898124640, .int 321659903994073459948812225600, .int 2265021823958267280472886088600, .int 15220946656999556124777794515392, .int 97765311219958687416841987848864, .int 601075617130116374488732221589312, .int 3542052743802471492522886305794160, .int 20030918964951907750819081177594560, .int 108834659709572032112783674398263776, .int 568748866869376425879708233952217152, .int 2861517736436550142707282052072092546, .int 13874025388783273419186822070652569920, .int 64881471671074719813256020859816429920, .int 292893500686565878014127179881457026496, .int 1277341100216412301339387978927465365552, .int 5385546260371900513755257424667151270976, .int 21967359746253804727159602653247590710560, .int 86742907715976562255963559194875101780160, .int 331791622013610350629060613920397264309112, .int 1230056745026067641356517397948789857926464, .int 4422346869022290805829383978339696870164192, .int 15426791403566130718009478994208244895921600, .int 52240725434803488113259372048568829306643600, .int 171813941430020360905830823626404149719627840, .int 549057595439412892459937632023508913234462880, .int 1705583168811793240407465835647495773026203840, .int 5152282489118958747064219711851810147683324100, .int 15141401600676123664841788540952258393191809600, .int 43304408577933713681447515227123459004528575456, .int 120573059177776222407167591416696689777314857152, .int 326938487385893218450204430572196793434642208816, .int 863611098755189633642049439247312284544337910080, .int 2222998939388358501411942075099563102808573509280, .int 5577706429738063148997236479340721967046966259648, .int 13645460372752047346653953529815694812239899599496, .int 32557589661303130511314696141314640253765374483008, .int 75780596625446941707370413432370283349281475089760, .int 172111863522201528623519244066739287606842672237760, .int 381514630807546721782134324347938754195167923460368, .int 825572643714691266807241488752916648422330588471616, .int 1744355102042331547608848952042452918440730759512608, .int 3599462908976239701415085139135220307893571408518080, .int 7255167425905233148164780983569428433097979870294255, .int 14287098931013382199462953321490566760562175744579456, .int 27491841882404538474724167754989423918051459387296832, .int 51701075778850326086794703539233841995141550489543296, .int 95038742240533687659549087388297503667539614870484000, .int 170794261417770685069334591828244789199636409332464000, .int 300109916491225632336116497069630129593646833541329600, .int 515681828337035593591636797781617969160914277352707200, .int 866631961510851483674834062938552420395425382773299600, .int 1424600484675372301931234076063373841745904738805424000, .int 2290911590221206809862389933128939015780576539430344000, .int 3604367568614698714183493494789530718161440422037074560, .int 5548829020104207231045641301189145974011691176030759520, .int 8359274887429714789627199882310921207602028265189196160, .int 12324571949415605138552922903407127421464528852522532800, .int 17784825344726316275886496341625475013252611255538844800, .int 25121065799425921739689676082545983456219313398448618280, .int 34735300858465472035126465694384569717241519760817842560, .int 47019736527922773120719971854593746812363520651838786880, .int 62315313470741024617821649445847134329638400863882729600, .int 80861537717985377182649521304730210022983163025752589600, .int 102741718512263773361484097657774855088025665962132702080, .int 127829812567583997089288354062580342958357514627304640960, .int 155746668185791996453615695754408233949263178741313700480, .int 185834092721683632132155091525146188234916292816340210800, .int 217154445427585367884765500209159590746419038796622268800, .int 248521198656014365468120516906038198298679566622801040960, .int 278562222669378739315915304663910947543574898851930837120, .int 305812874887035355118559193163641366325011573739619723360, .int 328831048265629414105977627057678888521517821225397552000, .int 346322061471247999962678564667129893230109194694833592000, .int 357258547622971621014131571972407679332112642948354652800, .int 360979990827377575399695442513786925991822149645733347100, .int 357258547622971621014131571972407679332112642948354652800, .int 346322061471247999962678564667129893230109194694833592000, .int 328831048265629414105977627057678888521517821225397552000, .int 305812874887035355118559193163641366325011573739619723360, .int 278562222669378739315915304663910947543574898851930837120, .int 248521198656014365468120516906038198298679566622801040960, .int 217154445427585367884765500209159590746419038796622268800, .int 185834092721683632132155091525146188234916292816340210800, .int 155746668185791996453615695754408233949263178741313700480, .int 127829812567583997089288354062580342958357514627304640960, .int 102741718512263773361484097657774855088025665962132702080, .int 80861537717985377182649521304730210022983163025752589600, .int 62315313470741024617821649445847134329638400863882729600, .int 47019736527922773120719971854593746812363520651838786880, .int 34735300858465472035126465694384569717241519760817842560, .int 25121065799425921739689676082545983456219313398448618280, .int 17784825344726316275886496341625475013252611255538844800, .int 12324571949415605138552922903407127421464528852522532800, .int 8359274887429714789627199882310921207602028265189196160, .int 5548829020104207231045641301189145974011691176030759520, .int 3604367568614698714183493494789530718161440422037074560, .int 2290911590221206809862389933128939015780576539430344000, .int 1424600484675372301931234076063373841745904738805424000, .int 866631961510851483674834062938552420395425382773299600, .int 515681828337035593591636797781617969160914277352707200, .int 300109916491225632336116497069630129593646833541329600, .int 170794261417770685069334591828244789199636409332464000, .int 95038742240533687659549087388297503667539614870484000, .int 51701075778850326086794703539233841995141550489543296, .int 27491841882404538474724167754989423918051459387296832, .int 14287098931013382199462953321490566760562175744579456, .int 7255167425905233148164780983569428433097979870294255])
def ln7 : BA.D := (.list [.int 1, .int 224, .int 24976, .int 1848224, .int 102114376, .int 4493032544, .int 163995687856, .int 5107294278944, .int 138535357316356, .int 3324848575592544, .int 71484244375239696, .int 1390693481481935904, .int 24684809296304362296, .int 402552274678194215904, .int 6067037854078498539696, .int 84938529957098979555744, .int 1109509547564605420446906, .int 13575175640790466320762144, .int 156114519869090362688764656, .int 1692610057528032353362395744, .int 17349253089662331621964556376, .int 168535601442434078613369976224, .int 1555123958764278089023368416976, .int 13658045203060181477509583488224, .int 114386128575629019874142761713876, .int 915089028605032158993142093711008, .int 7003950642015438447678279871095792, .int 51362304708113215282974052388035808, .int 361370500982082264669496011444394792, .int 2442366144568555995697283387693151008, .int 15875379939695613972032342020005481552, .int 99349151880675777760460462963905271648, .int 599199572280325784617777167251053669627, .int 3486252056903713655957976245824312259648, .int 19584533613782626714352160675071871811552, .int 106316039617677116449340300807533018405568, .int 558159207992804861359036579239548346629232, .int 2836052191963440917175645321541488896386368, .int 13956362102556932934522254608638379569059232, .int 66561111566040757072336906595044579483205568, .int 307845140992938501459558193002081180109825752, .int 1381548925431724006550212378350803344883120448, .int 6019606032238226028540211077099928859847881952, .int 25478332508543189237077172465864815174239872448, .int 104808595091961755725249277643671171512214020752, .int 419234380367847022900997110574684686048856083008, .int 1631368567083578632593010495497142582668374757792, .int 6178374573210148863862890812733859142871717167808, .int 22782756238712423935494409871956105589339457056292, .int 81831940775783400258102370152332134361709070243008, .int 286411792715241900903358295533162470265981745850528, .int 977169645734354720729104772995495486789820074078272, .int 3250968244462372436271829340927321523358439861837328, .int 10550312038632604887523672578103760415427389740302272, .int 33409321455669915477158296497328574648853400844290528, .int 103265175408434284202125643719015594369183238973261632, .int 311639547214739179109986317652029204435570846187164568, .int 918516560211862843692591252027033444652208809814800832, .int 2644694233713467153390736880836458366498601228259857568, .int 7441004115193822838353598681675459132860471252392141632, .int 20462761316783012805472396374607512615366295944078389488, .int 55014636982826460657335623039928394572460205488997637312, .int 144635255293559888502350105734005295408242153140429272288, .int 371919227897725427577471700458870759621194108075389557312, .int 935609307680215528749577246466846754672066428127151855113, .int 2303038295828222839998959375918392011500471207697604566432, .int 5548228621767991387270220314712489845887498818544229182768, .int 13083882421482725958040221040665274561943653930298331505632, .int 30208375590776293756063451520359530973899318633188794799768, .int 68297196987842055448491281698204156984468024735905101286432, .int 151229507615935979921659266617452061894179197629504152848528, .int 328018932012030153632894747311093204671881639928783655474272, .int 697040230525564076469901338036073059927748484848665267882828, .int 1451371438902544378403082238102508289164626982150645489290272, .int 2961582260463300015390073215587550698160252355469560390308528, .int 5923164520926600030780146431175101396320504710939120780617056, .int 11612519916027150060345287082172238263838884235920118372525544, .int 22320168150285950765338993352746639779846167102807500248490656, .int 42064932283231214903908102857099436508171622616829519699078544, .int 77740254599389333873045354647297692787253884836165947798297056, .int 140904211461393167644894705298227068176897666265550780384413414, .int 250496375931365631368701698307959232314484740027645831794512736, .int 436841240953479088850296864122416710011845339316504316422138064, .int 747366942354144947189664514522688829176892026300525457011368736, .int 1254508796094457589925508292234513391832640187004453445697654664, .int 2066249781802636030465543069562727939489054425654393910560842976, .int 3339636275239144281798959147316502134755564711232101785673920624, .int 5297354091758642653888004164708934420646757817816437315206908576, .int 8247017165578795949802915574603681995779611602736953547538028124, .int 12602183533918160103069623799394390465460979527777816656912042976, .int 18903275300877240154604435699091585698191469291666724985368064464, .int 27835592201291760227659278941519477841292932803113638989443083936, .int 40240584377954392503029174991544462531434348508849065060825327864, .int 57115668149354621617202699987998591980100365625463189118590787936, .int 79597367314526121615463337217317186695671786137613593346121204464, .int 108922713167246271684318250928960360741445602083050180368376385056, .int 146364895818487177575802649685790484746317527799098679870005767419, .int 193141305822333595151574630513208062345656119157573515704749878656, .int 250295365708534352900509980358953305284676807479712617290849332544, .int 318557738174498267327921793184122388544134118610543331097444605056, .int 398197172718122834159902241480152985680167648263179163871805756320, .int 488875736802447835998295821223158121033077112719150656634692215680, .int 589526623791187096350886137357337734186945930043681674177128848320, .int 698274253422571123833088434539759257969003917139118099510773975680, .int 812415237155106788305804813262604521290860326671473942700035106320, .int 928474556748693472349491215157262310046697516195970220228611550080, .int 1042344077859382294430089194374662404675066079503023171766082777920, .int 1149500945676701969558416120899160408893998106367819946433623998080, .int 1245292691149760467021617464307423776301831281898471608636425997920, .int 1325265616269469854811996567519827138082682832112134922952526750080, .int 1385504962463536666394360047861637462540986597208141055814005238720, .int 1422951042530118738459072481587627664231283532267820543808978353280, .int 1435655962552709084338171343030374339804777135234497512950129945720, .int 1422951042530118738459072481587627664231283532267820543808978353280, .int 1385504962463536666394360047861637462540986597208141055814005238720, .int 1325265616269469854811996567519827138082682832112134922952526750080, .int 1245292691149760467021617464307423776301831281898471608636425997920, .int 1149500945676701969558416120899160408893998106367819946433623998080, .int 1042344077859382294430089194374662404675066079503023171766082777920, .int 928474556748693472349491215157262310046697516195970220228611550080, .int 812415237155106788305804813262604521290860326671473942700035106320, .int 698274253422571123833088434539759257969003917139118099510773975680, .int 589526623791187096350886137357337734186945930043681674177128848320, .int 488875736802447835998295821223158121033077112719150656634692215680, .int 398197172718122834159902241480152985680167648263179163871805756320, .int 318557738174498267327921793184122388544134118610543331097444605056, .int 250295365708534352900509980358953305284676807479712617290849332544, .int 193141305822333595151574630513208062345656119157573515704749878656, .int 146364895818487177575802649685790484746317527799098679870005767419])
def ln8 : BA.D := (.list [.int 1, .int 256, .int 32640, .int 2763520, .int 174792640, .int 8809549056, .int 368532802176, .int 13161885792000, .int 409663695276000, .int 11288510714272000, .int 278826214642518400, .int 6235568072914502400, .int 127309514822004424000, .int 2389501662813006112000, .int 41474921718825748944000, .int 669128737063722082963200, .int 10078751602022313874633200, .int 142288257910903254700704000, .int 1889271868928104326303792000, .int 23665616042362569982121184000, .int 280437550101996454288136030400, .int 3151583896384341105333338246400, .int 33664646165923643625151567632000, .int 342501182731570982968933340256000, .int 3325115649019001626323394511652000, .int 30857073222896335092281101068130560, .int 274153227480348207935266705643775360, .int 2335379345202966215744864529558086400, .int 19100066787552830835913356331028635200, .int 150166042329725704503042939430156166400, .int 1136256386961591164073024908354848325760, .int 8283675595268374292919471912522442632960, .int 58244594029230756747090036884923424763000, .int 395357244319626954889338432188571125664000, .int 2593078396566965027656543246413275324208000, .int 16447525829653321032564360020107060627833600, .int 100969533565371776338797876790101677743089600, .int 600359388767075426879338726860064029823776000, .int 3459965951052355749646715294272474277142288000, .int 19340322495625988549307280362856394677359456000, .int 104921249538770987879991995968495941124675048800, .int 552755851228647155660445637297442031290970988800, .int 2829583524146646153976090762355953255418065776000, .int 14082113352729820394206591235911023178127118048000, .int 68170230548442085090136453028387453112297185096000, .int 321157530583771600869087289822625334662377849785600, .int 1473135629416865386595161264186390122038298397929600, .int 6582095365479611301808167350620040970809418373728000, .int 28659540237192474209956395339158095060399342502274000, .int 121656823864000706850427147562140485154348229397408000, .int 503659250796962926360768390907261608539001669705269120, .int 2034388346356360055496437029939135124686947920770302720, .int 8020184826981804064937876752644667318477390841498308800, .int 30870145371779019419760884104519096848479013805012358400, .int 116048879823539647077989990244766234448911848192916828800, .int 426215885897363794722799600535323261066912606090349080320, .int 1529810590453037906058619994778570990615168461145717234720, .int 5367756457729957565117964893959898212684801618055148192000, .int 18416957501521750956180603687896892143521991758499560176000, .int 61806060767818757446165415766162451600294141833608693472000, .int 202929899521004920281576448432233382754299099020348543566400, .int 652037054198638760248999735946192508522010219803087123590400, .int 2050761702721525133041208846927540954222451497767774017744000, .int 6315043973459934536666579623872110239986596675665843800672000, .int 19043804482465115087135154178239332442459580600054810211401500, .int 56252468625127724565076147726491566599265222695546516316755200, .int 162791234960596899877720366905452866976661477800748251765155200, .int 461646785709155387712938353910985742172622101226002505005664000, .int 1283106507338681886437431601311416253979787898995801080089272000, .int 3496000338835828907974451319515163126785509058133487000822944000, .int 9339315190890000082731748524990507210127002769585172416484150400, .int 24466375007120281906874721488003300578642570635814677034733126400, .int 62864991337739613232941992712230702875678827328134934047578172000, .int 158454224741699847052894885740417114097601427785983943352799776000, .int 391853015239609081225402217439139619998122449795068400453545392000, .int 950896650314784703773642714318978811195443811502699318433936817920, .int 2264635443512842518197754359101778484557570130026165482059770579520, .int 5293952984835216276306438761536625028835878226035192035983879276800, .int 12148943388275688634087853055321229232841310287952556082578389622400, .int 27373568647000918694527061314521250676528521914627278262012067756800, .int 60564020631489532611641123158378267121819354736112853154701699911920, .int 131595896680767379501837502171291049548644523871060026607746903512320, .int 280844901452857212351482474146047971597716971676042739711654977008000, .int 588759190997556083724794584354365627204852446646161888070216457824000, .int 1212563571935442886718922179682205398886184205592690555192231514328000, .int 2453658051445837370772407234180462689510866863081679711683103770169600, .int 4878785195316723144210251593544873487283235274267060822067566798825600, .int 9533258427630378557652215757501476929174137892245980916683751216096000, .int 18308189480335613366400277988838063648073060270336031533176749494548000, .int 34559279019060483657924120248593198796362630622656778624423527135776000, .int 64126662179812230787481423127945157766583992377596467003096989240828800, .int 116978306833503629788152925705921936145636733348143005741913189164588800, .int 209798050299218466467882964581273037652500663070039086384953002306056000, .int 369966454291094930115406518186330948118388266058993657711099918045088000, .int 641537574994132697966077260259276005779758376251233683052226453631376000, .int 1093990391042626284952679117494765399329693231081051122678533531455609600, .int 1834713051644404498722722269965179471792506356292179486992123943378678600, .int 3026330806836131131913768692726069231822690896976790906378761143717408000, .int 4910067329458620918104992062688214365916406659380711776675745120929264000, .int 7836269071257192980409987332371089594088810628102550108229977061685088000, .int 12302942441873792979243680111822610662719432686121003669921063986845588160, .int 19002564563686254502594198984597299637467638604305708638689960217306056960, .int 28876446150699700469628439633456680821641999839876321950950429741984694400, .int 43174492302987901673036696150993483946921048304281102722780254177336339200, .int 63516320407280278422832831837519260037297311447644314582551720087812114400, .int 91947435256253355431148480374313595482563727048018436348074870984261346560, .int 130981723808436383680220948457748612432708705511799848005276467156825125760, .int 183619238983789322916197591295909269765479493708130628044780094145081952000, .int 253326542672079714023272602806393344398670782986217255358076240996455656000, .int 343966314820805483260957295553634999733975008091377557733901685022710432000, .int 459664075260530963994188385876221317826312056267568190789850433621258486400, .int 604603198090428114803166705747101913537311353288873476174037507285619270400, .int 782745211813500684343385467261873013061697734168630839689602129967989234000, .int 997480623903930075623429268015130211335260829383033990400908908985756192000, .int 1251225694897035094860968292334768598429318408787490005502894508640027504000, .int 1544991727611991160610934760969888182408375774328900702447052349798990483200, .int 1877964082700782359018463804282364083789491242934267233146848114841876363200, .int 2247136509214611369765683184611375826756656188126473612312467829725322144000, .int 2647050633735855766079914937804925762026908560589659594164686680778133712000, .int 3069688970214689879991834129555292060165658666902294319283418167625062624000, .int 3504561574328437612990677297908958435355793644713452681181902408038613162400, .int 3939011356269979465840761260459655762052792856868012930915196094985548678400, .int 4358742074561042851545104673459455146533828161288374964537307154287287472000, .int 4748548276351054813878406717427373899475877834249123945105684216865825376000, .int 5093200973828147501982484624337425230889449612541399070153677426154473992000, .int 5378420228362523762093503763300321043819258790843717418082283362019124535552, .int 5591849602503893752652769785653508386827959536512118902926818416067502493312, .int 5723940537996111715313858835708315671556179053122641396696743260541537985280, .int 5768658823449206338089748357862286887740211701975162032608436567264518750790])
theorem u0 (a11 : Option BA.D) (s : Src) : nextOf [11] (KC.lapsM (gVar 11) (bd6 C4) (KC.seg 0 32) (row (some (.int 8)) none none none none none none (some (.int 128)) (some ln0) a11) s) = some (row (some (.int 8)) none none none none none none (some (.int 128)) (some ln1) none, s) := by kernel_rfl
theorem u1 (a11 : Option BA.D) (s : Src) : nextOf [11] (KC.lapsM (gVar 11) (bd6 C4) (KC.seg 32 32) (row (some (.int 8)) none none none none none none (some (.int 128)) (some ln1) a11) s) = some (row (some (.int 8)) none none none none none none (some (.int 128)) (some ln2) none, s) := by kernel_rfl
theorem u2 (a11 : Option BA.D) (s : Src) : nextOf [11] (KC.lapsM (gVar 11) (bd6 C4) (KC.seg 64 32) (row (some (.int 8)) none none none none none none (some (.int 128)) (some ln2) a11) s) = some (row (some (.int 8)) none none none none none none (some (.int 128)) (some ln3) none, s) := by kernel_rfl
theorem u3 (a11 : Option BA.D) (s : Src) : nextOf [11] (KC.lapsM (gVar 11) (bd6 C4) (KC.seg 96 32) (row (some (.int 8)) none none none none none none (some (.int 128)) (some ln3) a11) s) = some (row (some (.int 8)) none none none none none none (some (.int 128)) (some ln4) none, s) := by kernel_rfl
theorem u4 (a11 : Option BA.D) (s : Src) : nextOf [11] (KC.lapsM (gVar 11) (bd6 C4) (KC.seg 128 32) (row (some (.int 8)) none none none none none none (some (.int 128)) (some ln4) a11) s) = some (row (some (.int 8)) none none none none none none (some (.int 128)) (some ln5) none, s) := by kernel_rfl
theorem u5 (a11 : Option BA.D) (s : Src) : nextOf [11] (KC.lapsM (gVar 11) (bd6 C4) (KC.seg 160 32) (row (some (.int 8)) none none none none none none (some (.int 128)) (some ln5) a11) s) = some (row (some (.int 8)) none none none none none none (some (.int 128)) (some ln6) none, s) := by kernel_rfl
theorem u6 (a11 : Option BA.D) (s : Src) : nextOf [11] (KC.lapsM (gVar 11) (bd6 C4) (KC.seg 192 32) (row (some (.int 8)) none none none none none none (some (.int 128)) (some ln6) a11) s) = some (row (some (.int 8)) none none none none none none (some (.int 128)) (some ln7) none, s) := by kernel_rfl
theorem u7 (a11 : Option BA.D) (s : Src) : nextOf [11] (KC.lapsM (gVar 11) (bd6 C4) (KC.seg 224 32) (row (some (.int 8)) none none none none none none (some (.int 128)) (some ln7) a11) s) = some (row (some (.int 8)) none none none none none none (some (.int 128)) (some ln8) none, s) := by kernel_rfl
theorem g7 (s : Src) : retOf (r7 C4 (row (some (.int 8)) none none none none none none (some (.int 128)) (some ln8) none) s) = some (.bool true) := by kernel_rfl
end Z54

namespace Z54
open PySem PySem.Spec PyProof.Rows BA
open L2 hiding St

theorem len15 {ρ : Rho} (h : ρ.length = 15) : ∃ a0 a1 a2 a3 a4 a5 a6 a7 a8 a9 a10 a11 a12 a13 a14, ρ = [a0, a1, a2, a3, a4, a5, a6, a7, a8, a9, a10, a11, a12, a13, a14] := by
  match ρ, h with
  | [a0, a1, a2, a3, a4, a5, a6, a7, a8, a9, a10, a11, a12, a13, a14], _ => exact ⟨a0, a1, a2, a3, a4, a5, a6, a7, a8, a9, a10, a11, a12, a13, a14, rfl⟩
theorem junk2 {ρ : Rho} {n k : Option BA.D} (h : BA.blank ρ [4, 5, 6, 7, 8] = rho n k) : ∃ a4 a5 a6 a7 a8, ρ = row n k a4 a5 a6 a7 a8 none none none := by
  obtain ⟨a0, a1, a2, a3, a4, a5, a6, a7, a8, a9, a10, a11, a12, a13, a14, rfl⟩ := len15 (KC.blank_len h)
  have h : [a0, a1, a2, a3, none, none, none, none, none, a9, a10, a11, a12, a13, a14] = [none, some .none, n, k, none, none, none, none, none, none, none, none, none, none, none] := h
  simp only [List.cons.injEq, and_true, true_and] at h
  obtain ⟨rfl, rfl, rfl, rfl, rfl, rfl, rfl, rfl, rfl, rfl⟩ := h
  exact ⟨a4, a5, a6, a7, a8, rfl⟩
theorem junk6 {ρ : Rho} {n a9 b : Option BA.D} (h : BA.blank ρ [11] = row n none none none none none none a9 b none) : ∃ a11, ρ = row n none none none none none none a9 b a11 := by
  obtain ⟨a0, a1, a2, a3, a4, a5, a6, a7, a8, c9, a10, a11, a12, a13, a14, rfl⟩ := len15 (KC.blank_len h)
  have h : [a0, a1, a2, a3, a4, a5, a6, a7, a8, c9, a10, none, a12, a13, a14] = [none, some .none, n, none, none, none, none, none, none, a9, b, none, none, none, none] := h
  simp only [List.cons.injEq, and_true, true_and] at h
  obtain ⟨rfl, rfl, rfl, rfl, rfl, rfl, rfl, rfl, rfl, rfl, rfl, rfl, rfl, rfl⟩ := h
  exact ⟨a11, rfl⟩
theorem loop2 (C : Calls) (hi : ∀ s, (it2 C (rho (some (.int 3)) (some (.int 0))) : M (List BA.D)) s = .ok (KC.seg 0 256) s) (h0 : ∀ a4 a5 a6 a7 a8 s, nextOf [4, 5, 6, 7, 8] (KC.lapsM (gVar 4) (bd2 C) (KC.seg 0 32) (row (some (.int 3)) (some (.int 0)) a4 a5 a6 a7 a8 none none none) s) = some (rho (some (.int 3)) (some (.int 10)), s)) (h1 : ∀ a4 a5 a6 a7 a8 s, nextOf [4, 5, 6, 7, 8] (KC.lapsM (gVar 4) (bd2 C) (KC.seg 32 32) (row (some (.int 3)) (some (.int 10)) a4 a5 a6 a7 a8 none none none) s) = some (rho (some (.int 3)) (some (.int 20)), s)) (h2 : ∀ a4 a5 a6 a7 a8 s, nextOf [4, 5, 6, 7, 8] (KC.lapsM (gVar 4) (bd2 C) (KC.seg 64 32) (row (some (.int 3)) (some (.int 20)) a4 a5 a6 a7 a8 none none none) s) = some (rho (some (.int 3)) (some (.int 30)), s)) (h3 : ∀ a4 a5 a6 a7 a8 s, nextOf [4, 5, 6, 7, 8] (KC.lapsM (gVar 4) (bd2 C) (KC.seg 96 32) (row (some (.int 3)) (some (.int 30)) a4 a5 a6 a7 a8 none none none) s) = some (rho (some (.int 3)) (some (.int 35)), s)) (h4 : ∀ a4 a5 a6 a7 a8 s, nextOf [4, 5, 6, 7, 8] (KC.lapsM (gVar 4) (bd2 C) (KC.seg 128 32) (row (some (.int 3)) (some (.int 35)) a4 a5 a6 a7 a8 none none none) s) = some (rho (some (.int 3)) (some (.int 40)), s)) (h5 : ∀ a4 a5 a6 a7 a8 s, nextOf [4, 5, 6, 7, 8] (KC.lapsM (gVar 4) (bd2 C) (KC.seg 160 32) (row (some (.int 3)) (some (.int 40)) a4 a5 a6 a7 a8 none none none) s) = some (rho (some (.int 3)) (some (.int 50)), s)) (h6 : ∀ a4 a5 a6 a7 a8 s, nextOf [4, 5, 6, 7, 8] (KC.lapsM (gVar 4) (bd2 C) (KC.seg 192 32) (row (some (.int 3)) (some (.int 50)) a4 a5 a6 a7 a8 none none none) s) = some (rho (some (.int 3)) (some (.int 60)), s)) (h7 : ∀ a4 a5 a6 a7 a8 s, nextOf [4, 5, 6, 7, 8] (KC.lapsM (gVar 4) (bd2 C) (KC.seg 224 32) (row (some (.int 3)) (some (.int 60)) a4 a5 a6 a7 a8 none none none) s) = some (rho (some (.int 3)) (some (.int 70)), s)) (s : Src) (P : Fl → Src → Prop) (k : ∀ a4 a5 a6 a7 a8, P (.next (row (some (.int 3)) (some (.int 70)) a4 a5 a6 a7 a8 none none none)) s) : Post (l2 C (rho (some (.int 3)) (some (.int 0)))) P s := by
  rw [l2_is]
  refine KC.for_goP (hi s) ?_
  have e : rho (some (.int 3)) (some (.int 0)) = row (some (.int 3)) (some (.int 0)) none none none none none none none none := rfl
  rw [e]
  refine KC.chunkP (KC.seg_cut 0 32 224) (h0 _ _ _ _ _ s) fun ρ hρ => ?_
  obtain ⟨b4, b5, b6, b7, b8, rfl⟩ := junk2 hρ
  refine KC.chunkP (KC.seg_cut 32 32 192) (h1 _ _ _ _ _ s) fun ρ hρ => ?_
  obtain ⟨b4, b5, b6, b7, b8, rfl⟩ := junk2 hρ
  refine KC.chunkP (KC.seg_cut 64 32 160) (h2 _ _ _ _ _ s) fun ρ hρ => ?_
  obtain ⟨b4, b5, b6, b7, b8, rfl⟩ := junk2 hρ
  refine KC.chunkP (KC.seg_cut 96 32 128) (h3 _ _ _ _ _ s) fun ρ hρ => ?_
  obtain ⟨b4, b5, b6, b7, b8, rfl⟩ := junk2 hρ
  refine KC.chunkP (KC.seg_cut 128 32 96) (h4 _ _ _ _ _ s) fun ρ hρ => ?_
  obtain ⟨b4, b5, b6, b7, b8, rfl⟩ := junk2 hρ
  refine KC.chunkP (KC.seg_cut 160 32 64) (h5 _ _ _ _ _ s) fun ρ hρ => ?_
  obtain ⟨b4, b5, b6, b7, b8, rfl⟩ := junk2 hρ
  refine KC.chunkP (KC.seg_cut 192 32 32) (h6 _ _ _ _ _ s) fun ρ hρ => ?_
  obtain ⟨b4, b5, b6, b7, b8, rfl⟩ := junk2 hρ
  refine KC.chunkP (KC.seg_cut 224 32 0) (h7 _ _ _ _ _ s) fun ρ hρ => ?_
  obtain ⟨b4, b5, b6, b7, b8, rfl⟩ := junk2 hρ
  exact KC.for_endP (k _ _ _ _ _)
theorem loop6 (C : Calls) (hi : ∀ s, (it6 C (row (some (.int 8)) none none none none none none (some (.int 128)) (some ln0) none) : M (List BA.D)) s = .ok (KC.seg 0 256) s) (h0 : ∀ a11 s, nextOf [11] (KC.lapsM (gVar 11) (bd6 C) (KC.seg 0 32) (row (some (.int 8)) none none none none none none (some (.int 128)) (some ln0) a11) s) = some (row (some (.int 8)) none none none none none none (some (.int 128)) (some ln1) none, s)) (h1 : ∀ a11 s, nextOf [11] (KC.lapsM (gVar 11) (bd6 C) (KC.seg 32 32) (row (some (.int 8)) none none none none none none (some (.int 128)) (some ln1) a11) s) = some (row (some (.int 8)) none none none none none none (some (.int 128)) (some ln2) none, s)) (h2 : ∀ a11 s, nextOf [11] (KC.lapsM (gVar 11) (bd6 C) (KC.seg 64 32) (row (some (.int 8)) none none none none none none (some (.int 128)) (some ln2) a11) s) = some (row (some (.int 8)) none none none none none none (some (.int 128)) (some ln3) none, s)) (h3 : ∀ a11 s, nextOf [11] (KC.lapsM (gVar 11) (bd6 C) (KC.seg 96 32) (row (some (.int 8)) none none none none none none (some (.int 128)) (some ln3) a11) s) = some (row (some (.int 8)) none none none none none none (some (.int 128)) (some ln4) none, s)) (h4 : ∀ a11 s, nextOf [11] (KC.lapsM (gVar 11) (bd6 C) (KC.seg 128 32) (row (some (.int 8)) none none none none none none (some (.int 128)) (some ln4) a11) s) = some (row (some (.int 8)) none none none none none none (some (.int 128)) (some ln5) none, s)) (h5 : ∀ a11 s, nextOf [11] (KC.lapsM (gVar 11) (bd6 C) (KC.seg 160 32) (row (some (.int 8)) none none none none none none (some (.int 128)) (some ln5) a11) s) = some (row (some (.int 8)) none none none none none none (some (.int 128)) (some ln6) none, s)) (h6 : ∀ a11 s, nextOf [11] (KC.lapsM (gVar 11) (bd6 C) (KC.seg 192 32) (row (some (.int 8)) none none none none none none (some (.int 128)) (some ln6) a11) s) = some (row (some (.int 8)) none none none none none none (some (.int 128)) (some ln7) none, s)) (h7 : ∀ a11 s, nextOf [11] (KC.lapsM (gVar 11) (bd6 C) (KC.seg 224 32) (row (some (.int 8)) none none none none none none (some (.int 128)) (some ln7) a11) s) = some (row (some (.int 8)) none none none none none none (some (.int 128)) (some ln8) none, s)) (s : Src) (P : Fl → Src → Prop) (k : ∀ a11, P (.next (row (some (.int 8)) none none none none none none (some (.int 128)) (some ln8) a11)) s) : Post (l6 C (row (some (.int 8)) none none none none none none (some (.int 128)) (some ln0) none)) P s := by
  rw [l6_is]
  refine KC.for_goP (hi s) ?_
  refine KC.chunkP (KC.seg_cut 0 32 224) (h0 _ s) fun ρ hρ => ?_
  obtain ⟨b11, rfl⟩ := junk6 hρ
  refine KC.chunkP (KC.seg_cut 32 32 192) (h1 _ s) fun ρ hρ => ?_
  obtain ⟨b11, rfl⟩ := junk6 hρ
  refine KC.chunkP (KC.seg_cut 64 32 160) (h2 _ s) fun ρ hρ => ?_
  obtain ⟨b11, rfl⟩ := junk6 hρ
  refine KC.chunkP (KC.seg_cut 96 32 128) (h3 _ s) fun ρ hρ => ?_
  obtain ⟨b11, rfl⟩ := junk6 hρ
  refine KC.chunkP (KC.seg_cut 128 32 96) (h4 _ s) fun ρ hρ => ?_
  obtain ⟨b11, rfl⟩ := junk6 hρ
  refine KC.chunkP (KC.seg_cut 160 32 64) (h5 _ s) fun ρ hρ => ?_
  obtain ⟨b11, rfl⟩ := junk6 hρ
  refine KC.chunkP (KC.seg_cut 192 32 32) (h6 _ s) fun ρ hρ => ?_
  obtain ⟨b11, rfl⟩ := junk6 hρ
  refine KC.chunkP (KC.seg_cut 224 32 0) (h7 _ s) fun ρ hρ => ?_
  obtain ⟨b11, rfl⟩ := junk6 hρ
  exact KC.for_endP (k _)
theorem last8 (C : Calls) (h5 : ∀ s, nextOf [3, 4, 5, 6, 7, 8, 11, 12, 13, 14] (l5 C (rho (some (.int 8)) none) s) = some (row (some (.int 8)) none none none none none none (some (.int 128)) (some ln0) none, s))
    (hl : ∀ s (P : Fl → Src → Prop), (∀ a11, P (.next (row (some (.int 8)) none none none none none none (some (.int 128)) (some ln8) a11)) s) → Post (l6 C (row (some (.int 8)) none none none none none none (some (.int 128)) (some ln0) none)) P s)
    (h7 : ∀ s, retOf (r7 C (row (some (.int 8)) none none none none none none (some (.int 128)) (some ln8) none) s) = some (.bool true)) (s : Src) : Post (r5 C (rho (some (.int 8)) none)) (fun f _ => f = .ret (.bool true)) s := by
  unfold r5
  refine KC.cut (h5 s) ?_
  unfold r6
  refine KC.step (hl s _ fun a11 => ⟨_, rfl, ?_⟩)
  exact KC.ret (h7 s)
theorem last1 (C : Calls) (hp : Picks C 12) (h : ∀ n : Int, 1 ≤ n → n ≤ 8 → ∀ s, Post (r5 C (rho (some (.int n)) none)) (fun f _ => f = .ret (.bool true)) s) (s : Src) (ok : SrcOkk s) : Post (r4 C (rho none none)) (fun f _ => f = .ret (.bool true)) s := by
  unfold r4 l4
  refine KC.pick hp (by decide) (by decide) ok rfl fun r s1 g0 g1 _ => ?_
  have e : BA.blank (setV (rho none none) 2 (.int (1 + r))) [3, 4, 5, 6, 7, 8, 9, 10, 11, 12, 13, 14] = rho (some (.int (1 + r))) none := rfl
  rw [e]
  exact h _ (by omega) (by omega) s1
theorem main1 (C : Calls) (hp : Picks C 12) (hs : ∀ n s, nextOf [4, 5, 6, 7, 8, 9, 10, 11, 12, 13, 14] (l1 C (rho (some (.int n)) none) s) = some (rho (some (.int n)) (some (.int 0)), s))
    (h1 : ∀ s, nextOf [4, 5, 6, 7, 8, 9, 10, 11, 12, 13, 14] (l2 C (rho (some (.int 1)) (some (.int 0))) s) = some (rho (some (.int 1)) (some (.int 2)), s)) (h2 : ∀ s, nextOf [4, 5, 6, 7, 8, 9, 10, 11, 12, 13, 14] (l2 C (rho (some (.int 2)) (some (.int 0))) s) = some (rho (some (.int 2)) (some (.int 6)), s))
    (h3 : ∀ s (P : Fl → Src → Prop), (∀ a4 a5 a6 a7 a8, P (.next (row (some (.int 3)) (some (.int 70)) a4 a5 a6 a7 a8 none none none)) s) → Post (l2 C (rho (some (.int 3)) (some (.int 0)))) P s)
    (k1 : ∀ s, nextOf [2, 3, 4, 5, 6, 7, 8, 9, 10, 11, 12, 13, 14] (l3 C (rho (some (.int 1)) (some (.int 2))) s) = some (rho none none, s)) (k2 : ∀ s, nextOf [2, 3, 4, 5, 6, 7, 8, 9, 10, 11, 12, 13, 14] (l3 C (rho (some (.int 2)) (some (.int 6))) s) = some (rho none none, s))
    (k3 : ∀ s, nextOf [2, 3, 4, 5, 6, 7, 8, 9, 10, 11, 12, 13, 14] (l3 C (rho (some (.int 3)) (some (.int 70))) s) = some (rho none none, s))
    (fin : ∀ s, SrcOkk s → Post (r4 C (rho none none)) (fun f _ => f = .ret (.bool true)) s) (s : Src) (ok : SrcOkk s) : Post (mlaw C (lawRho 15 1)) (fun f _ => f = .ret (.bool true)) s := by
  show Post (sSeqF l0 [3, 4, 5, 6, 7, 8, 9, 10, 11, 12, 13, 14] r1 C (lawRho 15 1)) (fun f _ => f = .ret (.bool true)) s
  unfold l0
  refine KC.pick hp (by decide) (by decide) ok rfl fun r s1 g0 g1 ok1 => ?_
  rw [b1 C]
  unfold r1
  refine KC.cut (hs _ s1) ?_
  unfold r2
  have hr : r = 0 ∨ r = 1 ∨ r = 2 := by omega
  rcases hr with rfl | rfl | rfl
  · refine KC.cut (h1 s1) ?_
    unfold r3
    exact KC.cut (k1 s1) (fin s1 ok1)
  · refine KC.cut (h2 s1) ?_
    unfold r3
    exact KC.cut (k2 s1) (fin s1 ok1)
  · refine KC.step (h3 s1 _ fun a4 a5 a6 a7 a8 => ⟨_, rfl, ?_⟩)
    unfold r3
    exact KC.cut (k3 s1) (fin s1 ok1)
theorem fs (n : Int) (a : 1 ≤ n) (b : n ≤ 8) (s : Src) : Post (r5 C4 (rho (some (.int n)) none)) (fun f _ => f = .ret (.bool true)) s := by
  have h : n = 1 ∨ n = 2 ∨ n = 3 ∨ n = 4 ∨ n = 5 ∨ n = 6 ∨ n = 7 ∨ n = 8 := by omega
  rcases h with rfl | rfl | rfl | rfl | rfl | rfl | rfl | rfl
  · exact KC.ret (f1 s)
  · exact KC.ret (f2 s)
  · exact KC.ret (f3 s)
  · exact KC.ret (f4 s)
  · exact KC.ret (f5 s)
  · exact KC.ret (f6 s)
  · exact KC.ret (f7 s)
  · exact last8 C4 g5 (loop6 C4 it6_8 u0 u1 u2 u3 u4 u5 u6 u7) g7 s
theorem plain (s : Src) (fr : Fresh s) : Post (mlaw (CC (depth + 1)) (lawRho 15 1)) (fun f _ => f = .ret (.bool true)) s := main1 (CC (depth + 1)) picks s1 lap1 lap2 (loop2 C4 it2_3 c0 c1 c2 c3 c4 c5 c6 c7) t1 t2 t3 (last1 (CC (depth + 1)) picks fs) s fr.okk
end Z54

namespace Z54
open PySem PySem.Spec PyProof.Rows BA
open L2 hiding St
def tx {K : PySem.W.Frag} {h : Heap} {mg : Str → Option Value} (X : K.In h) (G : h.Ns mainGlobals mg) {f0 : Addr} {od0 an0 : Option Addr} {sl0 : Array (Option Value)} {oc0 kV0 dc0 pm0 cd0 ct0 : Value} {f1 : Addr} {od1 an1 : Option Addr} {sl1 : Array (Option Value)} {oc1 kV1 dc1 pm1 cd1 ct1 : Value} {f2 : Addr} {od2 an2 : Option Addr} {sl2 : Array (Option Value)} {oc2 kV2 dc2 pm2 cd2 ct2 : Value} {f3 : Addr} {od3 an3 : Option Addr} {sl3 : Array (Option Value)} {oc3 kV3 dc3 pm3 cd3 ct3 : Value} {f4 : Addr} {od4 an4 : Option Addr} {sl4 : Array (Option Value)} {oc4 kV4 dc4 pm4 cd4 ct4 : Value} {f5 : Addr} {od5 an5 : Option Addr} {sl5 : Array (Option Value)} {oc5 kV5 dc5 pm5 cd5 ct5 : Value} {f6 : Addr} {od6 an6 : Option Addr} {sl6 : Array (Option Value)} {oc6 kV6 dc6 pm6 cd6 ct6 : Value} {f7 : Addr} {od7 an7 : Option Addr} {sl7 : Array (Option Value)} {oc7 kV7 dc7 pm7 cd7 ct7 : Value} {cc7 pp7 : Addr} {oo7 : Value} {ou7 : Option Addr} {vv7 : Array Value} {ow7 : Array (Option Value)} {f8 : Addr} {od8 an8 : Option Addr} {sl8 : Array (Option Value)} {oc8 kV8 dc8 pm8 cd8 ct8 : Value} {f9 : Addr} {od9 an9 : Option Addr} {sl9 : Array (Option Value)} {oc9 kV9 dc9 pm9 cd9 ct9 : Value} {f10 : Addr} {od10 an10 : Option Addr} {sl10 : Array (Option Value)} {oc10 kV10 dc10 pm10 cd10 ct10 : Value} {f11 : Addr} {od11 an11 : Option Addr} {sl11 : Array (Option Value)} {oc11 kV11 dc11 pm11 cd11 ct11 : Value} {f12 : Addr} {od12 an12 : Option Addr} {sl12 : Array (Option Value)} {oc12 kV12 dc12 pm12 cd12 ct12 : Value} {f13 : Addr} {od13 an13 : Option Addr} {sl13 : Array (Option Value)} {oc13 kV13 dc13 pm13 cd13 ct13 : Value} {ts : List Addr}
    (a0 : PySem.W.nsIn K mainGlobals "bit_of" = some (some (.ref f0))) (l0 : K.lookup f0 = some ⟨oc0, od0, .func (PySem.W.fnOf "bit_of" "bit_of" (defArgs (topS 1)) (defBody (topS 1)) (defScope (topS 1)) .none kV0 dc0 pm0 an0 cd0 ct0), sl0⟩) (c0 : PySem.W.codeIn K cd0 "bit_of" = true) (k0 : PySem.W.keepIn K (.ref f0) = true)
    (a1 : PySem.W.nsIn K mainGlobals "input_sum" = some (some (.ref f1))) (l1 : K.lookup f1 = some ⟨oc1, od1, .func (PySem.W.fnOf "input_sum" "input_sum" (defArgs (topS 2)) (defBody (topS 2)) (defScope (topS 2)) .none kV1 dc1 pm1 an1 cd1 ct1), sl1⟩) (c1 : PySem.W.codeIn K cd1 "input_sum" = true) (k1 : PySem.W.keepIn K (.ref f1) = true)
    (a2 : PySem.W.nsIn K mainGlobals "does_meet" = some (some (.ref f2))) (l2 : K.lookup f2 = some ⟨oc2, od2, .func (PySem.W.fnOf "does_meet" "does_meet" (defArgs (topS 3)) (defBody (topS 3)) (defScope (topS 3)) .none kV2 dc2 pm2 an2 cd2 ct2), sl2⟩) (c2 : PySem.W.codeIn K cd2 "does_meet" = true) (k2 : PySem.W.keepIn K (.ref f2) = true)
    (a3 : PySem.W.nsIn K mainGlobals "set_by" = some (some (.ref f3))) (l3 : K.lookup f3 = some ⟨oc3, od3, .func (PySem.W.fnOf "set_by" "set_by" (defArgs (topS 4)) (defBody (topS 4)) (defScope (topS 4)) .none kV3 dc3 pm3 an3 cd3 ct3), sl3⟩) (c3 : PySem.W.codeIn K cd3 "set_by" = true) (k3 : PySem.W.keepIn K (.ref f3) = true)
    (a4 : PySem.W.nsIn K mainGlobals "weight_row" = some (some (.ref f4))) (l4 : K.lookup f4 = some ⟨oc4, od4, .func (PySem.W.fnOf "weight_row" "weight_row" (defArgs (topS 6)) (defBody (topS 6)) (defScope (topS 6)) .none kV4 dc4 pm4 an4 cd4 ct4), sl4⟩) (c4 : PySem.W.codeIn K cd4 "weight_row" = true) (k4 : PySem.W.keepIn K (.ref f4) = true)
    (a5 : PySem.W.nsIn K mainGlobals "even_less_odd" = some (some (.ref f5))) (l5 : K.lookup f5 = some ⟨oc5, od5, .func (PySem.W.fnOf "even_less_odd" "even_less_odd" (defArgs (topS 7)) (defBody (topS 7)) (defScope (topS 7)) .none kV5 dc5 pm5 an5 cd5 ct5), sl5⟩) (c5 : PySem.W.codeIn K cd5 "even_less_odd" = true) (k5 : PySem.W.keepIn K (.ref f5) = true)
    (a6 : PySem.W.nsIn K mainGlobals "count_balanced" = some (some (.ref f6))) (l6 : K.lookup f6 = some ⟨oc6, od6, .func (PySem.W.fnOf "count_balanced" "count_balanced" (defArgs (topS 8)) (defBody (topS 8)) (defScope (topS 8)) .none kV6 dc6 pm6 an6 cd6 ct6), sl6⟩) (c6 : PySem.W.codeIn K cd6 "count_balanced" = true) (k6 : PySem.W.keepIn K (.ref f6) = true)
    (a7 : PySem.W.nsIn K mainGlobals "all_papers" = some (some (.ref f7))) (l7 : K.lookup f7 = some ⟨oc7, od7, .func (PySem.W.fnOf "all_papers" "all_papers" (defArgs (topS 10)) (defBody (topS 10)) (defScope (topS 10)) .none kV7 dc7 pm7 an7 cd7 ct7), sl7⟩) (c7 : PySem.W.codeIn K cd7 "all_papers" = true) (k7 : PySem.W.keepIn K (.ref f7) = true) (e7 : cd7 = .ref cc7) (o7 : K.lookup cc7 = some ⟨oo7, ou7, .fields vv7, ow7⟩) (v7 : vv7[11]? = some (.ref pp7)) (n7 : K.lookup pp7 = none) (q7 : PySem.W.codeHdIn K cc7 pp7 = true) (m7 : pp7 ∈ ts)
    (a8 : PySem.W.nsIn K mainGlobals "best_trees" = some (some (.ref f8))) (l8 : K.lookup f8 = some ⟨oc8, od8, .func (PySem.W.fnOf "best_trees" "best_trees" (defArgs (topS 11)) (defBody (topS 11)) (defScope (topS 11)) .none kV8 dc8 pm8 an8 cd8 ct8), sl8⟩) (c8 : PySem.W.codeIn K cd8 "best_trees" = true) (k8 : PySem.W.keepIn K (.ref f8) = true)
    (a9 : PySem.W.nsIn K mainGlobals "by_depth" = some (some (.ref f9))) (l9 : K.lookup f9 = some ⟨oc9, od9, .func (PySem.W.fnOf "by_depth" "by_depth" (defArgs (topS 12)) (defBody (topS 12)) (defScope (topS 12)) .none kV9 dc9 pm9 an9 cd9 ct9), sl9⟩) (c9 : PySem.W.codeIn K cd9 "by_depth" = true) (k9 : PySem.W.keepIn K (.ref f9) = true)
    (a10 : PySem.W.nsIn K mainGlobals "fewest_asks" = some (some (.ref f10))) (l10 : K.lookup f10 = some ⟨oc10, od10, .func (PySem.W.fnOf "fewest_asks" "fewest_asks" (defArgs (topS 13)) (defBody (topS 13)) (defScope (topS 13)) .none kV10 dc10 pm10 an10 cd10 ct10), sl10⟩) (c10 : PySem.W.codeIn K cd10 "fewest_asks" = true) (k10 : PySem.W.keepIn K (.ref f10) = true)
    (a11 : PySem.W.nsIn K mainGlobals "_law_source" = some (some (.ref f11))) (l11 : K.lookup f11 = some ⟨oc11, od11, .func (PySem.W.fnOf "_law_source" "_law_source" (defArgs (topS 15)) (defBody (topS 15)) (defScope (topS 15)) .none kV11 dc11 pm11 an11 cd11 ct11), sl11⟩) (c11 : PySem.W.codeIn K cd11 "_law_source" = true) (k11 : PySem.W.keepIn K (.ref f11) = true)
    (a12 : PySem.W.nsIn K mainGlobals "_law_pick" = some (some (.ref f12))) (l12 : K.lookup f12 = some ⟨oc12, od12, .func (PySem.W.fnOf "_law_pick" "_law_pick" (defArgs (topS 16)) (defBody (topS 16)) (defScope (topS 16)) .none kV12 dc12 pm12 an12 cd12 ct12), sl12⟩) (c12 : PySem.W.codeIn K cd12 "_law_pick" = true) (k12 : PySem.W.keepIn K (.ref f12) = true)
    (a13 : PySem.W.nsIn K mainGlobals "law" = some (some (.ref f13))) (l13 : K.lookup f13 = some ⟨oc13, od13, .func (PySem.W.fnOf "law" "law" (defArgs (topS 17)) (defBody (topS 17)) (defScope (topS 17)) .none kV13 dc13 pm13 an13 cd13 ct13), sl13⟩) (c13 : PySem.W.codeIn K cd13 "law" = true) (k13 : PySem.W.keepIn K (.ref f13) = true)
    (z_abs : PySem.W.nsIn K mainGlobals "abs" = some none)
    (z_all : PySem.W.nsIn K mainGlobals "all" = some none)
    (z_enumerate : PySem.W.nsIn K mainGlobals "enumerate" = some none)
    (z_int : PySem.W.nsIn K mainGlobals "int" = some none)
    (z_len : PySem.W.nsIn K mainGlobals "len" = some none)
    (z_list : PySem.W.nsIn K mainGlobals "list" = some none)
    (z_max : PySem.W.nsIn K mainGlobals "max" = some none)
    (z_min : PySem.W.nsIn K mainGlobals "min" = some none)
    (z_range : PySem.W.nsIn K mainGlobals "range" = some none)
    (z_repr : PySem.W.nsIn K mainGlobals "repr" = some none)
    (z_sorted : PySem.W.nsIn K mainGlobals "sorted" = some none)
    (z_sum : PySem.W.nsIn K mainGlobals "sum" = some none)
    (z_tuple : PySem.W.nsIn K mainGlobals "tuple" = some none)
    (z_zip : PySem.W.nsIn K mainGlobals "zip" = some none)
    : Tx K mg where
  f0 := f0
  fd0 := _
  F0 := fun_mk (st := topS 1) l0 c0 k0
  g0 := PySem.W.mg_of X G a0
  b0 := (fun_mk (st := topS 1) l0 c0 k0).binds (ps := ["x", "i"]) fun _ _ _ _ _ _ us hl => match us, hl with | [_, _], _ => rfl
  f1 := f1
  fd1 := _
  F1 := fun_mk (st := topS 2) l1 c1 k1
  g1 := PySem.W.mg_of X G a1
  b1 := (fun_mk (st := topS 2) l1 c1 k1).binds (ps := ["x"]) fun _ _ _ _ _ _ us hl => match us, hl with | [_], _ => rfl
  f2 := f2
  fd2 := _
  F2 := fun_mk (st := topS 3) l2 c2 k2
  g2 := PySem.W.mg_of X G a2
  b2 := (fun_mk (st := topS 3) l2 c2 k2).binds (ps := ["x", "paper"]) fun _ _ _ _ _ _ us hl => match us, hl with | [_, _], _ => rfl
  f3 := f3
  fd3 := _
  F3 := fun_mk (st := topS 4) l3 c3 k3
  g3 := PySem.W.mg_of X G a3
  b3 := (fun_mk (st := topS 4) l3 c3 k3).binds (ps := ["f", "paper"]) fun _ _ _ _ _ _ us hl => match us, hl with | [_, _], _ => rfl
  f4 := f4
  fd4 := _
  F4 := fun_mk (st := topS 6) l4 c4 k4
  g4 := PySem.W.mg_of X G a4
  b4 := (fun_mk (st := topS 6) l4 c4 k4).binds (ps := ["f"]) fun _ _ _ _ _ _ us hl => match us, hl with | [_], _ => rfl
  f5 := f5
  fd5 := _
  F5 := fun_mk (st := topS 7) l5 c5 k5
  g5 := PySem.W.mg_of X G a5
  b5 := (fun_mk (st := topS 7) l5 c5 k5).binds (ps := ["f"]) fun _ _ _ _ _ _ us hl => match us, hl with | [_], _ => rfl
  f6 := f6
  fd6 := _
  F6 := fun_mk (st := topS 8) l6 c6 k6
  g6 := PySem.W.mg_of X G a6
  b6 := (fun_mk (st := topS 8) l6 c6 k6).binds (ps := ["n"]) fun _ _ _ _ _ _ us hl => match us, hl with | [_], _ => rfl
  cc7 := cc7
  pp7 := pp7
  hc7 := e7
  f7 := f7
  fd7 := _
  F7 := fun_mk (st := topS 10) l7 c7 k7
  g7 := PySem.W.mg_of X G a7
  b7 := (fun_mk (st := topS 10) l7 c7 k7).binds (ps := ["n"]) fun _ _ _ _ _ _ us hl => match us, hl with | [_], _ => rfl
  f8 := f8
  fd8 := _
  F8 := fun_mk (st := topS 11) l8 c8 k8
  g8 := PySem.W.mg_of X G a8
  b8 := (fun_mk (st := topS 11) l8 c8 k8).binds (ps := ["f", "worth"]) fun _ _ _ _ _ _ us hl => match us, hl with | [_, _], _ => rfl
  f9 := f9
  fd9 := _
  F9 := fun_mk (st := topS 12) l9 c9 k9
  g9 := PySem.W.mg_of X G a9
  b9 := (fun_mk (st := topS 12) l9 c9 k9).binds (ps := ["zero", "one"]) fun _ _ _ _ _ _ us hl => match us, hl with | [_, _], _ => rfl
  f10 := f10
  fd10 := _
  F10 := fun_mk (st := topS 13) l10 c10 k10
  g10 := PySem.W.mg_of X G a10
  b10 := (fun_mk (st := topS 13) l10 c10 k10).binds (ps := ["f"]) fun _ _ _ _ _ _ us hl => match us, hl with | [_], _ => rfl
  f11 := f11
  fd11 := _
  F11 := fun_mk (st := topS 15) l11 c11 k11
  g11 := PySem.W.mg_of X G a11
  b11 := (fun_mk (st := topS 15) l11 c11 k11).binds (ps := ["script"]) fun _ _ _ _ _ _ us hl => match us, hl with | [_], _ => rfl
  f12 := f12
  fd12 := _
  F12 := fun_mk (st := topS 16) l12 c12 k12
  g12 := PySem.W.mg_of X G a12
  b12 := (fun_mk (st := topS 16) l12 c12 k12).binds (ps := ["source", "many"]) fun _ _ _ _ _ _ us hl => match us, hl with | [_, _], _ => rfl
  f13 := f13
  fd13 := _
  F13 := fun_mk (st := topS 17) l13 c13 k13
  g13 := PySem.W.mg_of X G a13
  b13 := (fun_mk (st := topS 17) l13 c13 k13).binds (ps := ["script"]) fun _ _ _ _ _ _ us hl => match us, hl with | [_], _ => rfl
  z_abs := PySem.W.mg_none_of X G z_abs
  z_all := PySem.W.mg_none_of X G z_all
  z_enumerate := PySem.W.mg_none_of X G z_enumerate
  z_int := PySem.W.mg_none_of X G z_int
  z_len := PySem.W.mg_none_of X G z_len
  z_list := PySem.W.mg_none_of X G z_list
  z_max := PySem.W.mg_none_of X G z_max
  z_min := PySem.W.mg_none_of X G z_min
  z_range := PySem.W.mg_none_of X G z_range
  z_repr := PySem.W.mg_none_of X G z_repr
  z_sorted := PySem.W.mg_none_of X G z_sorted
  z_sum := PySem.W.mg_none_of X G z_sum
  z_tuple := PySem.W.mg_none_of X G z_tuple
  z_zip := PySem.W.mg_none_of X G z_zip
end Z54
namespace Z54
open PySem PySem.Spec PyProof.Rows BA
open L2 hiding St
theorem fin {w : World} {K : PySem.W.Frag} {h : Heap} {mg : Str → Option Value} {fa : Addr} (X : K.In h) (G : h.Ns mainGlobals mg) (hfa : mg "law" = some (.ref fa)) {f0 : Addr} {od0 an0 : Option Addr} {sl0 : Array (Option Value)} {oc0 kV0 dc0 pm0 cd0 ct0 : Value} {f1 : Addr} {od1 an1 : Option Addr} {sl1 : Array (Option Value)} {oc1 kV1 dc1 pm1 cd1 ct1 : Value} {f2 : Addr} {od2 an2 : Option Addr} {sl2 : Array (Option Value)} {oc2 kV2 dc2 pm2 cd2 ct2 : Value} {f3 : Addr} {od3 an3 : Option Addr} {sl3 : Array (Option Value)} {oc3 kV3 dc3 pm3 cd3 ct3 : Value} {f4 : Addr} {od4 an4 : Option Addr} {sl4 : Array (Option Value)} {oc4 kV4 dc4 pm4 cd4 ct4 : Value} {f5 : Addr} {od5 an5 : Option Addr} {sl5 : Array (Option Value)} {oc5 kV5 dc5 pm5 cd5 ct5 : Value} {f6 : Addr} {od6 an6 : Option Addr} {sl6 : Array (Option Value)} {oc6 kV6 dc6 pm6 cd6 ct6 : Value} {f7 : Addr} {od7 an7 : Option Addr} {sl7 : Array (Option Value)} {oc7 kV7 dc7 pm7 cd7 ct7 : Value} {cc7 pp7 : Addr} {oo7 : Value} {ou7 : Option Addr} {vv7 : Array Value} {ow7 : Array (Option Value)} {f8 : Addr} {od8 an8 : Option Addr} {sl8 : Array (Option Value)} {oc8 kV8 dc8 pm8 cd8 ct8 : Value} {f9 : Addr} {od9 an9 : Option Addr} {sl9 : Array (Option Value)} {oc9 kV9 dc9 pm9 cd9 ct9 : Value} {f10 : Addr} {od10 an10 : Option Addr} {sl10 : Array (Option Value)} {oc10 kV10 dc10 pm10 cd10 ct10 : Value} {f11 : Addr} {od11 an11 : Option Addr} {sl11 : Array (Option Value)} {oc11 kV11 dc11 pm11 cd11 ct11 : Value} {f12 : Addr} {od12 an12 : Option Addr} {sl12 : Array (Option Value)} {oc12 kV12 dc12 pm12 cd12 ct12 : Value} {f13 : Addr} {od13 an13 : Option Addr} {sl13 : Array (Option Value)} {oc13 kV13 dc13 pm13 cd13 ct13 : Value} {ts : List Addr}
    (a0 : PySem.W.nsIn K mainGlobals "bit_of" = some (some (.ref f0))) (l0 : K.lookup f0 = some ⟨oc0, od0, .func (PySem.W.fnOf "bit_of" "bit_of" (defArgs (topS 1)) (defBody (topS 1)) (defScope (topS 1)) .none kV0 dc0 pm0 an0 cd0 ct0), sl0⟩) (c0 : PySem.W.codeIn K cd0 "bit_of" = true) (k0 : PySem.W.keepIn K (.ref f0) = true)
    (a1 : PySem.W.nsIn K mainGlobals "input_sum" = some (some (.ref f1))) (l1 : K.lookup f1 = some ⟨oc1, od1, .func (PySem.W.fnOf "input_sum" "input_sum" (defArgs (topS 2)) (defBody (topS 2)) (defScope (topS 2)) .none kV1 dc1 pm1 an1 cd1 ct1), sl1⟩) (c1 : PySem.W.codeIn K cd1 "input_sum" = true) (k1 : PySem.W.keepIn K (.ref f1) = true)
    (a2 : PySem.W.nsIn K mainGlobals "does_meet" = some (some (.ref f2))) (l2 : K.lookup f2 = some ⟨oc2, od2, .func (PySem.W.fnOf "does_meet" "does_meet" (defArgs (topS 3)) (defBody (topS 3)) (defScope (topS 3)) .none kV2 dc2 pm2 an2 cd2 ct2), sl2⟩) (c2 : PySem.W.codeIn K cd2 "does_meet" = true) (k2 : PySem.W.keepIn K (.ref f2) = true)
    (a3 : PySem.W.nsIn K mainGlobals "set_by" = some (some (.ref f3))) (l3 : K.lookup f3 = some ⟨oc3, od3, .func (PySem.W.fnOf "set_by" "set_by" (defArgs (topS 4)) (defBody (topS 4)) (defScope (topS 4)) .none kV3 dc3 pm3 an3 cd3 ct3), sl3⟩) (c3 : PySem.W.codeIn K cd3 "set_by" = true) (k3 : PySem.W.keepIn K (.ref f3) = true)
    (a4 : PySem.W.nsIn K mainGlobals "weight_row" = some (some (.ref f4))) (l4 : K.lookup f4 = some ⟨oc4, od4, .func (PySem.W.fnOf "weight_row" "weight_row" (defArgs (topS 6)) (defBody (topS 6)) (defScope (topS 6)) .none kV4 dc4 pm4 an4 cd4 ct4), sl4⟩) (c4 : PySem.W.codeIn K cd4 "weight_row" = true) (k4 : PySem.W.keepIn K (.ref f4) = true)
    (a5 : PySem.W.nsIn K mainGlobals "even_less_odd" = some (some (.ref f5))) (l5 : K.lookup f5 = some ⟨oc5, od5, .func (PySem.W.fnOf "even_less_odd" "even_less_odd" (defArgs (topS 7)) (defBody (topS 7)) (defScope (topS 7)) .none kV5 dc5 pm5 an5 cd5 ct5), sl5⟩) (c5 : PySem.W.codeIn K cd5 "even_less_odd" = true) (k5 : PySem.W.keepIn K (.ref f5) = true)
    (a6 : PySem.W.nsIn K mainGlobals "count_balanced" = some (some (.ref f6))) (l6 : K.lookup f6 = some ⟨oc6, od6, .func (PySem.W.fnOf "count_balanced" "count_balanced" (defArgs (topS 8)) (defBody (topS 8)) (defScope (topS 8)) .none kV6 dc6 pm6 an6 cd6 ct6), sl6⟩) (c6 : PySem.W.codeIn K cd6 "count_balanced" = true) (k6 : PySem.W.keepIn K (.ref f6) = true)
    (a7 : PySem.W.nsIn K mainGlobals "all_papers" = some (some (.ref f7))) (l7 : K.lookup f7 = some ⟨oc7, od7, .func (PySem.W.fnOf "all_papers" "all_papers" (defArgs (topS 10)) (defBody (topS 10)) (defScope (topS 10)) .none kV7 dc7 pm7 an7 cd7 ct7), sl7⟩) (c7 : PySem.W.codeIn K cd7 "all_papers" = true) (k7 : PySem.W.keepIn K (.ref f7) = true) (e7 : cd7 = .ref cc7) (o7 : K.lookup cc7 = some ⟨oo7, ou7, .fields vv7, ow7⟩) (v7 : vv7[11]? = some (.ref pp7)) (n7 : K.lookup pp7 = none) (q7 : PySem.W.codeHdIn K cc7 pp7 = true) (m7 : pp7 ∈ ts)
    (a8 : PySem.W.nsIn K mainGlobals "best_trees" = some (some (.ref f8))) (l8 : K.lookup f8 = some ⟨oc8, od8, .func (PySem.W.fnOf "best_trees" "best_trees" (defArgs (topS 11)) (defBody (topS 11)) (defScope (topS 11)) .none kV8 dc8 pm8 an8 cd8 ct8), sl8⟩) (c8 : PySem.W.codeIn K cd8 "best_trees" = true) (k8 : PySem.W.keepIn K (.ref f8) = true)
    (a9 : PySem.W.nsIn K mainGlobals "by_depth" = some (some (.ref f9))) (l9 : K.lookup f9 = some ⟨oc9, od9, .func (PySem.W.fnOf "by_depth" "by_depth" (defArgs (topS 12)) (defBody (topS 12)) (defScope (topS 12)) .none kV9 dc9 pm9 an9 cd9 ct9), sl9⟩) (c9 : PySem.W.codeIn K cd9 "by_depth" = true) (k9 : PySem.W.keepIn K (.ref f9) = true)
    (a10 : PySem.W.nsIn K mainGlobals "fewest_asks" = some (some (.ref f10))) (l10 : K.lookup f10 = some ⟨oc10, od10, .func (PySem.W.fnOf "fewest_asks" "fewest_asks" (defArgs (topS 13)) (defBody (topS 13)) (defScope (topS 13)) .none kV10 dc10 pm10 an10 cd10 ct10), sl10⟩) (c10 : PySem.W.codeIn K cd10 "fewest_asks" = true) (k10 : PySem.W.keepIn K (.ref f10) = true)
    (a11 : PySem.W.nsIn K mainGlobals "_law_source" = some (some (.ref f11))) (l11 : K.lookup f11 = some ⟨oc11, od11, .func (PySem.W.fnOf "_law_source" "_law_source" (defArgs (topS 15)) (defBody (topS 15)) (defScope (topS 15)) .none kV11 dc11 pm11 an11 cd11 ct11), sl11⟩) (c11 : PySem.W.codeIn K cd11 "_law_source" = true) (k11 : PySem.W.keepIn K (.ref f11) = true)
    (a12 : PySem.W.nsIn K mainGlobals "_law_pick" = some (some (.ref f12))) (l12 : K.lookup f12 = some ⟨oc12, od12, .func (PySem.W.fnOf "_law_pick" "_law_pick" (defArgs (topS 16)) (defBody (topS 16)) (defScope (topS 16)) .none kV12 dc12 pm12 an12 cd12 ct12), sl12⟩) (c12 : PySem.W.codeIn K cd12 "_law_pick" = true) (k12 : PySem.W.keepIn K (.ref f12) = true)
    (a13 : PySem.W.nsIn K mainGlobals "law" = some (some (.ref f13))) (l13 : K.lookup f13 = some ⟨oc13, od13, .func (PySem.W.fnOf "law" "law" (defArgs (topS 17)) (defBody (topS 17)) (defScope (topS 17)) .none kV13 dc13 pm13 an13 cd13 ct13), sl13⟩) (c13 : PySem.W.codeIn K cd13 "law" = true) (k13 : PySem.W.keepIn K (.ref f13) = true)
    (z_abs : PySem.W.nsIn K mainGlobals "abs" = some none)
    (z_all : PySem.W.nsIn K mainGlobals "all" = some none)
    (z_enumerate : PySem.W.nsIn K mainGlobals "enumerate" = some none)
    (z_int : PySem.W.nsIn K mainGlobals "int" = some none)
    (z_len : PySem.W.nsIn K mainGlobals "len" = some none)
    (z_list : PySem.W.nsIn K mainGlobals "list" = some none)
    (z_max : PySem.W.nsIn K mainGlobals "max" = some none)
    (z_min : PySem.W.nsIn K mainGlobals "min" = some none)
    (z_range : PySem.W.nsIn K mainGlobals "range" = some none)
    (z_repr : PySem.W.nsIn K mainGlobals "repr" = some none)
    (z_sorted : PySem.W.nsIn K mainGlobals "sorted" = some none)
    (z_sum : PySem.W.nsIn K mainGlobals "sum" = some none)
    (z_tuple : PySem.W.nsIn K mainGlobals "tuple" = some none)
    (z_zip : PySem.W.nsIn K mainGlobals "zip" = some none)
    : ∃ (fd : FuncData) (cs : List (Addr × Addr)) (sp : Sp), (∀ (s : Shared) (u : Value), BindsTo s fd ⟨[u], []⟩ [("script", u)]) ∧ (∀ p ∈ cs, p.2 ∈ ts) ∧ (∀ p ∈ cs, K.lookup p.2 = none) ∧ (∀ p ∈ cs, PySem.W.codeHdIn K p.1 p.2 = true) ∧ (∀ (H : Hp) (a : Addr) (ns : List Int), ns.length ≤ 63 → ScrV K .nil H (.ref a) (.list (ns.map PyData.int)) → (∀ p ∈ cs, H p.2 = some (.tbl #[])) → sp [.ref a] H (fun v _ => v = .bl true) fun _ _ _ => False) ∧ ∀ base : Heap, K.In base → base.Ns mainGlobals mg → (∀ p ∈ cs, LamX.TabB base mg p.1 p.2) → FnG prog w K mg base CX0 (depth + 2) fa fd ["script"] sp := by
  have e := hfa.symm.trans (PySem.W.mg_of X G a13)
  cases e
  refine ⟨_, [(cc7, pp7)], spLaw K (TTt (tx X G a0 l0 c0 k0 a1 l1 c1 k1 a2 l2 c2 k2 a3 l3 c3 k3 a4 l4 c4 k4 a5 l5 c5 k5 a6 l6 c6 k6 a7 l7 c7 k7 e7 o7 v7 n7 q7 m7 a8 l8 c8 k8 a9 l9 c9 k9 a10 l10 c10 k10 a11 l11 c11 k11 a12 l12 c12 k12 a13 l13 c13 k13 z_abs z_all z_enumerate z_int z_len z_list z_max z_min z_range z_repr z_sorted z_sum z_tuple z_zip)), fun s v => .of_eq rfl, (List.forall_mem_cons.mpr ⟨m7, (fun _ h => nomatch h)⟩), (List.forall_mem_cons.mpr ⟨n7, (fun _ h => nomatch h)⟩), (List.forall_mem_cons.mpr ⟨q7, (fun _ h => nomatch h)⟩), fun H a ns hl hS hT => ⟨_, _, rfl, hS, ⟨?_, ?_⟩, fun _ => rfl⟩, fun base _ _ hb => dlaw (tx X G a0 l0 c0 k0 a1 l1 c1 k1 a2 l2 c2 k2 a3 l3 c3 k3 a4 l4 c4 k4 a5 l5 c5 k5 a6 l6 c6 k6 a7 l7 c7 k7 e7 o7 v7 n7 q7 m7 a8 l8 c8 k8 a9 l9 c9 k9 a10 l10 c10 k10 a11 l11 c11 k11 a12 l12 c12 k12 a13 l13 c13 k13 z_abs z_all z_enumerate z_int z_len z_list z_max z_min z_range z_repr z_sorted z_sum z_tuple z_zip) ⟨hb (cc7, pp7) (.head _)⟩ plain⟩
  · intro y hy
    simp only [TTt, tx, List.mem_cons, List.not_mem_nil, or_false] at hy
    subst hy
    exact LamX.TabS.nil (hT (cc7, pp7) (.head _))
  · intro y z hy hz e
    simp only [TTt, tx, List.mem_cons, List.not_mem_nil, or_false] at hy hz
    rw [hy, hz]
end Z54
open PySem PySem.W PyProof.Rows BA
set_option maxHeartbeats 0 in
theorem PySem.Challenge.cw_bitsasked_k54_whole_balanced_functions_holds : PySem.Challenge.rw_bitsasked_k54_whole_balanced_functions.Holds := by
  w_on; o_law; k_head; (case hw => w_witness2)
  k_fill
  refine walkGT (l := PySem.Challenge.rw_bitsasked_k54_whole_balanced_functions) (n := 63) (k := Z54.depth + 2) (x := "script") rfl (by decide) rfl (groom ⟨rfl, by decide, by decide⟩) (fun w h Y => PySem.W.km_in_of Y) (fun w h Y => PySem.W.km_tabs_of Y) ?F
  case F =>
    intro w mg fa h KX G hmg
    refine' Z54.fin KX G hmg ?a0 ?l0 ?c0 ?k0 ?a1 ?l1 ?c1 ?k1 ?a2 ?l2 ?c2 ?k2 ?a3 ?l3 ?c3 ?k3 ?a4 ?l4 ?c4 ?k4 ?a5 ?l5 ?c5 ?k5 ?a6 ?l6 ?c6 ?k6 ?a7 ?l7 ?c7 ?k7 ?e7 ?o7 ?v7 ?n7 ?q7 ?m7 ?a8 ?l8 ?c8 ?k8 ?a9 ?l9 ?c9 ?k9 ?a10 ?l10 ?c10 ?k10 ?a11 ?l11 ?c11 ?k11 ?a12 ?l12 ?c12 ?k12 ?a13 ?l13 ?c13 ?k13 ?z_abs ?z_all ?z_enumerate ?z_int ?z_len ?z_list ?z_max ?z_min ?z_range ?z_repr ?z_sorted ?z_sum ?z_tuple ?z_zip
    (case a0 => k_is); (case l0 => k_is); (case c0 => k_is); (case k0 => k_is); (case a1 => k_is); (case l1 => k_is); (case c1 => k_is); (case k1 => k_is); (case a2 => k_is); (case l2 => k_is); (case c2 => k_is); (case k2 => k_is); (case a3 => k_is); (case l3 => k_is); (case c3 => k_is); (case k3 => k_is); (case a4 => k_is); (case l4 => k_is); (case c4 => k_is); (case k4 => k_is); (case a5 => k_is); (case l5 => k_is); (case c5 => k_is); (case k5 => k_is); (case a6 => k_is); (case l6 => k_is); (case c6 => k_is); (case k6 => k_is); (case a7 => k_is); (case l7 => k_is); (case c7 => k_is); (case k7 => k_is); (case e7 => rfl); (case o7 => k_is); (case v7 => rfl); (case n7 => kernel_rfl); (case q7 => kernel_rfl); (case m7 => decide); (case a8 => k_is); (case l8 => k_is); (case c8 => k_is); (case k8 => k_is); (case a9 => k_is); (case l9 => k_is); (case c9 => k_is); (case k9 => k_is); (case a10 => k_is); (case l10 => k_is); (case c10 => k_is); (case k10 => k_is); (case a11 => k_is); (case l11 => k_is); (case c11 => k_is); (case k11 => k_is); (case a12 => k_is); (case l12 => k_is); (case c12 => k_is); (case k12 => k_is); (case a13 => k_is); (case l13 => k_is); (case c13 => k_is); (case k13 => k_is); (case z_abs => k_is); (case z_all => k_is); (case z_enumerate => k_is); (case z_int => k_is); (case z_len => k_is); (case z_list => k_is); (case z_max => k_is); (case z_min => k_is); (case z_range => k_is); (case z_repr => k_is); (case z_sorted => k_is); (case z_sum => k_is); (case z_tuple => k_is); (case z_zip => k_is)

