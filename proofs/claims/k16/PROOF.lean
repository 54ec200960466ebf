import PyProof.Rows.All
import PyProof.EqLayable
import HandS.ForMost
import HandS.TupAny
import HandS.Zip
import HandS.TupLe
import HandS.Deep
import HandS.Conv
import HandS.IsInst
import HandS.Wide
import KE.GoesMore
import KE.GoesEnum
import KE.KDictKeyed
import KE.KeyNested
import HandS.SortOrd
import HandS.SortRule
import HandS.SetFor
import HandS.Strs
import HandS.SortInts
import HandS.ForExc
import HandS.ExcIs
import HandS.Text
import KE.GoesZip
import PySem.Challenge.RW_formshift_k16_book_written
set_option Elab.async false
set_option linter.all false
set_option autoImplicit false
/-! The plain meaning of the program's text: functions over data. No heap, no machine. -/
namespace FS
open PySem

abbrev D := PyData

/-- what an expression gives: stable data; a list where it stands (of this frame, lent by the caller, new); the same of dicts; an instance whose fields stay -/
inductive RV where
  | d (x : D)
  | cur (xs : List D)
  | brw (xs : List D)
  | new (xs : List D)
  | curd (ks : List (D × D))
  | brwd (ks : List (D × D))
  | newd (ks : List (D × D))
  | obj (fs : List (Str × D))

/-- what a slot holds -/
inductive AV where
  | d (x : D)
  | own (xs : List D)
  | bor (xs : List D)
  | owd (ks : List (D × D))
  | bod (ks : List (D × D))
  | obj (fs : List (Str × D))

abbrev Env := List (Option AV)
inductive Out where
  | nx (e : Env)
  | rt (r : RV)
  | bk (e : Env)
  | ct (e : Env)

abbrev EF := Env → Option RV
abbrev BF := Env → Option Bool
abbrev AF := Env → Option (List RV)
abbrev ZF := Env → Option (List D)
abbrev SF := Env → Option Out
abbrev TF := D → Env → Option Env
abbrev FF := List AV → Option RV

def lim : Nat := 1000000
/-- a bound, told apart by no computation -/
def Bnd (p : Prop) : Prop := p
noncomputable instance (p : Prop) : Decidable (Bnd p) := Classical.propDecidable p

@[simp] def getS (e : Env) (i : Nat) : Option AV := match e[i]? with
  | some (some a) => some a
  | _ => none
@[simp] def putS (e : Env) (i : Nat) (a : AV) : Env := e.set i (some a)
@[simp] def forget : List Nat → Env → Env
  | [], e => e
  | i :: r, e => forget r (e.set i none)

@[simp] def AV.rd : AV → RV
  | .d x => .d x
  | .own xs => .cur xs
  | .bor xs => .brw xs
  | .owd ks => .curd ks
  | .bod ks => .brwd ks
  | .obj fs => .obj fs

def RV.seq : RV → Option (List D)
  | .d (.tuple xs) => some xs
  | .d (.list xs) => some xs
  | .cur xs => some xs
  | .brw xs => some xs
  | .new xs => some xs
  | _ => none
/-- a list, no tuple -/
def RV.lst : RV → Option (List D)
  | .d (.list xs) => some xs
  | .cur xs => some xs
  | .brw xs => some xs
  | .new xs => some xs
  | _ => none
/-- the sequence's items where nobody can change it -/
def RV.fix : RV → Option (List D)
  | .d (.tuple xs) => some xs
  | .d (.list xs) => some xs
  | .brw xs => some xs
  | _ => none
@[simp] def RV.val : RV → Option D
  | .d x => some x
  | .cur xs => some (.list xs)
  | .brw xs => some (.list xs)
  | .new xs => some (.list xs)
  | _ => none
@[simp] def RV.frz : RV → Option D
  | .d x => some x
  | .new xs => some (.list xs)
  | .newd ks => some (.dict ks)
  | _ => none
@[simp] def RV.arg : RV → Option AV
  | .d x => some (.d x)
  | .cur xs => some (.bor xs)
  | .brw xs => some (.bor xs)
  | .new xs => some (.bor xs)
  | .curd ks => some (.bod ks)
  | .brwd ks => some (.bod ks)
  | .newd ks => some (.bod ks)
  | .obj fs => some (.obj fs)
/-- an unlocked list -/
@[simp] def RV.raw : RV → Option (List D)
  | .cur xs => some xs
  | .new xs => some xs
  | _ => none
@[simp] def argsOf : List RV → Option (List AV)
  | [] => some []
  | r :: rs => match r.arg, argsOf rs with
    | some a, some as => some (a :: as)
    | _, _ => none

/-! ### places -/
def ixN (n : Nat) (i : Int) : Option Nat := if 0 ≤ i then (if i < n then some i.toNat else none) else if -(n : Int) ≤ i then some (i + n).toNat else none
def atD (xs : List D) (i : Int) : Option D := match ixN xs.length i with
  | some j => xs[j]?
  | none => none

/-! ### keys of dicts -/
def lookD : List (D × D) → D → Option D
  | [], _ => none
  | (k, v) :: r, x => if PyData.eqv k x then some v else lookD r x
def putD : List (D × D) → D → D → List (D × D)
  | [], x, y => [(x, y)]
  | (k, v) :: r, x, y => if PyData.eqv k x then (k, y) :: r else (k, v) :: putD r x y
mutual
/-- what serves as a key: whole numbers and tuples of such, not deep -/
def keyOk : Nat → D → Bool
  | _, .int _ => true
  | n + 1, .tuple xs => keyOks n xs
  | _, _ => false
def keyOks : Nat → List D → Bool
  | _, [] => true
  | n, x :: xs => keyOk n x && keyOks n xs
end
def isKey : D → Bool
  | .tuple xs => keyOks 5 xs
  | _ => false

/-! ### expressions -/
@[simp] def eVar (i : Nat) : EF := fun e => match getS e i with
  | some a => some a.rd
  | none => none
@[simp] def eC (x : D) : EF := fun _ => some (.d x)
@[simp] def eNewD : EF := fun _ => some (.newd [])
@[simp] def eUn (f : RV → Option RV) (a : EF) : EF := fun e => match a e with
  | some x => f x
  | none => none
@[simp] def eBin (f : RV → RV → Option RV) (a b : EF) : EF := fun e => match a e with
  | some x => (match b e with
    | some y => f x y
    | none => none)
  | none => none
def opAdd : RV → RV → Option RV
  | .d (.int i), .d (.int j) => some (.d (.int (i + j)))
  | .d (.tuple xs), .d (.tuple ys) => if xs.length + ys.length ≤ lim then some (.d (.tuple (xs ++ ys))) else none
  | .d (.str x), .d (.str y) => if x.length + y.length ≤ lim then some (.d (.str (x ++ y))) else none
  | .cur xs, .new ys => if xs.length + ys.length ≤ lim then some (.new (xs ++ ys)) else none
  | .new xs, .cur ys => if xs.length + ys.length ≤ lim then some (.new (xs ++ ys)) else none
  | .new xs, .new ys => if xs.length + ys.length ≤ lim then some (.new (xs ++ ys)) else none
  | _, _ => none
def opSub : RV → RV → Option RV
  | .d (.int i), .d (.int j) => some (.d (.int (i - j)))
  | _, _ => none
noncomputable def opMul : RV → RV → Option RV
  | .d (.int i), .d (.int j) => if (-18446744073709551616 < i ∧ i < 18446744073709551616) ∨ (-18446744073709551616 < j ∧ j < 18446744073709551616) then some (.d (.int (i * j))) else none
  | .new xs, .d (.int k) => if Bnd (0 ≤ k ∧ k < 9223372036854775808 ∧ xs.length * k.toNat ≤ lim) then some (.new (List.replicate k.toNat xs).flatten) else none
  | _, _ => none
def opFdiv : RV → RV → Option RV
  | .d (.int i), .d (.int j) => if 0 < j ∧ j < 1073741824 then some (.d (.int (i / j))) else none
  | _, _ => none
def opMod : RV → RV → Option RV
  | .d (.int i), .d (.int j) => if 0 < j then some (.d (.int (i % j))) else none
  | _, _ => none
def opPow : RV → RV → Option RV
  | .d (.int i), .d (.int j) => if 0 ≤ j ∧ j ≤ 1000 ∧ i.natAbs < 18446744073709551616 then some (.d (.int (i ^ j.toNat))) else none
  | _, _ => none
def opNeg : RV → Option RV
  | .d (.int i) => some (.d (.int (-i)))
  | _ => none
def opIx : RV → RV → Option RV
  | .d (.tuple xs), .d (.int i) => (atD xs i).map .d
  | .d (.list xs), .d (.int i) => (atD xs i).map .d
  | .cur xs, .d (.int i) => (atD xs i).map .d
  | .brw xs, .d (.int i) => (atD xs i).map .d
  | .new xs, .d (.int i) => (atD xs i).map .d
  | .d (.str z), .d (.int i) => if z.length ≤ lim then (match ixN z.cps.toList.length i with
    | some j => (z.cps.toList[j]?).map fun c => .d (.str ⟨#[c]⟩)
    | none => none) else none
  | _, _ => none
def RV.dic : RV → Option (List (D × D))
  | .d (.dict ks) => some ks
  | .curd ks => some ks
  | .brwd ks => some ks
  | _ => none
/-- d[k], k in d, of a dict -/
def opIxD (r k : RV) : Option RV := match r.dic, k with
  | some ks, .d x => if isKey x then (lookD ks x).map .d else none
  | _, _ => none
def cmpInD (k r : RV) : Option RV := match r.dic, k with
  | some ks, .d x => if isKey x then some (.d (.bool (lookD ks x).isSome)) else none
  | _, _ => none
def cmpNotInD (k r : RV) : Option RV := match r.dic, k with
  | some ks, .d x => if isKey x then some (.d (.bool (!(lookD ks x).isSome))) else none
  | _, _ => none
/-! ### slices -/
def cutIx (n d : Nat) : Option Int → Nat
  | none => d
  | some v => if v < 0 then (v + (n : Int)).toNat else min v.toNat n
def cutL {α : Type} (xs : List α) (lo hi : Option Int) : List α := (xs.drop (cutIx xs.length 0 lo)).take (cutIx xs.length xs.length hi - cutIx xs.length 0 lo)
abbrev PF := Env → Option (Option Int)
@[simp] def pNone : PF := fun _ => some none
@[simp] def pSome (a : EF) : PF := fun e => match a e with
  | some (.d (.int i)) => some (some i)
  | _ => none
def opCut (r : RV) (lo hi : Option Int) : Option RV := match r with
  | .d (.tuple xs) => some (.d (.tuple (cutL xs lo hi)))
  | .d (.str z) => if z.length ≤ lim then some (.d (.str ⟨(cutL z.cps.toList lo hi).toArray⟩)) else none
  | r => match r.lst with
    | some xs => some (.new (cutL xs lo hi))
    | none => none
@[simp] def eCut (a : EF) (lo hi : PF) : EF := fun e => match a e with
  | some r => (match lo e with
    | some l => (match hi e with
      | some h => opCut r l h
      | none => none)
    | none => none)
  | none => none
def cmpI (p : Int → Int → Bool) : RV → RV → Option RV
  | .d (.int i), .d (.int j) => some (.d (.bool (p i j)))
  | _, _ => none
def cmpLt := cmpI fun i j => decide (i < j)
def cmpLe := cmpI fun i j => decide (i ≤ j)
def cmpGt := cmpI fun i j => decide (j < i)
def cmpGe := cmpI fun i j => decide (j ≤ i)
def cmpEq (a b : RV) : Option RV := match a.val, b.val with
  | some x, some y => if SeqAt.shaped x = true ∧ SeqAt.shaped y = true then some (.d (.bool (PyData.eqv x y))) else none
  | _, _ => none
def cmpNe (a b : RV) : Option RV := match a.val, b.val with
  | some x, some y => if SeqAt.shaped x = true ∧ SeqAt.shaped y = true then some (.d (.bool (!PyData.eqv x y))) else none
  | _, _ => none
/-- x in a list of data -/
def cmpIn (a b : RV) : Option RV := match a.val, b.val with
  | some x, some (.list ys) => if SeqAt.shaped x = true ∧ SeqAt.shaped (.list ys) = true then some (.d (.bool (ys.any fun z => PyData.eqv z x))) else none
  | _, _ => none
def cmpNotIn (a b : RV) : Option RV := match a.val, b.val with
  | some x, some (.list ys) => if SeqAt.shaped x = true ∧ SeqAt.shaped (.list ys) = true then some (.d (.bool (!ys.any fun z => PyData.eqv z x))) else none
  | _, _ => none
def cmpIsNotB : RV → RV → Option RV
  | .d (.bool a), .d (.bool b) => some (.d (.bool (!decide (a = b))))
  | _, _ => none
def opIsN : RV → Option RV
  | .d .none => some (.d (.bool true))
  | .d _ => some (.d (.bool false))
  | _ => none
def opIsNotN : RV → Option RV
  | .d .none => some (.d (.bool false))
  | .d _ => some (.d (.bool true))
  | _ => none
def cmpIsN : RV → RV → Option RV
  | x, .d .none => opIsN x
  | _, _ => none
def cmpIsNotN : RV → RV → Option RV
  | x, .d .none => opIsNotN x
  | _, _ => none
@[simp] def boolOf : Option RV → Option Bool
  | some (.d (.bool b)) => some b
  | _ => none
/-- a op b op c -/
@[simp] def eCh2 (f g : RV → RV → Option RV) (a b c : EF) : EF := fun e => match a e with
  | some x => (match b e with
    | some y => (match boolOf (f x y) with
      | some true => (match c e with
        | some z => (match boolOf (g y z) with
          | some k => some (.d (.bool k))
          | none => none)
        | none => none)
      | some false => some (.d (.bool false))
      | none => none)
    | none => none)
  | none => none
@[simp] def eCh3 (f g h : RV → RV → Option RV) (a b c c' : EF) : EF := fun e => match a e with
  | some x => (match b e with
    | some y => (match boolOf (f x y) with
      | some true => (match c e with
        | some z => (match boolOf (g y z) with
          | some true => (match c' e with
            | some z' => (match boolOf (h z z') with
              | some k => some (.d (.bool k))
              | none => none)
            | none => none)
          | some false => some (.d (.bool false))
          | none => none)
        | none => none)
      | some false => some (.d (.bool false))
      | none => none)
    | none => none)
  | none => none
@[simp] def eAnd (a b : EF) : EF := fun e => match boolOf (a e) with
  | some true => b e
  | some false => some (.d (.bool false))
  | none => none
@[simp] def eOr (a b : EF) : EF := fun e => match boolOf (a e) with
  | some true => some (.d (.bool true))
  | some false => b e
  | none => none
@[simp] def eNot (a : EF) : EF := fun e => match boolOf (a e) with
  | some b => some (.d (.bool (!b)))
  | none => none
@[simp] def eIf (c : BF) (a b : EF) : EF := fun e => match c e with
  | some true => a e
  | some false => b e
  | none => none
@[simp] def eFrz (a : EF) : EF := fun e => match a e with
  | some r => r.frz.map .d
  | none => none

/-- x.f of an instance -/
@[simp] def eFld (a : EF) (f : Str) : EF := fun e => match a e with
  | some (.obj fs) => (fs.lookup f).map .d
  | _ => none

/-! ### tests -/
@[simp] def bVal (a : EF) : BF := fun e => boolOf (a e)
@[simp] def bAnd (a b : BF) : BF := fun e => match a e with
  | some true => b e
  | some false => some false
  | none => none
@[simp] def bOr (a b : BF) : BF := fun e => match a e with
  | some true => some true
  | some false => b e
  | none => none
@[simp] def bNot (a : BF) : BF := fun e => match a e with
  | some b => some (!b)
  | none => none
@[simp] def bYes : BF := fun _ => some true

/-! ### argument lists, displays, calls -/
@[simp] def aNil : AF := fun _ => some []
@[simp] def aCons (a : EF) (r : AF) : AF := fun e => match a e with
  | some x => (match r e with
    | some xs => some (x :: xs)
    | none => none)
  | none => none
@[simp] def zNil : ZF := fun _ => some []
@[simp] def zCons (a : EF) (r : ZF) : ZF := fun e => match a e with
  | some x => (match x.frz with
    | some y => (match r e with
      | some xs => some (y :: xs)
      | none => none)
    | none => none)
  | none => none
@[simp] def eTup (a : ZF) : EF := fun e => match a e with
  | some xs => some (.d (.tuple xs))
  | none => none
@[simp] def eLst (a : ZF) : EF := fun e => match a e with
  | some xs => some (.new xs)
  | none => none
@[simp] def eCall (F : FF) (a : AF) : EF := fun e => match a e with
  | some rs => (match argsOf rs with
    | some as => F as
    | none => none)
  | none => none
/-- o.m(..), a method of the program's class -/
@[simp] def eMeth (F : FF) (o : EF) (a : AF) : EF := fun e => match o e with
  | some (.obj fs) => (match a e with
    | some rs => (match argsOf rs with
      | some as => F (.obj fs :: as)
      | none => none)
    | none => none)
  | _ => none
/-- a built-in of one argument, of two -/
@[simp] def eB1 (f : RV → Option RV) (a : EF) : EF := eUn f a
@[simp] def eB2 (f : RV → RV → Option RV) (a b : EF) : EF := eBin f a b
def fLen (r : RV) : Option RV := match r with
  | .d (.str z) => if z.length ≤ lim then some (.d (.int z.length)) else none
  | r => match r.seq with
    | some xs => some (.d (.int xs.length))
    | none => none
def fLenD (r : RV) : Option RV := match r.dic with
  | some ks => some (.d (.int ks.length))
  | none => none
def fTuple (r : RV) : Option RV := match r with
  | .d (.tuple xs) => some (.d (.tuple xs))
  | r => match r.lst with
    | some xs => some (.d (.tuple xs))
    | none => none
def fList (r : RV) : Option RV := match r.seq with
  | some xs => some (.new xs)
  | none => none
def boolsOf : List D → Option (List Bool)
  | [] => some []
  | .bool b :: r => (boolsOf r).map (b :: ·)
  | _ => none
def fAll (r : RV) : Option RV := match r.lst with
  | some xs => (match boolsOf xs with
    | some bs => some (.d (.bool (bs.all id)))
    | none => none)
  | none => none
def fMin2 : RV → RV → Option RV
  | .d (.int i), .d (.int j) => some (.d (.int (if j < i then j else i)))
  | _, _ => none
def fMax2 : RV → RV → Option RV
  | .d (.int i), .d (.int j) => some (.d (.int (if j > i then j else i)))
  | _, _ => none
/-- isinstance -/
def isIntD : RV → Option RV
  | .d (.int _) => some (.d (.bool true))
  | .d (.bool _) => some (.d (.bool true))
  | .d (.none) => some (.d (.bool false))
  | .d (.str _) => some (.d (.bool false))
  | .d (.tuple _) => some (.d (.bool false))
  | .d (.list _) => some (.d (.bool false))
  | _ => none
def isBoolD : RV → Option RV
  | .d (.int _) => some (.d (.bool false))
  | .d (.bool _) => some (.d (.bool true))
  | .d (.none) => some (.d (.bool false))
  | .d (.str _) => some (.d (.bool false))
  | .d (.tuple _) => some (.d (.bool false))
  | .d (.list _) => some (.d (.bool false))
  | _ => none
def isTupleD : RV → Option RV
  | .d (.int _) => some (.d (.bool false))
  | .d (.bool _) => some (.d (.bool false))
  | .d (.none) => some (.d (.bool false))
  | .d (.str _) => some (.d (.bool false))
  | .d (.tuple _) => some (.d (.bool true))
  | .d (.list _) => some (.d (.bool false))
  | .cur _ => some (.d (.bool false))
  | .brw _ => some (.d (.bool false))
  | .new _ => some (.d (.bool false))
  | _ => none
def isListD : RV → Option RV
  | .d (.int _) => some (.d (.bool false))
  | .d (.bool _) => some (.d (.bool false))
  | .d (.none) => some (.d (.bool false))
  | .d (.str _) => some (.d (.bool false))
  | .d (.tuple _) => some (.d (.bool false))
  | .d (.list _) => some (.d (.bool true))
  | .cur _ => some (.d (.bool true))
  | .brw _ => some (.d (.bool true))
  | .new _ => some (.d (.bool true))
  | _ => none
def isStrD : RV → Option RV
  | .d (.str _) => some (.d (.bool true))
  | .d (.int _) => some (.d (.bool false))
  | .d (.bool _) => some (.d (.bool false))
  | .d (.none) => some (.d (.bool false))
  | .d (.tuple _) => some (.d (.bool false))
  | .d (.list _) => some (.d (.bool false))
  | _ => none

/-! ### sorted of pairs of whole numbers; range as an argument -/
def pairOf : D → Option (Int × Int)
  | .tuple [.int i, .int j] => some (i, j)
  | _ => none
def pairsOfD : List D → Option (List (Int × Int))
  | [] => some []
  | x :: xs => match pairOf x with
    | some p => (match pairsOfD xs with
      | some ps => some (p :: ps)
      | none => none)
    | none => none
def lexP (p q : Int × Int) : Bool := if p.1 = q.1 then decide (p.2 ≤ q.2) else decide (p.1 < q.1)
def insP (p : Int × Int) : List (Int × Int) → List (Int × Int)
  | [] => [p]
  | q :: r => if lexP p q then p :: q :: r else q :: insP p r
def sortP : List (Int × Int) → List (Int × Int)
  | [] => []
  | p :: r => insP p (sortP r)
def pairD (p : Int × Int) : D := .tuple [.int p.1, .int p.2]
/-- sorted(t), t a tuple of pairs -/
def fSortP (r : RV) : Option RV := match r with
  | .d (.tuple xs) => (match pairsOfD xs with
    | some ps => some (.new ((sortP ps).map pairD))
    | none => none)
  | _ => none
def upTo (lo : Int) (n : Nat) : List D := (List.range n).map fun (i : Nat) => PyData.int (lo + (i : Int))
def rngOk (i : Int) : Prop := -1000000 ≤ i ∧ i ≤ 1000000
instance (i : Int) : Decidable (rngOk i) := inferInstanceAs (Decidable (_ ∧ _))
def fTupleRg : RV → Option RV
  | .d (.int j) => if rngOk j then some (.d (.tuple (upTo 0 j.toNat))) else none
  | _ => none
def fTupleRg2 : RV → RV → Option RV
  | .d (.int i), .d (.int j) => if rngOk i ∧ rngOk j then some (.d (.tuple (upTo i (j - i).toNat))) else none
  | _, _ => none
def fListRg : RV → Option RV
  | .d (.int j) => if rngOk j then some (.new (upTo 0 j.toNat)) else none
  | _ => none

/-! ### what is walked -/
@[simp] def iSeq (a : EF) : ZF := fun e => match a e with
  | some r => r.fix
  | none => none
/-- within a comprehension nothing is changed: a list of this frame may be walked -/
@[simp] def iAny (a : EF) : ZF := fun e => match a e with
  | some r => r.seq
  | none => none
@[simp] def iRange (a : EF) : ZF := fun e => match a e with
  | some (.d (.int j)) => if rngOk j then some (upTo 0 j.toNat) else none
  | _ => none
@[simp] def iRange2 (a b : EF) : ZF := fun e => match a e with
  | some (.d (.int i)) => (match b e with
    | some (.d (.int j)) => if rngOk i ∧ rngOk j then some (upTo i (j - i).toNat) else none
    | _ => none)
  | _ => none
def enumD : Nat → List D → List D
  | _, [] => []
  | k, x :: xs => .tuple [.int k, x] :: enumD (k + 1) xs
@[simp] def iEnum (a : ZF) : ZF := fun e => match a e with
  | some xs => some (enumD 0 xs)
  | none => none
def zipD : List D → List D → List D
  | x :: xs, y :: ys => .tuple [x, y] :: zipD xs ys
  | _, _ => []
/-- zip of two tuples or two lists -/
def RV.isT : RV → Bool
  | .d (.tuple _) => true
  | _ => false
@[simp] def zipF (r s : RV) : Option (List D) := match r.fix, s.fix with
  | some xs, some ys => if RV.isT r = RV.isT s then some (zipD xs ys) else none
  | _, _ => none
@[simp] def iZipA (fa fb : EF) : ZF := fun e => match fa e with
  | some r => (match fb e with
    | some s => zipF r s
    | none => none)
  | none => none
@[simp] def iKeys (a : EF) : ZF := fun e => match a e with
  | some (.d (.dict ks)) => some (ks.map (·.1))
  | some (.brwd ks) => some (ks.map (·.1))
  | _ => none
@[simp] def iKeysC (a : EF) : ZF := fun e => match a e with
  | some (.d (.dict ks)) => some (ks.map (·.1))
  | some (.brwd ks) => some (ks.map (·.1))
  | some (.curd ks) => some (ks.map (·.1))
  | _ => none

/-! ### targets -/
@[simp] def tName (i : Nat) : TF := fun x e => some (putS e i (.d x))
@[simp] def tAll : List TF → List D → Env → Option Env
  | [], [], e => some e
  | t :: ts, x :: xs, e => (match t x e with
    | some e' => tAll ts xs e'
    | none => none)
  | _, _, _ => none
def tTup (ts : List TF) : TF := fun x e => match x with
  | .tuple xs => tAll ts xs e
  | _ => none

/-! ### comprehensions -/
def lcGo (t : TF) (c : BF) (f : EF) (e : Env) : List D → Option (List D)
  | [] => some []
  | x :: xs => match t x e with
    | some e1 => (match c e1 with
      | some true => (match f e1 with
        | some r => (match r.frz with
          | some y => (match lcGo t c f e xs with
            | some ys => some (y :: ys)
            | none => none)
          | none => none)
        | none => none)
      | some false => lcGo t c f e xs
      | none => none)
    | none => none
@[simp] def eLc (w : List Nat) (s : ZF) (t : TF) (c : BF) (f : EF) : EF := fun e => match s e with
  | some xs => if xs.length ≤ lim then (match lcGo t c f (forget w e) xs with
    | some ys => some (.new ys)
    | none => none) else none
  | none => none

/-! ### statements -/
@[simp] def sNil : SF := fun e => some (.nx e)
@[simp] def sSeq (a b : SF) : SF := fun e => match a e with
  | some (.nx e') => b e'
  | r => r
@[simp] def RV.av : RV → Option AV
  | .d x => some (.d x)
  | .new xs => some (.own xs)
  | .newd ks => some (.owd ks)
  | .obj fs => some (.obj fs)
  | _ => none
@[simp] def sSet (i : Nat) (a : EF) : SF := fun e => match a e with
  | some r => (match r.av with
    | some v => some (.nx (putS e i v))
    | none => none)
  | none => none
/-- x = y, y a list of the frame that is not looked at again -/
@[simp] def sMove (i j : Nat) : SF := fun e => match getS e j with
  | some (.own xs) => some (.nx ((e.set j none).set i (some (.own xs))))
  | _ => none
@[simp] def sApp (i : Nat) (a : EF) : SF := fun e => match a e with
  | some r => (match r.frz with
    | some y => (match getS e i with
      | some (.own xs) => if xs.length < lim then some (.nx (putS e i (.own (xs ++ [y])))) else none
      | _ => none)
    | none => none)
  | none => none
@[simp] def sExt (i : Nat) (a : EF) : SF := fun e => match a e with
  | some (.new ys) => (match getS e i with
    | some (.own xs) => if xs.length + ys.length ≤ lim then some (.nx (putS e i (.own (xs ++ ys)))) else none
    | _ => none)
  | _ => none
@[simp] def sClear (i : Nat) : SF := fun e => match getS e i with
  | some (.own _) => some (.nx (putS e i (.own [])))
  | _ => none
/-- x[k] = v of a list of the frame -/
@[simp] def sPut (i : Nat) (k : EF) (v : EF) : SF := fun e => match v e with
  | some r => (match r.frz with
    | some y => (match k e with
      | some (.d (.int z)) => (match getS e i with
        | some (.own xs) => (match ixN xs.length z with
          | some j => some (.nx (putS e i (.own (xs.set j y))))
          | none => none)
        | _ => none)
      | _ => none)
    | none => none)
  | none => none
/-- d[k] = v of a dict of the frame -/
@[simp] def sPutD (i : Nat) (k : EF) (v : EF) : SF := fun e => match v e with
  | some r => (match r.frz with
    | some y => (match k e with
      | some (.d x) => (match getS e i with
        | some (.owd ks) => if isKey x = true ∧ ks.length < lim then some (.nx (putS e i (.owd (putD ks x y)))) else none
        | _ => none)
      | _ => none)
    | none => none)
  | none => none
@[simp] def sExpr (a : EF) : SF := fun e => match a e with
  | some _ => some (.nx e)
  | none => none
@[simp] def sIf (c : BF) (a b : SF) : SF := fun e => match c e with
  | some true => a e
  | some false => b e
  | none => none
@[simp] def RV.ret : RV → Option RV
  | .d x => some (.d x)
  | .new xs => some (.new xs)
  | .newd ks => some (.newd ks)
  | _ => none
@[simp] def sRet (a : EF) : SF := fun e => match a e with
  | some r => (match r.ret with
    | some z => some (.rt z)
    | none => none)
  | none => none
/-- return x, x a list of the frame -/
@[simp] def sRetOwn (i : Nat) : SF := fun e => match getS e i with
  | some (.own xs) => some (.rt (.new xs))
  | some (.owd ks) => some (.rt (.newd ks))
  | _ => none
@[simp] def sPass : SF := fun e => some (.nx e)
/-- a list of the frame is no longer changed: data from now on -/
@[simp] def sLock (i : Nat) (a : SF) : SF := fun e => match getS e i with
  | some (.own xs) => a (putS e i (.d (.list xs)))
  | some (.owd ks) => a (putS e i (.d (.dict ks)))
  | _ => none
@[simp] def dropB (e : Env) : Env := e.map fun a => match a with
  | some (.bor _) => none
  | some (.bod _) => none
  | a => a
/-- a list of the frame that is only read for a while -/
@[simp] def sLend (i : Nat) (a : SF) : SF := fun e => match getS e i with
  | some (.own xs) => (match a (putS e i (.bor xs)) with
    | some (.nx e') => some (.nx (putS (dropB e') i (.own xs)))
    | some (.rt r) => r.ret.map .rt
    | _ => none)
  | _ => none
@[simp] def sDrop (w : List Nat) (a : SF) : SF := fun e => a (forget w e)
def loopF (w : List Nat) (t : TF) (b : SF) : List D → Env → Option Out
  | [], e => some (.nx e)
  | x :: xs, e => match t x e with
    | some e1 => (match b e1 with
      | some (.nx e2) => loopF w t b xs (forget w e2)
      | some (.ct e2) => loopF w t b xs (forget w e2)
      | some (.bk e2) => some (.nx e2)
      | some (.rt r) => some (.rt r)
      | none => none)
    | none => none
@[simp] def sFor (w : List Nat) (s : ZF) (t : TF) (b : SF) : SF := fun e => match s e with
  | some xs => loopF w t b xs (forget w e)
  | none => none
def whileN (w : List Nat) (c : BF) (b : SF) : Nat → Env → Option Out
  | 0, _ => none
  | n + 1, e => match c e with
    | some true => (match b e with
      | some (.nx e2) => whileN w c b n (forget w e2)
      | some (.ct e2) => whileN w c b n (forget w e2)
      | some (.bk e2) => some (.nx e2)
      | some (.rt r) => some (.rt r)
      | none => none)
    | some false => some (.nx e)
    | none => none
open Classical in
noncomputable def loopW (w : List Nat) (c : BF) (b : SF) : SF := fun e =>
  if h : ∃ p : Nat × Out, whileN w c b p.1 e = some p.2 then some (choose h).2 else none
@[simp] noncomputable def sWhile (w : List Nat) (c : BF) (b : SF) : SF := fun e => loopW w c b (forget w e)

/-! ### defs -/
@[simp] def runF (n k : Nat) (b : SF) : FF := fun vs => if vs.length = k then (match b (vs.map some ++ List.replicate (n - vs.length) none) with
  | some (.rt r) => r.ret
  | some (.nx _) => some (.d .none)
  | _ => none) else none

/-! ### an instance that is filled kind by kind -/
/-- what one call of lay adds: slots i and j behind its block -/
def layF (n i j : Nat) (b : SF) (fs : List (Str × D)) (kd : D) : Option (D × D) := match b ([some (.obj fs), some (.d kd)] ++ List.replicate (n - 2) none) with
  | some (.nx e) => (match getS e i with
    | some (.d x) => (match getS e j with
      | some (.d y) => some (x, y)
      | _ => none)
    | _ => none)
  | _ => none
def laysF (lay : D → Option (D × D)) : List D → Option (List D × List D)
  | [] => some ([], [])
  | k :: ks => match lay k with
    | some p => (match laysF lay ks with
      | some q => some (p.1 :: q.1, p.2 :: q.2)
      | none => none)
    | none => none
def fs4 (a b c d : D) : List (Str × D) := [("source", a), ("target", b), ("shift", c), ("book", d)]
def fs6 (a b c d x y : D) : List (Str × D) := [("source", a), ("target", b), ("shift", c), ("book", d), ("firsts", x), ("numbers", y)]
/-- the instance behind its making -/
def makeF (lay : List (Str × D) → D → Option (D × D)) : FF
  | [.d a, .d (.tuple (.int n :: bs)), .d c, .d d] => if 0 ≤ n ∧ n ≤ 1000 then (match laysF (lay (fs4 a (.tuple (.int n :: bs)) c d)) (upTo 0 n.toNat) with
    | some p => some (.obj (fs6 a (.tuple (.int n :: bs)) c d (.list p.1) (.list p.2)))
    | none => none) else none
  | _ => none

/-! ### while, once for all -/
theorem whileN_more {w : List Nat} {c : BF} {b : SF} {o : Out} : ∀ {n m : Nat} {e : Env}, n ≤ m → whileN w c b n e = some o → whileN w c b m e = some o
  | 0, _, _, _, h => by simp [whileN] at h
  | n + 1, 0, _, hl, _ => by omega
  | n + 1, m + 1, e, hl, h => by
    unfold whileN at h ⊢
    cases hc : c e with
    | none => rw [hc] at h; exact h
    | some k =>
      rw [hc] at h
      cases k with
      | false => exact h
      | true =>
        simp only at h ⊢
        cases hb : b e with
        | none => rw [hb] at h; exact h
        | some r =>
          rw [hb] at h
          cases r with
          | nx e2 => exact whileN_more (Nat.le_of_succ_le_succ hl) h
          | ct e2 => exact whileN_more (Nat.le_of_succ_le_succ hl) h
          | bk e2 => exact h
          | rt r => exact h
theorem loopW_of {w : List Nat} {c : BF} {b : SF} {e : Env} {o : Out} (n : Nat) (h : whileN w c b n e = some o) : loopW w c b e = some o := by
  have hx : ∃ p : Nat × Out, whileN w c b p.1 e = some p.2 := ⟨(n, o), h⟩
  unfold loopW
  rw [dif_pos hx]
  have h2 := Classical.choose_spec hx
  have h3 := whileN_more (Nat.le_max_left (Classical.choose hx).1 n) h2
  have h4 := whileN_more (Nat.le_max_right (Classical.choose hx).1 n) h
  rw [h4] at h3
  exact h3.symm
theorem of_loopW {w : List Nat} {c : BF} {b : SF} {e : Env} {o : Out} (h : loopW w c b e = some o) : ∃ n, whileN w c b n e = some o := by
  unfold loopW at h
  split at h
  · rename_i hx
    cases h
    exact ⟨_, Classical.choose_spec hx⟩
  · cases h
theorem loopW_false {w : List Nat} {c : BF} {b : SF} {e : Env} (h : c e = some false) : loopW w c b e = some (.nx e) :=
  loopW_of 1 (by unfold whileN; rw [h])
theorem loopW_true {w : List Nat} {c : BF} {b : SF} {e e2 : Env} {o : Out} (h : c e = some true) (h2 : b e = some (.nx e2)) (h3 : loopW w c b (forget w e2) = some o) : loopW w c b e = some o := by
  obtain ⟨n, hn⟩ := of_loopW h3
  exact loopW_of (n + 1) (by unfold whileN; rw [h]; simp only; rw [h2]; exact hn)
theorem loopW_ret {w : List Nat} {c : BF} {b : SF} {e : Env} {r : RV} (h : c e = some true) (h2 : b e = some (.rt r)) : loopW w c b e = some (.rt r) :=
  loopW_of 1 (by unfold whileN; rw [h]; simp only; rw [h2])
end FS
set_option Elab.async false
set_option linter.all false
set_option autoImplicit false
/-! More of the plain meaning: sets of whole numbers, places in lists. -/
namespace FS
open PySem

def dsIns (x : Int) : List Int → List Int
  | [] => [x]
  | y :: r => if x < y then x :: y :: r else if x = y then y :: r else y :: dsIns x r
/-- the numbers of a list, each once, in order -/
def dsort : List Int → List Int
  | [] => []
  | x :: r => dsIns x (dsort r)
theorem mem_dsIns {x y : Int} : ∀ {l : List Int}, y ∈ dsIns x l ↔ y = x ∨ y ∈ l
  | [] => by simp [dsIns]
  | z :: l => by
    unfold dsIns
    split
    · simp
    · split
      · rename_i h; subst h; simp
      · simp only [List.mem_cons, mem_dsIns]
        constructor
        · rintro (h | h | h) <;> simp [h]
        · rintro (h | h | h) <;> simp [h]
theorem mem_dsort {y : Int} : ∀ {l : List Int}, y ∈ dsort l ↔ y ∈ l
  | [] => by simp [dsort]
  | x :: l => by rw [dsort, mem_dsIns, mem_dsort, List.mem_cons]
theorem lt_dsIns {x : Int} : ∀ {l : List Int}, l.Pairwise (· < ·) → (dsIns x l).Pairwise (· < ·)
  | [], _ => by simp [dsIns]
  | z :: l, h => by
    have h2 := List.pairwise_cons.mp h
    unfold dsIns
    split
    · rename_i hx
      refine List.pairwise_cons.mpr ⟨fun y hy => ?_, h⟩
      rcases List.mem_cons.mp hy with e | e
      · rw [e]; exact hx
      · have := h2.1 y e; omega
    · split
      · exact h
      · rename_i h3 h4
        refine List.pairwise_cons.mpr ⟨fun y hy => ?_, lt_dsIns h2.2⟩
        rcases mem_dsIns.mp hy with e | e
        · rw [e]; omega
        · exact h2.1 y e
theorem lt_dsort : ∀ {l : List Int}, (dsort l).Pairwise (· < ·)
  | [] => List.Pairwise.nil
  | x :: l => lt_dsIns lt_dsort
theorem lt_uniq : ∀ {l m : List Int}, l.Pairwise (· < ·) → m.Pairwise (· < ·) → (∀ k, k ∈ l ↔ k ∈ m) → l = m
  | [], [], _, _, _ => rfl
  | [], y :: m, _, _, h => absurd ((h y).mpr List.mem_cons_self) (by simp)
  | x :: l, [], _, _, h => absurd ((h x).mp List.mem_cons_self) (by simp)
  | x :: l, y :: m, h1, h2, h => by
    have a1 := List.pairwise_cons.mp h1
    have a2 := List.pairwise_cons.mp h2
    have exy : x = y := by
      rcases List.mem_cons.mp ((h x).mp List.mem_cons_self) with e | e
      · exact e
      · rcases List.mem_cons.mp ((h y).mpr List.mem_cons_self) with e2 | e2
        · exact e2.symm
        · have := a2.1 x e; have := a1.1 y e2; omega
    subst exy
    rw [lt_uniq a1.2 a2.2 fun k => ?_]
    have hk := h k
    simp only [List.mem_cons] at hk
    constructor
    · intro hm
      rcases hk.mp (.inr hm) with e | e
      · have := a1.1 k hm; omega
      · exact e
    · intro hm
      rcases hk.mpr (.inr hm) with e | e
      · have := a2.1 k hm; omega
      · exact e
theorem lt_nodup {l : List Int} (h : l.Pairwise (· < ·)) : l.Nodup := h.imp fun h => by omega
def intsOfD : List D → Option (List Int)
  | [] => some []
  | .int i :: r => (intsOfD r).map (i :: ·)
  | _ => none
/-- sorted(set(l)) -/
def fSortSet (r : RV) : Option RV := match r.lst with
  | some xs => (match intsOfD xs with
    | some ns => if ns.length ≤ 4000 then some (.new ((dsort ns).map PyData.int)) else none
    | none => none)
  | none => none
/-- len(set(t)), t a tuple -/
def fLenSet (r : RV) : Option RV := match r with
  | .d (.tuple xs) => (match intsOfD xs with
    | some ns => if ns.length ≤ 4000 then some (.d (.int (dsort ns).length)) else none
    | none => none)
  | _ => none
def isIns (x : Int) : List Int → List Int
  | [] => [x]
  | y :: r => if x ≤ y then x :: y :: r else y :: isIns x r
def isort : List Int → List Int
  | [] => []
  | x :: r => isIns x (isort r)
/-- sorted(t), t a tuple of whole numbers -/
def fSortT (r : RV) : Option RV := match r with
  | .d (.tuple xs) => (match intsOfD xs with
    | some ns => some (.new ((isort ns).map PyData.int))
    | none => none)
  | _ => none
theorem isIns_perm {x : Int} : ∀ {l : List Int}, (isIns x l).Perm (x :: l)
  | [] => List.Perm.refl _
  | y :: l => by
    unfold isIns
    split
    · exact List.Perm.refl _
    · exact (List.Perm.cons y isIns_perm).trans (List.Perm.swap x y l)
theorem isort_perm : ∀ {l : List Int}, (isort l).Perm l
  | [] => List.Perm.refl _
  | x :: l => isIns_perm.trans (List.Perm.cons x isort_perm)
theorem isIns_le {x : Int} : ∀ {l : List Int}, l.Pairwise (· ≤ ·) → (isIns x l).Pairwise (· ≤ ·)
  | [], _ => by simp [isIns]
  | y :: l, h => by
    have h2 := List.pairwise_cons.mp h
    unfold isIns
    split
    · rename_i hx
      refine List.pairwise_cons.mpr ⟨fun z hz => ?_, h⟩
      rcases List.mem_cons.mp hz with e | e
      · rw [e]; exact hx
      · have := h2.1 z e; omega
    · rename_i hx
      refine List.pairwise_cons.mpr ⟨fun z hz => ?_, isIns_le h2.2⟩
      rcases List.mem_cons.mp (isIns_perm.mem_iff.mp hz) with e | e
      · rw [e]; omega
      · exact h2.1 z e
theorem isort_le : ∀ {l : List Int}, (isort l).Pairwise (· ≤ ·)
  | [] => List.Pairwise.nil
  | x :: l => isIns_le isort_le
theorem le_uniq : ∀ {l m : List Int}, l.Perm m → l.Pairwise (· ≤ ·) → m.Pairwise (· ≤ ·) → l = m
  | [], m, p, _, _ => (List.Perm.nil_eq p)
  | x :: l, [], p, _, _ => absurd p.length_eq (by simp)
  | x :: l, y :: m, p, h1, h2 => by
    have a1 := List.pairwise_cons.mp h1
    have a2 := List.pairwise_cons.mp h2
    have exy : x = y := by
      rcases List.mem_cons.mp (p.mem_iff.mp (List.mem_cons_self (a := x))) with e | e
      · exact e
      · rcases List.mem_cons.mp (p.mem_iff.mpr (List.mem_cons_self (a := y))) with e2 | e2
        · exact e2.symm
        · have := a2.1 x e; have := a1.1 y e2; omega
    subst exy
    rw [le_uniq p.cons_inv a1.2 a2.2]
/-- l.index(x) -/
def fIndex (l v : RV) : Option RV := match l.val, v with
  | some (.list ds), .d x => if SeqAt.shaped (.list ds) = true ∧ SeqAt.shaped x = true then (match ds.findIdx? fun z => PyData.eqv z x with
    | some j => some (.d (.int (j : Nat)))
    | none => none) else none
  | _, _ => none
end FS
set_option Elab.async false
set_option linter.all false
set_option maxRecDepth 100000
set_option maxHeartbeats 4000000
set_option autoImplicit false
/-! The tie between the plain meaning (FsSem) and the judgements of the hand layer. -/
namespace FS
open PySem L2 PyProof.Rows PySem.Spec

/-- what the whole derivation stands on -/
structure Gd where
  P : Program
  w : World
  K : PySem.W.Frag
  C : Addr

/-- a dict, by its entries -/
abbrev Raw := List (NestedKey × Addr × Value) × Nat
def RawD (G : Gd) (a : Addr) (raw : Raw) (h : Heap) : Prop :=
  raw.1.length ≤ sizeLine ∧ (a == sysModules) = false ∧ ∃ o es, h.get? a = some o ∧ o.ExactDict ∧ o.data = .dict es raw.2 ∧ es.toList = raw.1.map (entryOfKey (nestedKind G.P G.w)) ∧ (raw.1.map (·.1)).Nodup
def dicH (G : Gd) (a : Addr) (raw : Raw) : HO := .ext (RawD G a raw)

mutual
/-- data as a nested key -/
def toKey : D → NestedKey
  | .int i => .num i
  | .tuple xs => .tup (toKeys xs)
  | _ => .none
def toKeys : List D → List NestedKey
  | [] => []
  | x :: xs => toKey x :: toKeys xs
end

mutual
/-- the value stands for the data, and will go on doing so -/
def Den (G : Gd) (H : Hp) : D → V → Prop
  | .none, v => v = .non
  | .bool b, v => v = .bl b
  | .int i, v => v = .int i
  | .str x, v => v = .str x
  | .tuple ds, v => ∃ a vs, v = .ref a ∧ SqT G.K H a vs ∧ Dens G H ds vs
  | .list ds, v => ∃ a vs o, v = .ref a ∧ H a = some (.frz o (.lst vs)) ∧ Dens G H ds vs
  | .dict ks, v => ∃ a raw o, v = .ref a ∧ H a = some (.frz o (dicH G a raw)) ∧ Ents G H ks raw.1
def Dens (G : Gd) (H : Hp) : List D → List V → Prop
  | [], vs => vs = []
  | d :: ds, vs => ∃ v r, vs = v :: r ∧ Den G H d v ∧ Dens G H ds r
/-- a dict's entries: key objects and values -/
def Ents (G : Gd) (H : Hp) : List (D × D) → List (NestedKey × Addr × Value) → Prop
  | [], raw => raw = []
  | p :: ks, raw => ∃ a u x r, raw = (toKey p.1, a, u) :: r ∧ isKey p.1 = true ∧ Den G H p.1 (.ref a) ∧ RelV x u ∧ Den G H p.2 x ∧ Ents G H ks r
end

/-- what is never written again stays -/
def Fixd : HO → Prop
  | .tup _ => True
  | .frz _ _ => True
  | .ins _ _ _ => True
  | _ => False
def Stab (H H' : Hp) : Prop := ∀ a o, H a = some o → Fixd o → H' a = some o
theorem Stab.refl (H : Hp) : Stab H H := fun _ _ e _ => e
theorem Stab.trans {H H1 H2 : Hp} (a : Stab H H1) (b : Stab H1 H2) : Stab H H2 := fun c o e f => b c o (a c o e f) f
theorem Same.stab {H H' : Hp} (s : Same H H') : Stab H H' := fun a o e _ => s a o e
theorem Stab.upd {H : Hp} {a : Addr} {xs : List V} {o : HO} (h : H a = some (.lst xs)) : Stab H (upd H a o) := fun b u e f => by
  have ne : b ≠ a := fun z => by
    subst z
    rw [h] at e
    cases e
    exact f
  rw [upd_ne ne]
  exact e
theorem Stab.updX {H : Hp} {a : Addr} {φ : Heap → Prop} {o : HO} (h : H a = some (.ext φ)) : Stab H (L2.upd H a o) := fun b u e f => by
  have ne : b ≠ a := fun z => by
    subst z
    rw [h] at e
    cases e
    exact f
  rw [upd_ne ne]
  exact e
theorem Same.upd {H : Hp} {a : Addr} {o : HO} (h : H a = none) : Same H (upd H a o) := fun b u e => by
  rw [upd_ne (ne_of_none e h)]
  exact e
theorem Same.put {H H' : Hp} {a : Addr} {o : HO} (s : Same H H') (h : H a = none) : Same H (L2.upd H' a o) := fun b u e => by
  rw [upd_ne (ne_of_none e h)]
  exact s b u e
theorem Stab.sqT {K : PySem.W.Frag} {H H' : Hp} {a : Addr} {xs : List V} (s : Stab H H') (h : SqT K H a xs) : SqT K H' a xs := by
  rcases h with (h | ⟨o, h⟩) | h
  · exact .inl (.inl (s _ _ h trivial))
  · exact .inl (.inr ⟨o, s _ _ h trivial⟩)
  · exact .inr h
theorem Same.sqT {K : PySem.W.Frag} {H H' : Hp} {a : Addr} {xs : List V} (s : Same H H') (h : SqT K H a xs) : SqT K H' a xs := (FS.Same.stab s).sqT h

mutual
theorem Den.stab {G : Gd} {H H' : Hp} (s : Stab H H') : ∀ (d : D) (v : V), Den G H d v → Den G H' d v
  | .none, _, h => by simpa [Den] using h
  | .bool _, _, h => by simpa [Den] using h
  | .int _, _, h => by simpa [Den] using h
  | .str _, _, h => by simpa [Den] using h
  | .tuple ds, v, h => by
    unfold Den at h ⊢
    obtain ⟨a, vs, e, q, r⟩ := h
    exact ⟨a, vs, e, s.sqT q, Dens.stab s ds vs r⟩
  | .list ds, v, h => by
    unfold Den at h ⊢
    obtain ⟨a, vs, o, e, q, r⟩ := h
    exact ⟨a, vs, o, e, s _ _ q trivial, Dens.stab s ds vs r⟩
  | .dict ks, v, h => by
    unfold Den at h ⊢
    obtain ⟨a, raw, o, e, q, r⟩ := h
    exact ⟨a, raw, o, e, s _ _ q trivial, Ents.stab s ks raw.1 r⟩
theorem Dens.stab {G : Gd} {H H' : Hp} (s : Stab H H') : ∀ (ds : List D) (vs : List V), Dens G H ds vs → Dens G H' ds vs
  | [], _, h => by simpa [Dens] using h
  | d :: ds, vs, h => by
    unfold Dens at h ⊢
    obtain ⟨v, r, e, q1, q2⟩ := h
    exact ⟨v, r, e, Den.stab s d v q1, Dens.stab s ds r q2⟩
theorem Ents.stab {G : Gd} {H H' : Hp} (s : Stab H H') : ∀ (ks : List (D × D)) (raw : List (NestedKey × Addr × Value)), Ents G H ks raw → Ents G H' ks raw
  | [], _, h => by simpa [Ents] using h
  | p :: ks, raw, h => by
    unfold Ents at h ⊢
    obtain ⟨a, u, x, r, e, k, q1, q2, q3, q4⟩ := h
    exact ⟨a, u, x, r, e, k, Den.stab s p.1 _ q1, q2, Den.stab s p.2 x q3, Ents.stab s ks r q4⟩
end

theorem den_int {G : Gd} {H : Hp} {i : Int} {v : V} : Den G H (.int i) v ↔ v = .int i := by simp [Den]
theorem den_bool {G : Gd} {H : Hp} {b : Bool} {v : V} : Den G H (.bool b) v ↔ v = .bl b := by simp [Den]
theorem den_none {G : Gd} {H : Hp} {v : V} : Den G H .none v ↔ v = .non := by simp [Den]
theorem den_str {G : Gd} {H : Hp} {x : Str} {v : V} : Den G H (.str x) v ↔ v = .str x := by simp [Den]
theorem den_tup {G : Gd} {H : Hp} {ds : List D} {v : V} : Den G H (.tuple ds) v ↔ ∃ a vs, v = .ref a ∧ SqT G.K H a vs ∧ Dens G H ds vs := by
  constructor <;> intro h
  · unfold Den at h; exact h
  · unfold Den; exact h
theorem den_list {G : Gd} {H : Hp} {ds : List D} {v : V} : Den G H (.list ds) v ↔ ∃ a vs o, v = .ref a ∧ H a = some (.frz o (.lst vs)) ∧ Dens G H ds vs := by
  constructor <;> intro h
  · unfold Den at h; exact h
  · unfold Den; exact h
theorem den_dict {G : Gd} {H : Hp} {ks : List (D × D)} {v : V} : Den G H (.dict ks) v ↔ ∃ a raw o, v = .ref a ∧ H a = some (.frz o (dicH G a raw)) ∧ Ents G H ks raw.1 := by
  constructor <;> intro h
  · unfold Den at h; exact h
  · unfold Den; exact h
theorem dens_nil {G : Gd} {H : Hp} {vs : List V} : Dens G H [] vs ↔ vs = [] := by simp [Dens]
theorem dens_cons {G : Gd} {H : Hp} {d : D} {ds : List D} {vs : List V} : Dens G H (d :: ds) vs ↔ ∃ v r, vs = v :: r ∧ Den G H d v ∧ Dens G H ds r := by
  constructor <;> intro h
  · unfold Dens at h; exact h
  · unfold Dens; exact h
section
variable {G : Gd} {H : Hp}
theorem Dens.len : ∀ {ds : List D} {vs : List V}, Dens G H ds vs → vs.length = ds.length
  | [], vs, h => by rw [dens_nil.mp h]; rfl
  | d :: ds, vs, h => by
    obtain ⟨v, r, e, _, q⟩ := dens_cons.mp h
    rw [e, List.length_cons, List.length_cons, Dens.len q]
theorem Dens.get : ∀ {ds : List D} {vs : List V} {i : Nat} {d : D}, Dens G H ds vs → ds[i]? = some d → ∃ v, vs[i]? = some v ∧ Den G H d v
  | [], _, _, _, _, h => by simp at h
  | x :: ds, vs, 0, d, h, e => by
    obtain ⟨v, r, e1, q, _⟩ := dens_cons.mp h
    have e2 : x = d := by simpa using e
    subst e2
    exact ⟨v, by rw [e1]; rfl, q⟩
  | x :: ds, vs, i + 1, d, h, e => by
    obtain ⟨v, r, e1, _, q⟩ := dens_cons.mp h
    obtain ⟨u, e2, q2⟩ := Dens.get (i := i) (d := d) q (by simpa using e)
    exact ⟨u, by rw [e1]; simpa using e2, q2⟩
theorem Dens.at : ∀ {ds : List D} {vs : List V} {i : Nat} {v : V}, Dens G H ds vs → vs[i]? = some v → ∃ d, ds[i]? = some d ∧ Den G H d v
  | [], vs, _, _, h, e => by rw [dens_nil.mp h] at e; simp at e
  | x :: ds, vs, 0, v, h, e => by
    obtain ⟨u, r, e1, q, _⟩ := dens_cons.mp h
    rw [e1] at e
    have e2 : u = v := by simpa using e
    subst e2
    exact ⟨x, rfl, q⟩
  | x :: ds, vs, i + 1, v, h, e => by
    obtain ⟨u, r, e1, _, q⟩ := dens_cons.mp h
    rw [e1] at e
    obtain ⟨d, e2, q2⟩ := Dens.at (i := i) (v := v) q (by simpa using e)
    exact ⟨d, by simpa using e2, q2⟩
theorem Dens.app : ∀ {ds es : List D} {vs ws : List V}, Dens G H ds vs → Dens G H es ws → Dens G H (ds ++ es) (vs ++ ws)
  | [], _, vs, _, h, k => by rw [dens_nil.mp h]; exact k
  | x :: ds, es, vs, ws, h, k => by
    obtain ⟨u, r, e1, q1, q⟩ := dens_cons.mp h
    rw [e1]
    exact dens_cons.mpr ⟨u, r ++ ws, rfl, q1, Dens.app q k⟩
theorem Dens.one {d : D} {v : V} (h : Den G H d v) : Dens G H [d] [v] := dens_cons.mpr ⟨v, [], rfl, h, dens_nil.mpr rfl⟩
theorem Dens.cons {d : D} {v : V} {ds : List D} {vs : List V} (h : Den G H d v) (k : Dens G H ds vs) : Dens G H (d :: ds) (v :: vs) := dens_cons.mpr ⟨v, vs, rfl, h, k⟩
theorem Dens.setAt {d : D} {v : V} (h : Den G H d v) : ∀ {ds : List D} {vs : List V} (i : Nat), Dens G H ds vs → Dens G H (ds.set i d) (vs.set i v)
  | [], vs, i, k => by
    rw [dens_nil.mp k]
    exact dens_nil.mpr rfl
  | x :: ds, vs, 0, k => by
    obtain ⟨u, r, e1, q1, q⟩ := dens_cons.mp k
    rw [e1]
    exact Dens.cons h q
  | x :: ds, vs, i + 1, k => by
    obtain ⟨u, r, e1, q1, q⟩ := dens_cons.mp k
    rw [e1]
    exact Dens.cons q1 (Dens.setAt h i q)
theorem Dens.rep {ds : List D} {vs : List V} (h : Dens G H ds vs) : ∀ k : Nat, Dens G H (List.replicate k ds).flatten (List.replicate k vs).flatten
  | 0 => dens_nil.mpr rfl
  | k + 1 => by
    rw [List.replicate_succ, List.replicate_succ, List.flatten_cons, List.flatten_cons]
    exact h.app (Dens.rep h k)
theorem Dens.ints : ∀ (ns : List Int), Dens G H (ns.map PyData.int) (ns.map V.int)
  | [] => dens_nil.mpr rfl
  | n :: ns => Dens.cons (den_int.mpr rfl) (Dens.ints ns)
end

theorem sq_frz {K : PySem.W.Frag} {H : Hp} {a : Addr} {vs : List V} {o : Obj} (h : H a = some (.frz o (.lst vs))) : SqL K H a vs := .inl (.inr ⟨o, h⟩)

/-- the attributes that an instance may have -/
def carryF : List Str := ["source", "target", "shift", "book", "firsts", "numbers"]
def ObjF (G : Gd) (H : Hp) (fs : List (Str × D)) (gs : List (Str × V)) : Prop := (∀ f, f ∉ carryF → gs.lookup f = none) ∧ ∀ f d, fs.lookup f = some d → ∃ x, gs.lookup f = some x ∧ Den G H d x
/-! ### what an expression's value is in the heap; a slot -/
def Res (G : Gd) (H0 H H' : Hp) : RV → V → Prop
  | .d x, v => Den G H' x v
  | .cur xs, v => ∃ a vs, v = .ref a ∧ H' a = some (.lst vs) ∧ Dens G H' xs vs
  | .brw xs, v => ∃ a vs, v = .ref a ∧ Same H0 H' ∧ SqL G.K H0 a vs ∧ Dens G H' xs vs
  | .new xs, v => ∃ a vs, v = .ref a ∧ H a = none ∧ H' a = some (.lst vs) ∧ Dens G H' xs vs
  | .curd ks, v => ∃ a raw, v = .ref a ∧ H' a = some (dicH G a raw) ∧ Ents G H' ks raw.1
  | .brwd ks, v => ∃ a raw, v = .ref a ∧ Same H0 H' ∧ Rd H0 a (dicH G a raw) ∧ Ents G H' ks raw.1
  | .newd ks, v => ∃ a raw, v = .ref a ∧ H a = none ∧ H' a = some (dicH G a raw) ∧ Ents G H' ks raw.1
  | .obj fs, v => ∃ a dx gs, v = .ref a ∧ H' a = some (.ins G.C dx gs) ∧ ObjF G H' fs gs

/-- H0: the heap at the def's entry -/
def SlotOk (G : Gd) (H0 H : Hp) : AV → V → Prop
  | .d x, v => Den G H x v
  | .own xs, v => ∃ a vs, v = .ref a ∧ H0 a = none ∧ H a = some (.lst vs) ∧ Dens G H xs vs
  | .bor xs, v => ∃ a vs, v = .ref a ∧ SqL G.K H0 a vs ∧ Dens G H xs vs
  | .owd ks, v => ∃ a raw, v = .ref a ∧ H0 a = none ∧ H a = some (dicH G a raw) ∧ Ents G H ks raw.1
  | .bod ks, v => ∃ a raw, v = .ref a ∧ Rd H0 a (dicH G a raw) ∧ Ents G H ks raw.1
  | .obj fs, v => ∃ a dx gs, v = .ref a ∧ H a = some (.ins G.C dx gs) ∧ ObjF G H fs gs
def isOwn : AV → Bool
  | .own _ => true
  | .owd _ => true
  | _ => false

structure Rel (G : Gd) (H0 : Hp) (e : Env) (σ : L2.St) (H : Hp) : Prop where
  same : Same H0 H
  len : e.length = σ.length
  slot : ∀ (i : Nat) (a : AV), e[i]? = some (some a) → ∃ v, σ[i]? = some (some v) ∧ SlotOk G H0 H a v
  apart : ∀ (i j : Nat) (a b : AV) (v : V), i ≠ j → e[i]? = some (some a) → e[j]? = some (some b) → isOwn a = true → isOwn b = true → σ[i]? = some (some v) → σ[j]? = some (some v) → False

section
variable {G : Gd} {H0 H H' : Hp} {e : Env} {σ : L2.St}
theorem Rd.stay {H H' : Hp} {a : Addr} {u : HO} (s : Same H H') (h : Rd H a u) : Rd H' a u := by
  rcases h with h | ⟨o, h⟩
  · exact .inl (s _ _ h)
  · exact .inr ⟨o, s _ _ h⟩
theorem objs_stab {fs : List (Str × D)} {gs : List (Str × V)} (s : Stab H H') (h : ObjF G H fs gs) : ObjF G H' fs gs := ⟨h.1, fun f d q => by
  obtain ⟨x, e, r⟩ := h.2 f d q
  exact ⟨x, e, r.stab s⟩⟩
/-- nothing that is tracked has changed -/
theorem SlotOk.same {a : AV} {v : V} (s : Same H H') (h : SlotOk G H0 H a v) : SlotOk G H0 H' a v := by
  have st := FS.Same.stab s
  cases a with
  | d x => exact Den.stab st _ _ h
  | own xs => obtain ⟨a, vs, e, n, k, q⟩ := h; exact ⟨a, vs, e, n, s _ _ k, q.stab st⟩
  | bor xs => obtain ⟨a, vs, e, k, q⟩ := h; exact ⟨a, vs, e, k, q.stab st⟩
  | owd ks => obtain ⟨a, raw, e, n, k, q⟩ := h; exact ⟨a, raw, e, n, s _ _ k, q.stab st⟩
  | bod ks => obtain ⟨a, raw, e, k, q⟩ := h; exact ⟨a, raw, e, k, q.stab st⟩
  | obj fs => obtain ⟨a, dx, gs, e, k, q⟩ := h; exact ⟨a, dx, gs, e, st _ _ k trivial, objs_stab st q⟩
theorem Rel.go (R : Rel G H0 e σ H) (s : Same H H') : Rel G H0 e σ H' where
  same := R.same.trans s
  len := R.len
  slot := fun i a h => by
    obtain ⟨v, h1, h2⟩ := R.slot i a h
    exact ⟨v, h1, h2.same s⟩
  apart := R.apart
theorem Res.same {H1 : Hp} {r : RV} {v : V} (s : Same H' H1) (h : Res G H0 H H' r v) : Res G H0 H H1 r v := by
  have st := FS.Same.stab s
  cases r with
  | d x => exact Den.stab st _ _ h
  | cur xs => obtain ⟨a, vs, e, k, q⟩ := h; exact ⟨a, vs, e, s _ _ k, q.stab st⟩
  | brw xs => obtain ⟨a, vs, e, z, k, q⟩ := h; exact ⟨a, vs, e, z.trans s, k, q.stab st⟩
  | new xs => obtain ⟨a, vs, e, n, k, q⟩ := h; exact ⟨a, vs, e, n, s _ _ k, q.stab st⟩
  | curd ks => obtain ⟨a, raw, e, k, q⟩ := h; exact ⟨a, raw, e, s _ _ k, q.stab st⟩
  | brwd ks => obtain ⟨a, raw, e, z, k, q⟩ := h; exact ⟨a, raw, e, z.trans s, k, q.stab st⟩
  | newd ks => obtain ⟨a, raw, e, n, k, q⟩ := h; exact ⟨a, raw, e, n, s _ _ k, q.stab st⟩
  | obj fs => obtain ⟨a, dx, gs, e, k, q⟩ := h; exact ⟨a, dx, gs, e, st _ _ k trivial, objs_stab st q⟩
/-- seen from an earlier heap -/
theorem Res.back {H1 : Hp} {r : RV} {v : V} (s : Same H1 H) (h : Res G H0 H H' r v) : Res G H0 H1 H' r v := by
  cases r with
  | new xs => obtain ⟨a, vs, e, n, k, q⟩ := h; exact ⟨a, vs, e, s.free n, k, q⟩
  | newd ks => obtain ⟨a, raw, e, n, k, q⟩ := h; exact ⟨a, raw, e, s.free n, k, q⟩
  | _ => exact h
/-- a slot read -/
theorem Rel.read (R : Rel G H0 e σ H) {i : Nat} {a : AV} (h : getS e i = some a) : ∃ v, σ[i]? = some (some v) ∧ Res G H0 H H a.rd v := by
  have h' : e[i]? = some (some a) := by
    unfold getS at h
    split at h
    · rename_i b hb; cases h; exact hb
    · cases h
  obtain ⟨v, h1, h2⟩ := R.slot i a h'
  refine ⟨v, h1, ?_⟩
  cases a with
  | d x => exact h2
  | own xs => obtain ⟨a, vs, e, n, k, q⟩ := h2; exact ⟨a, vs, e, k, q⟩
  | bor xs => obtain ⟨a, vs, e, k, q⟩ := h2; exact ⟨a, vs, e, R.same, k, q⟩
  | owd ks => obtain ⟨a, raw, e, n, k, q⟩ := h2; exact ⟨a, raw, e, k, q⟩
  | bod ks => obtain ⟨a, raw, e, k, q⟩ := h2; exact ⟨a, raw, e, R.same, k, q⟩
  | obj fs => exact h2
theorem getS_of {i : Nat} {a : AV} (h : getS e i = some a) : e[i]? = some (some a) := by
  unfold getS at h
  split at h
  · rename_i b hb; cases h; exact hb
  · cases h
/-- a slot forgotten -/
theorem Rel.drop1 (R : Rel G H0 e σ H) (i : Nat) : Rel G H0 (e.set i none) σ H where
  same := R.same
  len := by rw [List.length_set]; exact R.len
  slot := fun j a h => by
    by_cases hj : i = j
    · subst hj
      by_cases hl : i < e.length
      · rw [List.getElem?_set_self hl] at h; cases h
      · rw [List.getElem?_eq_none (by rw [List.length_set]; omega)] at h; cases h
    · rw [List.getElem?_set_ne hj] at h
      exact R.slot j a h
  apart := fun j k a b v hn h1 h2 => by
    have back : ∀ {m : Nat} {c : AV}, (e.set i Option.none)[m]? = some (some c) → e[m]? = some (some c) := fun {m c} q => by
      by_cases hj : i = m
      · subst hj
        by_cases hl : i < e.length
        · rw [List.getElem?_set_self hl] at q; cases q
        · rw [List.getElem?_eq_none (by rw [List.length_set]; omega)] at q; cases q
      · rwa [List.getElem?_set_ne hj] at q
    exact R.apart j k a b v hn (back h1) (back h2)
theorem Rel.forget (R : Rel G H0 e σ H) : ∀ w : List Nat, Rel G H0 (forget w e) σ H := by
  intro w
  induction w generalizing e with
  | nil => exact R
  | cons i r ih => exact ih (R.drop1 i)
/-- the frame's slots forgotten too (a comprehension's own names) -/
theorem Rel.wipe (R : Rel G H0 e σ H) : ∀ w : List Nat, Rel G H0 (FS.forget w e) (wipe σ w) H := by
  intro w
  have key : ∀ (w : List Nat) (e : Env) (i : Nat) (a : AV), (FS.forget w e)[i]? = some (some a) → e[i]? = some (some a) ∧ i ∉ w := by
    intro w
    induction w with
    | nil => intro e i a h; exact ⟨h, by simp⟩
    | cons j r ih =>
      intro e i a h
      obtain ⟨h1, h2⟩ := ih (e.set j Option.none) i a h
      by_cases hj : j = i
      · subst hj
        by_cases hl : j < e.length
        · rw [List.getElem?_set_self hl] at h1; cases h1
        · rw [List.getElem?_eq_none (by rw [List.length_set]; omega)] at h1; cases h1
      · rw [List.getElem?_set_ne hj] at h1
        exact ⟨h1, by simp only [List.mem_cons, not_or]; exact ⟨fun z => hj z.symm, h2⟩⟩
  have len : ∀ (w : List Nat) (e : Env), (FS.forget w e).length = e.length := by
    intro w
    induction w with
    | nil => intro e; rfl
    | cons j r ih => intro e; show (FS.forget r (e.set j Option.none)).length = _; rw [ih, List.length_set]
  have keep : ∀ (w : List Nat) (i : Nat), i ∉ w → (L2.wipe σ w)[i]? = σ[i]? := by
    intro w
    induction w with
    | nil => intro i _; rfl
    | cons j r ih =>
      intro i hi
      simp only [List.mem_cons, not_or] at hi
      show ((L2.wipe σ r).set j Option.none)[i]? = _
      rw [List.getElem?_set_ne (fun z => hi.1 z.symm)]
      exact ih i hi.2
  refine ⟨R.same, by rw [len, wipe_length]; exact R.len, fun i a h => ?_, fun i j a b v hn h1 h2 o1 o2 h3 h4 => ?_⟩
  · obtain ⟨h1, h2⟩ := key w e i a h
    obtain ⟨v, q1, q2⟩ := R.slot i a h1
    exact ⟨v, by rw [keep w i h2]; exact q1, q2⟩
  · obtain ⟨g1, n1⟩ := key w e i a h1
    obtain ⟨g2, n2⟩ := key w e j b h2
    rw [keep w i n1] at h3
    rw [keep w j n2] at h4
    exact R.apart i j a b v hn g1 g2 o1 o2 h3 h4
theorem set_at {α : Type} {l : List α} {i j : Nat} {x y : α} (h : (l.set i x)[j]? = some y) : (j = i ∧ y = x) ∨ (j ≠ i ∧ l[j]? = some y) := by
  by_cases hj : i = j
  · subst hj
    by_cases hl : i < l.length
    · rw [List.getElem?_set_self hl] at h
      exact .inl ⟨rfl, (Option.some.inj h).symm⟩
    · rw [List.getElem?_eq_none (by rw [List.length_set]; omega)] at h; cases h
  · rw [List.getElem?_set_ne hj] at h
    exact .inr ⟨fun z => hj z.symm, h⟩
/-- a slot is given a value; a list of the frame's own must be another than those that stand -/
theorem Rel.put (R : Rel G H0 e σ H) {i : Nat} (hi : i < e.length) {a : AV} {v : V} (h : SlotOk G H0 H a v)
    (hn : isOwn a = true → ∀ (j : Nat) (b : AV), j ≠ i → e[j]? = some (some b) → isOwn b = true → σ[j]? ≠ some (some v)) : Rel G H0 (putS e i a) (σ.set i (some v)) H where
  same := R.same
  len := by unfold putS; rw [List.length_set, List.length_set]; exact R.len
  slot := fun j b q => by
    rcases set_at q with ⟨z, y⟩ | ⟨z, q⟩
    · cases y
      subst z
      exact ⟨v, List.getElem?_set_self (by rw [← R.len]; exact hi), h⟩
    · obtain ⟨u, q1, q2⟩ := R.slot j b q
      exact ⟨u, by rw [List.getElem?_set_ne (fun x => z x.symm)]; exact q1, q2⟩
  apart := fun j k b c u hjk h1 h2 o1 o2 s1 s2 => by
    rcases set_at h1 with ⟨z1, y1⟩ | ⟨z1, q1⟩
    · rcases set_at h2 with ⟨z2, y2⟩ | ⟨z2, q2⟩
      · exact hjk (z1.trans z2.symm)
      · cases y1
        rcases set_at s1 with ⟨_, w1⟩ | ⟨w1, _⟩
        · cases w1
          rcases set_at s2 with ⟨w2, _⟩ | ⟨_, w2⟩
          · exact z2 w2
          · exact hn o1 k c z2 q2 o2 w2
        · exact w1 z1
    · rcases set_at h2 with ⟨z2, y2⟩ | ⟨z2, q2⟩
      · cases y2
        rcases set_at s2 with ⟨_, w1⟩ | ⟨w1, _⟩
        · cases w1
          rcases set_at s1 with ⟨w2, _⟩ | ⟨_, w2⟩
          · exact z1 w2
          · exact hn o2 j b z1 q1 o1 w2
        · exact w1 z2
      · rcases set_at s1 with ⟨w1, _⟩ | ⟨_, w1⟩
        · exact z1 w1
        · rcases set_at s2 with ⟨w2, _⟩ | ⟨_, w2⟩
          · exact z2 w2
          · exact R.apart j k b c u hjk q1 q2 o1 o2 w1 w2
theorem Rel.lt (R : Rel G H0 e σ H) {i : Nat} {a : AV} (h : getS e i = some a) : i < e.length := (List.getElem?_eq_some_iff.mp (getS_of h)).1
/-- a list of the frame's own that stands in a slot -/
theorem Rel.ownAt (R : Rel G H0 e σ H) {i : Nat} {xs : List D} (h : getS e i = some (.own xs)) : ∃ a vs, σ[i]? = some (some (.ref a)) ∧ H0 a = none ∧ H a = some (.lst vs) ∧ Dens G H xs vs := by
  obtain ⟨v, h1, a, vs, h2, h3, h4, h5⟩ := R.slot i _ (getS_of h)
  subst h2
  exact ⟨a, vs, h1, h3, h4, h5⟩
theorem Rel.owdAt (R : Rel G H0 e σ H) {i : Nat} {ks : List (D × D)} (h : getS e i = some (.owd ks)) : ∃ a raw, σ[i]? = some (some (.ref a)) ∧ H0 a = none ∧ H a = some (dicH G a raw) ∧ Ents G H ks raw.1 := by
  obtain ⟨v, h1, a, vs, h2, h3, h4, h5⟩ := R.slot i _ (getS_of h)
  subst h2
  exact ⟨a, vs, h1, h3, h4, h5⟩
/-- .. is changed: the slots of stable data and the other lists are as they were -/
theorem Rel.chg (R : Rel G H0 e σ H) {i : Nat} {a : Addr} {c c' : AV} {o : HO} (h : getS e i = some c) (hc : isOwn c = true) (hs : σ[i]? = some (some (.ref a))) (hn : H0 a = none) (st : Stab H (upd H a o))
    (new : SlotOk G H0 (upd H a o) c' (.ref a)) : Rel G H0 (putS e i c') σ (upd H a o) where
  same := FS.Same.put R.same hn
  len := by unfold putS; rw [List.length_set]; exact R.len
  slot := fun j b q => by
    rcases set_at q with ⟨z, y⟩ | ⟨z, q⟩
    · cases y
      subst z
      exact ⟨_, hs, new⟩
    · obtain ⟨u, q1, q2⟩ := R.slot j b q
      refine ⟨u, q1, ?_⟩
      cases b with
      | d x => exact q2.stab st
      | own xs =>
        obtain ⟨a', vs, e1, n1, k1, r1⟩ := q2
        refine ⟨a', vs, e1, n1, ?_, r1.stab st⟩
        rw [upd_ne (fun z1 => by subst z1; subst e1; exact R.apart j i _ _ _ z q (getS_of h) rfl hc q1 hs)]
        exact k1
      | bor xs => obtain ⟨a', vs, e1, k1, r1⟩ := q2; exact ⟨a', vs, e1, k1, r1.stab st⟩
      | owd ks =>
        obtain ⟨a', vs, e1, n1, k1, r1⟩ := q2
        refine ⟨a', vs, e1, n1, ?_, r1.stab st⟩
        rw [upd_ne (fun z1 => by subst z1; subst e1; exact R.apart j i _ _ _ z q (getS_of h) rfl hc q1 hs)]
        exact k1
      | bod ks => obtain ⟨a', vs, e1, k1, r1⟩ := q2; exact ⟨a', vs, e1, k1, r1.stab st⟩
      | obj fs => obtain ⟨a', dx, gs, e1, k1, r1⟩ := q2; exact ⟨a', dx, gs, e1, st _ _ k1 trivial, objs_stab st r1⟩
  apart := fun j k b d u hjk h1 h2 o1 o2 s1 s2 => by
    have q1 : ∃ b', e[j]? = some (some b') ∧ isOwn b' = true := by
      rcases set_at h1 with ⟨z, y⟩ | ⟨z, q⟩
      · subst z; exact ⟨c, getS_of h, hc⟩
      · exact ⟨b, q, o1⟩
    have q2 : ∃ b', e[k]? = some (some b') ∧ isOwn b' = true := by
      rcases set_at h2 with ⟨z, y⟩ | ⟨z, q⟩
      · subst z; exact ⟨c, getS_of h, hc⟩
      · exact ⟨d, q, o2⟩
    obtain ⟨b', g1, g2⟩ := q1
    obtain ⟨d', g3, g4⟩ := q2
    exact R.apart j k b' d' u hjk g1 g3 g2 g4 s1 s2
end

/-! ### the judgements -/
abbrev gd (X : Cx) (C : Addr) : Gd := ⟨X.prog, X.w, X.K, C⟩
def tJ (G : Gd) (H0 : Hp) (f : EF) : TE := fun σ H Q => ∃ e r, Rel G H0 e σ H ∧ f e = some r ∧ ∀ v H', Same H H' → Res G H0 H H' r v → Q v H'
def ResL (G : Gd) (H0 H H' : Hp) : List RV → List V → Prop
  | [], vs => vs = []
  | r :: rs, vs => ∃ v ws, vs = v :: ws ∧ Res G H0 H H' r v ∧ ResL G H0 H H' rs ws
def tJA (G : Gd) (H0 : Hp) (f : AF) : TA := fun σ H Q => ∃ e rs, Rel G H0 e σ H ∧ f e = some rs ∧ ∀ vs H', Same H H' → ResL G H0 H H' rs vs → Q vs H'
def tJZ (G : Gd) (H0 : Hp) (f : ZF) : TA := fun σ H Q => ∃ e rs, Rel G H0 e σ H ∧ f e = some rs ∧ ∀ vs H', Same H H' → Dens G H' rs vs → Q vs H'
def tJT (G : Gd) (H0 : Hp) (f : BF) : TT := fun σ H Q => ∃ e b, Rel G H0 e σ H ∧ f e = some b ∧ ∀ H', Same H H' → Q b H'
/-- where a statement may end: the slots out of W are as they were -/
def Far (W : List Nat) (σ σ' : L2.St) : Prop := ∀ j : Nat, j ∉ W → σ'[j]? = σ[j]?
def OutD (G : Gd) (H0 : Hp) (W : List Nat) (σ : L2.St) (H : Hp) (o : Out) (D : Ends) : Prop := match o with
  | .nx e => ∀ σ' H', Rel G H0 e σ' H' → Far W σ σ' → Stab H H' → D.nx σ' H'
  | .rt r => ∀ v H', Same H0 H' → Res G H0 H0 H' r v → D.rt v H'
  | .bk e => ∀ σ' H', Rel G H0 e σ' H' → Far W σ σ' → Stab H H' → D.bk σ' H'
  | .ct e => ∀ σ' H', Rel G H0 e σ' H' → Far W σ σ' → Stab H H' → D.ct σ' H'
def tJS (G : Gd) (H0 : Hp) (W : List Nat) (f : SF) : TS := fun D σ H => ∃ e o, Rel G H0 e σ H ∧ f e = some o ∧ OutD G H0 W σ H o D
abbrev JE (X : Cx) (C : Addr) (H0 : Hp) (e : Expr) (f : EF) : Prop := PE X e (tJ (gd X C) H0 f)
abbrev JA (X : Cx) (C : Addr) (H0 : Hp) (es : List Expr) (f : AF) : Prop := PA X es (tJA (gd X C) H0 f)
abbrev JZ (X : Cx) (C : Addr) (H0 : Hp) (es : List Expr) (f : ZF) : Prop := PA X es (tJZ (gd X C) H0 f)
abbrev JT (X : Cx) (C : Addr) (H0 : Hp) (e : Expr) (f : BF) : Prop := PT X e (tJT (gd X C) H0 f)
abbrev JW (X : Cx) (C : Addr) (H0 : Hp) (e : Expr) (f : BF) : Prop := PW X e (tJT (gd X C) H0 f)
abbrev JS (X : Cx) (C : Addr) (H0 : Hp) (W : List Nat) (st : Stmt) (f : SF) : Prop := PS X st (tJS (gd X C) H0 W f)
abbrev JSs (X : Cx) (C : Addr) (H0 : Hp) (W : List Nat) (st : List Stmt) (f : SF) : Prop := PSs X st (tJS (gd X C) H0 W f)

theorem PE.weak {X : Cx} {e : Expr} {t t' : TE} (h : PE X e t) (k : ∀ σ H Q, t' σ H Q → t σ H Q) : PE X e t' := ⟨fun pn s σ H Q I q => h.run pn s σ H Q I (k σ H Q q)⟩
theorem PT.weak {X : Cx} {e : Expr} {t t' : TT} (h : PT X e t) (k : ∀ σ H Q, t' σ H Q → t σ H Q) : PT X e t' := ⟨fun pn s σ H Q I q => h.run pn s σ H Q I (k σ H Q q)⟩
theorem PW.weak {X : Cx} {e : Expr} {t t' : TT} (h : PW X e t) (k : ∀ σ H Q, t' σ H Q → t σ H Q) : PW X e t' := ⟨fun wh pn s σ H Q I q => h.run wh pn s σ H Q I (k σ H Q q)⟩
theorem PA.weak {X : Cx} {e : List Expr} {t t' : TA} (h : PA X e t) (k : ∀ σ H Q, t' σ H Q → t σ H Q) : PA X e t' := ⟨fun pos pn s σ H Q I q => h.run pos pn s σ H Q I (k σ H Q q)⟩
theorem PS.weak {X : Cx} {e : Stmt} {t t' : TS} (h : PS X e t) (k : ∀ D σ H, t' D σ H → t D σ H) : PS X e t' := ⟨fun pn s σ H D I q => h.run pn s σ H D I (k D σ H q)⟩
theorem PSs.weak {X : Cx} {e : List Stmt} {t t' : TS} (h : PSs X e t) (k : ∀ D σ H, t' D σ H → t D σ H) : PSs X e t' := ⟨fun pn s σ H D I q => h.run pn s σ H D I (k D σ H q)⟩
theorem lim_line {n : Nat} (h : n ≤ lim) : n ≤ sizeLine := Nat.le_trans h (by decide)
theorem lim_lt {n : Nat} (h : n < lim) : n < sizeLine := Nat.lt_of_lt_of_le h (by decide)
end FS
set_option Elab.async false
set_option linter.all false
set_option maxRecDepth 100000
set_option maxHeartbeats 4000000
set_option autoImplicit false
/-! Rules for expressions and tests. -/
namespace FS
open PySem L2 PyProof.Rows PySem.Spec

mutual
theorem Den.dp {G : Gd} {H : Hp} : ∀ (d : D) (v : V), d.canLay0 = true → Den G H d v → Dp G.K H v d
  | .none, v, _, h => by rw [den_none.mp h]; exact .non
  | .bool b, v, _, h => by rw [den_bool.mp h]; exact .bl b
  | .int i, v, _, h => by rw [den_int.mp h]; exact .int i
  | .str x, v, _, h => by rw [den_str.mp h]; exact .str x
  | .tuple ds, v, c, h => by
    obtain ⟨a, vs, e, q, r⟩ := den_tup.mp h
    rw [e]
    exact .tup q (Dens.dp ds vs (by simpa [PyData.canLay0] using c) r)
  | .list ds, v, c, h => by
    obtain ⟨a, vs, o, e, q, r⟩ := den_list.mp h
    rw [e]
    exact .lst (sq_frz q) (Dens.dp ds vs (by simpa [PyData.canLay0] using c) r)
  | .dict ks, v, c, _ => by simp [PyData.canLay0] at c
theorem Dens.dp {G : Gd} {H : Hp} : ∀ (ds : List D) (vs : List V), PyData.canLayAll0 ds = true → Dens G H ds vs → DpAll G.K H vs ds
  | [], vs, _, h => by rw [dens_nil.mp h]; exact .nil
  | d :: ds, vs, c, h => by
    obtain ⟨v, r, e, q1, q2⟩ := dens_cons.mp h
    have c' : d.canLay0 = true ∧ PyData.canLayAll0 ds = true := by simpa [PyData.canLayAll0] using c
    rw [e]
    exact .cons (Den.dp d v c'.1 q1) (Dens.dp ds r c'.2 q2)
end
theorem Res.dp {G : Gd} {H0 Ha H : Hp} {r : RV} {v : V} {d : D} (h : Res G H0 Ha H r v) (e : r.val = some d) (c : d.canLay0 = true) : Dp G.K H v d := by
  cases r with
  | d x => cases e; exact Den.dp _ _ c h
  | cur xs =>
    cases e
    obtain ⟨a, vs, z, k, q⟩ := h
    rw [z]
    exact .lst (SqL.of k) (Dens.dp xs vs (by simpa [PyData.canLay0] using c) q)
  | brw xs =>
    cases e
    obtain ⟨a, vs, z, w, k, q⟩ := h
    rw [z]
    exact .lst (w.seq k) (Dens.dp xs vs (by simpa [PyData.canLay0] using c) q)
  | new xs =>
    cases e
    obtain ⟨a, vs, z, n, k, q⟩ := h
    rw [z]
    exact .lst (SqL.of k) (Dens.dp xs vs (by simpa [PyData.canLay0] using c) q)
  | curd ks => cases e
  | brwd ks => cases e
  | newd ks => cases e
  | obj fs => cases e
/-- a sequence that can be read -/
theorem Res.sq {G : Gd} {H0 Ha H : Hp} {r : RV} {v : V} {xs : List D} (h : Res G H0 Ha H r v) (e : r.seq = some xs) : ∃ a vs, v = .ref a ∧ (SqL G.K H a vs ∨ SqT G.K H a vs) ∧ Dens G H xs vs := by
  cases r with
  | d x =>
    cases x with
    | tuple ys =>
      cases e
      obtain ⟨a, vs, z, k, q⟩ := den_tup.mp h
      exact ⟨a, vs, z, .inr k, q⟩
    | list ys =>
      cases e
      obtain ⟨a, vs, o, z, k, q⟩ := den_list.mp h
      exact ⟨a, vs, z, .inl (sq_frz k), q⟩
    | none => cases e
    | bool b => cases e
    | int i => cases e
    | str x => cases e
    | dict ks => cases e
  | cur ys => cases e; obtain ⟨a, vs, z, k, q⟩ := h; exact ⟨a, vs, z, .inl (SqL.of k), q⟩
  | brw ys => cases e; obtain ⟨a, vs, z, w, k, q⟩ := h; exact ⟨a, vs, z, .inl (w.seq k), q⟩
  | new ys => cases e; obtain ⟨a, vs, z, n, k, q⟩ := h; exact ⟨a, vs, z, .inl (SqL.of k), q⟩
  | curd ks => cases e
  | brwd ks => cases e
  | newd ks => cases e
  | obj fs => cases e

section
variable {G : Gd} {H0 Ha H : Hp} {v : V}
theorem r_int {i : Int} (h : Res G H0 Ha H (.d (.int i)) v) : v = .int i := den_int.mp (show Den G H _ _ from h)
theorem r_bool {b : Bool} (h : Res G H0 Ha H (.d (.bool b)) v) : v = .bl b := den_bool.mp (show Den G H _ _ from h)
theorem r_str {x : Str} (h : Res G H0 Ha H (.d (.str x)) v) : v = .str x := den_str.mp (show Den G H _ _ from h)
theorem r_none (h : Res G H0 Ha H (.d .none) v) : v = .non := den_none.mp (show Den G H _ _ from h)
theorem q_int {i : Int} : Res G H0 Ha H (.d (.int i)) (.int i) := show Den G H _ _ from den_int.mpr rfl
theorem q_bool {b : Bool} : Res G H0 Ha H (.d (.bool b)) (.bl b) := show Den G H _ _ from den_bool.mpr rfl
theorem q_str {x : Str} : Res G H0 Ha H (.d (.str x)) (.str x) := show Den G H _ _ from den_str.mpr rfl
theorem q_none : Res G H0 Ha H (.d .none) .non := show Den G H _ _ from den_none.mpr rfl
theorem r_tup {xs : List D} (h : Res G H0 Ha H (.d (.tuple xs)) v) : ∃ a vs, v = .ref a ∧ SqT G.K H a vs ∧ Dens G H xs vs := den_tup.mp (show Den G H _ _ from h)
theorem r_list {xs : List D} (h : Res G H0 Ha H (.d (.list xs)) v) : ∃ a vs o, v = .ref a ∧ H a = some (.frz o (.lst vs)) ∧ Dens G H xs vs := den_list.mp (show Den G H _ _ from h)
theorem r_dict {ks : List (D × D)} (h : Res G H0 Ha H (.d (.dict ks)) v) : ∃ a raw o, v = .ref a ∧ H a = some (.frz o (dicH G a raw)) ∧ Ents G H ks raw.1 := den_dict.mp (show Den G H _ _ from h)
theorem q_tup {xs : List D} {a : Addr} {vs : List V} (h : SqT G.K H a vs) (d : Dens G H xs vs) : Res G H0 Ha H (.d (.tuple xs)) (.ref a) := show Den G H _ _ from den_tup.mpr ⟨a, vs, rfl, h, d⟩
end
section
variable {X : Cx} {C : Addr} {H0 : Hp} {e a b c c' : Expr} {fe fa fb fc fc' : EF} {pos : Pos}

/-! ### names, constants -/
theorem je_var {i : Nat} (h : PE X e (tVar i)) : JE X C H0 e (eVar i) := PE.weak h fun σ H Q ⟨en, r, R, f, q⟩ => by
  unfold eVar at f
  split at f
  · rename_i s hs
    cases f
    obtain ⟨v, h1, h2⟩ := R.read hs
    exact ⟨v, h1, q v H (Same.refl H) h2⟩
  · cases f
theorem je_c {x : D} {v : V} (h : PE X e (tC v)) (k : ∀ (G : Gd) (H : Hp), Den G H x v := by intro _ _; simp [Den]) : JE X C H0 e (eC x) := PE.weak h fun σ H Q ⟨en, r, R, f, q⟩ => by
  cases f
  exact q v H (Same.refl H) (k _ _)

/-- a number, a text that the module keeps under a name -/
theorem je_gi {n : Int} {x : Str} (hg : Gl X x) (hm : ∃ t, X.mg x = some (.int n t)) (hd : (x == ("__debug__" : Str)) = false := by decide) : JE X C H0 (.Name x pos) (eC (.int n)) :=
  je_c (v := .int n) (pe_glob hg hm.choose_spec ⟨_, rfl⟩ hd)
theorem je_gs {z x : Str} (hg : Gl X x) (hm : ∃ t, X.mg x = some (.str z t)) (hd : (x == ("__debug__" : Str)) = false := by decide) : JE X C H0 (.Name x pos) (eC (.str z)) :=
  je_c (v := .str z) (pe_glob hg hm.choose_spec ⟨_, rfl⟩ hd)

/-! ### two operands -/
/-- what an operation on values comes to -/
def Op2 (G : Gd) (r : R2) (f : RV → RV → Option RV) : Prop :=
  ∀ (H0 Ha Hb H : Hp) (x y z : RV) (vx vy : V), Res G H0 Ha H x vx → Res G H0 Hb H y vy → f x y = some z → ∀ Q : VK, (∀ v H', Same H H' → Res G H0 H H' z v → Q v H') → r vx vy H Q
theorem op2_run {r : R2} {f : RV → RV → Option RV} (ho : Op2 (gd X C) r f) {σ : L2.St} {H : Hp} {Q : VK} (q : tJ (gd X C) H0 (eBin f fa fb) σ H Q) : tOp r (tJ (gd X C) H0 fa) (tJ (gd X C) H0 fb) σ H Q := by
  obtain ⟨en, z, R, h, q⟩ := q
  unfold eBin at h
  split at h
  · rename_i x hx
    split at h
    · rename_i y hy
      refine ⟨en, x, R, hx, fun v H1 s1 r1 => ⟨en, y, R.go s1, hy, fun u H2 s2 r2 => ?_⟩⟩
      exact ho H0 H H1 H2 x y z v u (r1.same s2) r2 h Q fun w H3 s3 r3 => q w H3 ((s1.trans s2).trans s3) (r3.back (s1.trans s2))
    · cases h
  · cases h
theorem je_op {op : Operator} {r : R2} {f : RV → RV → Option RV} (ho : OpR X (binaryOp op) r) (hf : Op2 (gd X C) r f) (ha : JE X C H0 a fa) (hb : JE X C H0 b fb) : JE X C H0 (.BinOp a op b pos) (eBin f fa fb) :=
  PE.weak (pe_op ho ha hb) fun _ _ _ q => op2_run hf q
theorem je_cmp {op : CmpOp} {r : R2} {f : RV → RV → Option RV} (ho : OpR X (compareOp op) r) (hf : Op2 (gd X C) r f) (ha : JE X C H0 a fa) (hb : JE X C H0 b fb) (hm : behindInMarks op b = false := by first | exact nomark _ | rfl) : JE X C H0 (.Compare a [op] [b] pos) (eBin f fa fb) :=
  PE.weak (pe_cmpR ho ha hb hm) fun _ _ _ q => op2_run hf q
theorem boolOf_some {r : Option RV} {k : Bool} (h : boolOf r = some k) : r = some (.d (.bool k)) := by
  unfold boolOf at h
  split at h
  · cases h; rfl
  · cases h
/-- a value that is a bool, as a test -/
theorem test_run {t : TE} (ht : ∀ (σ : L2.St) (H : Hp) (Q : VK), tJ (gd X C) H0 fe σ H Q → t σ H Q) {σ : L2.St} {H : Hp} {Q : Bool → Hp → Prop} (q : tJT (gd X C) H0 (bVal fe) σ H Q) : t σ H fun x H' => ∃ k, x = .bl k ∧ Q k H' := by
  obtain ⟨en, k, R, h, q⟩ := q
  exact ht σ H _ ⟨en, _, R, boolOf_some h, fun v H' s r => ⟨k, r_bool r, q H' s⟩⟩
theorem jt_cmp {op : CmpOp} {r : R2} {f : RV → RV → Option RV} (ho : OpR X (compareOp op) r) (hf : Op2 (gd X C) r f) (ha : JE X C H0 a fa) (hb : JE X C H0 b fb) (hm : behindInMarks op b = false := by first | exact nomark _ | rfl) : JT X C H0 (.Compare a [op] [b] pos) (bVal (eBin f fa fb)) :=
  PT.weak (pt_cmpR ho ha hb hm) fun _ _ _ q => test_run (fun _ _ _ w => op2_run hf w) q
/-- any other expression as a test -/
theorem jt_val (h : JE X C H0 e fe) (he : ∀ whole, isTrue e X.env whole = (do let v ← whole; standAt e.pos; holding [v] (truthy v)) := by intro _; rfl) : JT X C H0 e (bVal fe) :=
  PT.weak (pt_val h he) fun _ _ _ q => test_run (fun _ _ _ w => w) q

/-! ### the operations -/
theorem res_d {G : Gd} {H0 Ha H : Hp} {x : D} {v : V} (h : Res G H0 Ha H (.d x) v) : Den G H x v := h
def rAddA (K : PySem.W.Frag) : R2 := fun x y H Q => rI0 (fun i j => .int (i + j)) x y H Q ∨ rCatA K x y H Q ∨ (∃ i j, x = .str i ∧ y = .str j ∧ i.length + j.length ≤ sizeLine ∧ Q (.str (i ++ j)) H) ∨ rCat x y H Q
theorem op_addA : OpR X (binaryOp .Add) (rAddA X.K) := op_add.or (op_catA.or (op_add_str.or op_cat))
theorem o_add {G : Gd} : Op2 G (rAddA G.K) opAdd := by
  intro H0 Ha Hb H x y z vx vy rx ry h Q q
  unfold opAdd at h
  split at h
  · cases h
    have e1 := r_int rx
    have e2 := r_int ry
    exact .inl ⟨_, _, e1, e2, q _ H (Same.refl H) q_int⟩
  · split at h
    · rename_i xs ys hl
      cases h
      obtain ⟨a, vs, e1, k1, d1⟩ := r_tup rx
      obtain ⟨b, ws, e2, k2, d2⟩ := r_tup ry
      refine .inr (.inl ⟨a, b, vs, ws, e1, e2, k1, k2, by rw [d1.len, d2.len]; exact lim_line hl, fun hz => ?_, fun _ hz => ?_, fun _ _ p hp => ?_⟩)
      · have : xs = [] := by
          have l := d1.len
          rw [hz] at l
          exact List.eq_nil_of_length_eq_zero l.symm
        subst this
        exact q _ H (Same.refl H) (q_tup k2 d2)
      · have : ys = [] := by
          have l := d2.len
          rw [hz] at l
          exact List.eq_nil_of_length_eq_zero l.symm
        subst this
        exact q _ H (Same.refl H) (q_tup k1 (by rw [List.append_nil]; exact d1))
      · have s := FS.Same.upd (o := .tup (vs ++ ws)) hp
        exact q _ _ s (q_tup (SqT.of upd_same) ((d1.app d2).stab (FS.Same.stab s)))
    · cases h
  · split at h
    · rename_i hl
      cases h
      exact .inr (.inr (.inl ⟨_, _, r_str rx, r_str ry, lim_line hl, q _ H (Same.refl H) q_str⟩))
    · cases h
  · split at h
    · rename_i xs ys hl
      cases h
      obtain ⟨a, vs, e1, k1, d1⟩ := rx
      obtain ⟨b, ws, e2, n2, k2, d2⟩ := ry
      refine .inr (.inr (.inr ⟨a, b, vs, ws, e1, e2, k1, k2, by rw [d1.len, d2.len]; exact lim_line hl, fun p hp => ?_⟩))
      have s := FS.Same.upd (o := .lst (vs ++ ws)) hp
      exact q _ _ s ⟨p, _, rfl, hp, upd_same, (d1.app d2).stab (FS.Same.stab s)⟩
    · cases h
  · split at h
    · rename_i xs ys hl
      cases h
      obtain ⟨a, vs, e1, n1, k1, d1⟩ := rx
      obtain ⟨b, ws, e2, k2, d2⟩ := ry
      refine .inr (.inr (.inr ⟨a, b, vs, ws, e1, e2, k1, k2, by rw [d1.len, d2.len]; exact lim_line hl, fun p hp => ?_⟩))
      have s := FS.Same.upd (o := .lst (vs ++ ws)) hp
      exact q _ _ s ⟨p, _, rfl, hp, upd_same, (d1.app d2).stab (FS.Same.stab s)⟩
    · cases h
  · split at h
    · rename_i xs ys hl
      cases h
      obtain ⟨a, vs, e1, n1, k1, d1⟩ := rx
      obtain ⟨b, ws, e2, n2, k2, d2⟩ := ry
      refine .inr (.inr (.inr ⟨a, b, vs, ws, e1, e2, k1, k2, by rw [d1.len, d2.len]; exact lim_line hl, fun p hp => ?_⟩))
      have s := FS.Same.upd (o := .lst (vs ++ ws)) hp
      exact q _ _ s ⟨p, _, rfl, hp, upd_same, (d1.app d2).stab (FS.Same.stab s)⟩
    · cases h
  · cases h
theorem je_add (ha : JE X C H0 a fa) (hb : JE X C H0 b fb) : JE X C H0 (.BinOp a .Add b pos) (eBin opAdd fa fb) := je_op op_addA (o_add (G := gd X C)) ha hb
theorem o_sub {G : Gd} : Op2 G (rI0 fun i j => .int (i - j)) opSub := by
  intro H0 Ha Hb H x y z vx vy rx ry h Q q
  unfold opSub at h
  split at h
  · cases h
    exact ⟨_, _, r_int rx, r_int ry, q _ H (Same.refl H) q_int⟩
  · cases h
theorem je_sub (ha : JE X C H0 a fa) (hb : JE X C H0 b fb) : JE X C H0 (.BinOp a .Sub b pos) (eBin opSub fa fb) := je_op op_sub (o_sub (G := gd X C)) ha hb
def rMulA : R2 := fun x y H Q => rI CMul (fun i j => .int (i * j)) x y H Q ∨ rRep x y H Q
theorem op_mulA : OpR X (binaryOp .Mult) rMulA := op_mul.or op_rep
theorem o_mul {G : Gd} : Op2 G rMulA opMul := by
  intro H0 Ha Hb H x y z vx vy rx ry h Q q
  unfold opMul at h
  split at h
  · split at h
    · rename_i hc
      cases h
      exact .inl ⟨_, _, r_int rx, r_int ry, by unfold CMul; omega, q _ H (Same.refl H) q_int⟩
    · cases h
  · split at h
    · rename_i xs k hc
      have hc : 0 ≤ k ∧ k < 9223372036854775808 ∧ xs.length * k.toNat ≤ lim := hc
      cases h
      obtain ⟨a, vs, e1, n1, k1, d1⟩ := rx
      refine .inr ⟨a, k, vs, e1, r_int ry, k1, by omega, by have := hc.2.1; omega, by rw [d1.len]; exact lim_line hc.2.2, fun p hp => ?_⟩
      have s := FS.Same.upd (o := .lst (List.replicate k.toNat vs).flatten) hp
      exact q _ _ s ⟨p, _, rfl, hp, upd_same, (d1.rep _).stab (FS.Same.stab s)⟩
    · cases h
  · cases h
theorem je_mul (ha : JE X C H0 a fa) (hb : JE X C H0 b fb) : JE X C H0 (.BinOp a .Mult b pos) (eBin opMul fa fb) := je_op op_mulA (o_mul (G := gd X C)) ha hb
theorem o_fdiv {G : Gd} : Op2 G (rI CDiv fun i j => .int (i / j)) opFdiv := by
  intro H0 Ha Hb H x y z vx vy rx ry h Q q
  unfold opFdiv at h
  split at h
  · split at h
    · rename_i hc
      cases h
      exact ⟨_, _, r_int rx, r_int ry, hc, q _ H (Same.refl H) q_int⟩
    · cases h
  · cases h
theorem je_fdiv (ha : JE X C H0 a fa) (hb : JE X C H0 b fb) : JE X C H0 (.BinOp a .FloorDiv b pos) (eBin opFdiv fa fb) := je_op op_fdiv (o_fdiv (G := gd X C)) ha hb
theorem o_mod {G : Gd} : Op2 G (rI (fun _ j => 0 < j) fun i j => .int (i % j)) opMod := by
  intro H0 Ha Hb H x y z vx vy rx ry h Q q
  unfold opMod at h
  split at h
  · split at h
    · rename_i hc
      cases h
      exact ⟨_, _, r_int rx, r_int ry, hc, q _ H (Same.refl H) q_int⟩
    · cases h
  · cases h
theorem je_mod (ha : JE X C H0 a fa) (hb : JE X C H0 b fb) : JE X C H0 (.BinOp a .Mod b pos) (eBin opMod fa fb) := je_op op_mod (o_mod (G := gd X C)) ha hb
theorem o_pow {G : Gd} : Op2 G (rI CPow fun i j => .int (i ^ j.toNat)) opPow := by
  intro H0 Ha Hb H x y z vx vy rx ry h Q q
  unfold opPow at h
  split at h
  · split at h
    · rename_i hc
      cases h
      exact ⟨_, _, r_int rx, r_int ry, ⟨hc.1, by omega, by have := hc.2.2; omega⟩, q _ H (Same.refl H) q_int⟩
    · cases h
  · cases h
theorem je_pow (ha : JE X C H0 a fa) (hb : JE X C H0 b fb) : JE X C H0 (.BinOp a .Pow b pos) (eBin opPow fa fb) := je_op op_pow (o_pow (G := gd X C)) ha hb
theorem je_neg (ha : JE X C H0 a fa) : JE X C H0 (.UnaryOp .USub a pos) (eUn opNeg fa) := PE.weak (pe_un un_neg ha) fun σ H Q ⟨en, z, R, h, q⟩ => by
  unfold eUn at h
  split at h
  · rename_i x hx
    refine ⟨en, x, R, hx, fun v H1 s1 r1 => ?_⟩
    unfold opNeg at h
    split at h
    · cases h
      exact ⟨_, r_int r1, q _ H1 s1 q_int⟩
    · cases h
  · cases h
theorem o_cmpI {G : Gd} {p : Int → Int → Bool} : Op2 G (rI0 fun i j => .bl (p i j)) (cmpI p) := by
  intro H0 Ha Hb H x y z vx vy rx ry h Q q
  unfold cmpI at h
  split at h
  · cases h
    exact ⟨_, _, r_int rx, r_int ry, q _ H (Same.refl H) q_bool⟩
  · cases h
theorem o_lt {G : Gd} : Op2 G (rI0 fun i j => .bl (decide (i < j))) cmpLt := o_cmpI
theorem o_le {G : Gd} : Op2 G (rI0 fun i j => .bl (decide (i ≤ j))) cmpLe := o_cmpI
theorem o_gt {G : Gd} : Op2 G (rI0 fun i j => .bl (decide (j < i))) cmpGt := o_cmpI
theorem o_ge {G : Gd} : Op2 G (rI0 fun i j => .bl (decide (j ≤ i))) cmpGe := o_cmpI
theorem lay_of_shaped {d : D} (h : SeqAt.shaped d = true) : d.canLay0 = true := SeqAt.canLay_of_shaped h
theorem o_eq {G : Gd} : Op2 G (rEqD G.K) cmpEq := by
  intro H0 Ha Hb H x y z vx vy rx ry h Q q
  unfold cmpEq at h
  split at h
  · rename_i d d' hx hy
    split at h
    · rename_i hc
      cases h
      exact ⟨d, d', rx.dp hx (lay_of_shaped hc.1), ry.dp hy (lay_of_shaped hc.2), hc.1, hc.2, q _ H (Same.refl H) q_bool⟩
    · cases h
  · cases h
theorem o_ne {G : Gd} : Op2 G (rNeD G.K) cmpNe := by
  intro H0 Ha Hb H x y z vx vy rx ry h Q q
  unfold cmpNe at h
  split at h
  · rename_i d d' hx hy
    split at h
    · rename_i hc
      cases h
      exact ⟨d, d', rx.dp hx (lay_of_shaped hc.1), ry.dp hy (lay_of_shaped hc.2), hc.1, hc.2, q _ H (Same.refl H) q_bool⟩
    · cases h
  · cases h
theorem o_in {G : Gd} : Op2 G (rInD G.K) cmpIn := by
  intro H0 Ha Hb H x y z vx vy rx ry h Q q
  unfold cmpIn at h
  split at h
  · rename_i d ds hx hy
    split at h
    · rename_i hc
      cases h
      exact ⟨d, ds, rx.dp hx (lay_of_shaped hc.1), ry.dp hy (lay_of_shaped hc.2), hc.1, hc.2, q _ H (Same.refl H) q_bool⟩
    · cases h
  · cases h
theorem o_notIn {G : Gd} : Op2 G (rNotInD G.K) cmpNotIn := by
  intro H0 Ha Hb H x y z vx vy rx ry h Q q
  unfold cmpNotIn at h
  split at h
  · rename_i d ds hx hy
    split at h
    · rename_i hc
      cases h
      exact ⟨d, ds, rx.dp hx (lay_of_shaped hc.1), ry.dp hy (lay_of_shaped hc.2), hc.1, hc.2, q _ H (Same.refl H) q_bool⟩
    · cases h
  · cases h
theorem o_isNotB {G : Gd} : Op2 G (fun x y H Q => ∃ a b, x = .bl a ∧ y = .bl b ∧ Q (.bl (!decide (a = b))) H) cmpIsNotB := by
  intro H0 Ha Hb H x y z vx vy rx ry h Q q
  unfold cmpIsNotB at h
  split at h
  · cases h
    exact ⟨_, _, r_bool rx, r_bool ry, q _ H (Same.refl H) q_bool⟩
  · cases h
/-- is None, is not None -/
theorem o_isN {G : Gd} : Op2 G (fun x y H Q => y = .non ∧ Q (.bl (decide (x = .non))) H) cmpIsN := by
  intro H0 Ha Hb H x y z vx vy rx ry h Q q
  unfold cmpIsN at h
  split at h
  · refine ⟨r_none ry, ?_⟩
    unfold opIsN at h
    split at h
    · cases h
      rw [r_none rx]
      exact q _ H (Same.refl H) q_bool
    · rename_i d hd
      cases h
      have : decide (vx = V.non) = false := by
        apply decide_eq_false
        intro z
        subst z
        cases d with
        | none => exact hd rfl
        | bool b => have := r_bool rx; cases this
        | int b => have := r_int rx; cases this
        | str b => have := r_str rx; cases this
        | tuple b => obtain ⟨_, _, this, _⟩ := r_tup rx; cases this
        | list b => obtain ⟨_, _, _, this, _⟩ := r_list rx; cases this
        | dict b => obtain ⟨_, _, _, this, _⟩ := r_dict rx; cases this
      rw [this]
      exact q _ H (Same.refl H) q_bool
    · cases h
  · cases h
theorem o_isNotN {G : Gd} : Op2 G (fun x y H Q => y = .non ∧ Q (.bl (!decide (x = .non))) H) cmpIsNotN := by
  intro H0 Ha Hb H x y z vx vy rx ry h Q q
  unfold cmpIsNotN at h
  split at h
  · refine ⟨r_none ry, ?_⟩
    unfold opIsNotN at h
    split at h
    · cases h
      rw [r_none rx]
      exact q _ H (Same.refl H) q_bool
    · rename_i d hd
      cases h
      have : decide (vx = V.non) = false := by
        apply decide_eq_false
        intro z
        subst z
        cases d with
        | none => exact hd rfl
        | bool b => have := r_bool rx; cases this
        | int b => have := r_int rx; cases this
        | str b => have := r_str rx; cases this
        | tuple b => obtain ⟨_, _, this, _⟩ := r_tup rx; cases this
        | list b => obtain ⟨_, _, _, this, _⟩ := r_list rx; cases this
        | dict b => obtain ⟨_, _, _, this, _⟩ := r_dict rx; cases this
      rw [this]
      exact q _ H (Same.refl H) q_bool
    · cases h
  · cases h

/-! ### chains of comparisons -/
theorem ch2_run {r r' : R2} {f f' : RV → RV → Option RV} (hf : Op2 (gd X C) r f) (hf' : Op2 (gd X C) r' f') {σ : L2.St} {H : Hp} {Q : VK} (q : tJ (gd X C) H0 (eCh2 f f' fa fb fc) σ H Q) :
    tChain r r' (tJ (gd X C) H0 fa) (tJ (gd X C) H0 fb) (tJ (gd X C) H0 fc) σ H Q := by
  obtain ⟨en, z, R, h, q⟩ := q
  unfold eCh2 at h
  split at h
  · rename_i x hx
    split at h
    · rename_i y hy
      refine ⟨en, x, R, hx, fun v H1 s1 r1 => ⟨en, y, R.go s1, hy, fun u H2 s2 r2 => ?_⟩⟩
      split at h
      · rename_i hb1
        refine hf H0 H H1 H2 x y _ v u (r1.same s2) r2 (boolOf_some hb1) _ fun w H3 s3 r3 => ⟨true, r_bool r3, iteT ?_⟩
        split at h
        · rename_i z' hz
          refine ⟨en, z', ((R.go s1).go s2).go s3, hz, fun w' H4 s4 r4 => ?_⟩
          split at h
          · rename_i k hb2
            cases h
            refine hf' H0 H1 H3 H4 y z' _ u w' ((r2.same s3).same s4) r4 (boolOf_some hb2) Q fun w2 H5 s5 r5 => q _ H5 ((((s1.trans s2).trans s3).trans s4).trans s5) (r5.back (((s1.trans s2).trans s3).trans s4))
          · cases h
        · cases h
      · rename_i hb1
        cases h
        exact hf H0 H H1 H2 x y _ v u (r1.same s2) r2 (boolOf_some hb1) _ fun w H3 s3 r3 => ⟨false, r_bool r3, iteF (q _ H3 ((s1.trans s2).trans s3) q_bool)⟩
      · cases h
    · cases h
  · cases h
theorem je_ch2 {op op' : CmpOp} {r r' : R2} {f f' : RV → RV → Option RV} (ho : OpR X (compareOp op) r) (ho' : OpR X (compareOp op') r') (hf : Op2 (gd X C) r f) (hf' : Op2 (gd X C) r' f') (ha : JE X C H0 a fa) (hb : JE X C H0 b fb) (hc : JE X C H0 c fc)
    (hm : lastMarks [op, op'] [b, c] = false := by with_unfolding_all rfl) : JE X C H0 (.Compare a [op, op'] [b, c] pos) (eCh2 f f' fa fb fc) :=
  PE.weak (pe_chain ho ho' ha hb hc hm) fun _ _ _ q => ch2_run hf hf' q
theorem jt_ch2 {op op' : CmpOp} {r r' : R2} {f f' : RV → RV → Option RV} (ho : OpR X (compareOp op) r) (ho' : OpR X (compareOp op') r') (hf : Op2 (gd X C) r f) (hf' : Op2 (gd X C) r' f') (ha : JE X C H0 a fa) (hb : JE X C H0 b fb) (hc : JE X C H0 c fc)
    (hm : lastMarks [op, op'] [b, c] = false := by with_unfolding_all rfl) : JT X C H0 (.Compare a [op, op'] [b, c] pos) (bVal (eCh2 f f' fa fb fc)) :=
  PT.weak (pt_chain ho ho' ha hb hc hm) fun _ _ _ q => test_run (fun _ _ _ w => ch2_run hf hf' w) q
/-- three comparisons in a row -/
def tChain3 (r r' r2 : R2) (ta tb tc td : TE) : TE := fun σ H Q => ta σ H fun x H1 => tb σ H1 fun y H2 => r x y H2 fun z H3 => ∃ k, z = .bl k ∧
  (if k = true then tc σ H3 fun y' H4 => r' y y' H4 fun z2 H5 => ∃ k2, z2 = .bl k2 ∧ (if k2 = true then td σ H5 fun y2 H6 => r2 y' y2 H6 Q else Q (.bl false) H5) else Q (.bl false) H3)
theorem pe_chain3 {op op' op2 : CmpOp} {r r' r2 : R2} {ta tb tc td : TE} (ho : OpR X (compareOp op) r) (ho' : OpR X (compareOp op') r') (ho2 : OpR X (compareOp op2) r2) (ha : PE X a ta) (hb : PE X b tb) (hc : PE X c tc) (hd : PE X c' td)
    (hm : lastMarks [op, op', op2] [b, c, c'] = false := by with_unfolding_all rfl) : PE X (.Compare a [op, op', op2] [b, c, c'] pos) (tChain3 r r' r2 ta tb tc td) := by
  constructor
  intro pn s σ H Q I h
  refine Compare_chain (thn (ha.run pn s σ H _ I h) fun v s1 ⟨x, H1, I1, r1, q1⟩ => chain_link (thn (hb.run pn s1 σ H1 _ I1 q1) fun u s2 ⟨y, H2, I2, rr2, q2⟩ =>
    thn (ho pn s2 σ H2 x y v u _ I2 r1 rr2 q2) fun d s3 ⟨z, H3, I3, r3, k, e, q3⟩ => ?_)) hm
  subst e
  cases r3
  refine wpAny_truthy_bool ?_
  cases k with
  | false => exact ite_ff ⟨.bl false, H3, I3, rfl, q3⟩
  | true =>
    refine ite_tt (chain_link (thn (hc.run pn s3 σ H3 _ I3 q3) fun u' s4 ⟨y', H4, I4, r4, q4⟩ => thn (ho' pn s4 σ H4 y y' u u' _ I4 rr2 r4 q4) fun d' s5 ⟨z2, H5, I5, r5, k2, e2, q5⟩ => ?_))
    subst e2
    cases r5
    refine wpAny_truthy_bool ?_
    cases k2 with
    | false => exact ite_ff ⟨.bl false, H5, I5, rfl, q5⟩
    | true => exact ite_tt (chain_last (thn (hd.run pn s5 σ H5 _ I5 q5) fun w' s6 ⟨z', H6, I6, r6, q6⟩ => ho2 pn s6 σ H6 y' z' u' w' Q I6 r4 r6 q6))
theorem pt_chain3 {op op' op2 : CmpOp} {r r' r2 : R2} {ta tb tc td : TE} (ho : OpR X (compareOp op) r) (ho' : OpR X (compareOp op') r') (ho2 : OpR X (compareOp op2) r2) (ha : PE X a ta) (hb : PE X b tb) (hc : PE X c tc) (hd : PE X c' td)
    (hm : lastMarks [op, op', op2] [b, c, c'] = false := by with_unfolding_all rfl) : PT X (.Compare a [op, op', op2] [b, c, c'] pos) (tTest (tChain3 r r' r2 ta tb tc td)) := by
  constructor
  intro pn s σ H Q I h
  refine isTrue_chain (thn (ha.run pn s σ H _ I h) fun v s1 ⟨x, H1, I1, r1, q1⟩ => test_link (thn (hb.run pn s1 σ H1 _ I1 q1) fun u s2 ⟨y, H2, I2, rr2, q2⟩ =>
    thn (ho pn s2 σ H2 x y v u _ I2 r1 rr2 q2) fun d s3 ⟨z, H3, I3, r3, k, e, q3⟩ => ?_)) hm
  subst e
  cases r3
  refine wpAny_truthy_bool ?_
  cases k with
  | false =>
    obtain ⟨k', e', q'⟩ := q3
    cases e'
    exact ite_ff ⟨H3, I3, q'⟩
  | true =>
    refine ite_tt (test_link (thn (hc.run pn s3 σ H3 _ I3 q3) fun u' s4 ⟨y', H4, I4, r4, q4⟩ => thn (ho' pn s4 σ H4 y y' u u' _ I4 rr2 r4 q4) fun d' s5 ⟨z2, H5, I5, r5, k2, e2, q5⟩ => ?_))
    subst e2
    cases r5
    refine wpAny_truthy_bool ?_
    cases k2 with
    | false =>
      obtain ⟨k', e', q'⟩ := q5
      cases e'
      exact ite_ff ⟨H5, I5, q'⟩
    | true =>
      refine ite_tt (test_last (thn (hd.run pn s5 σ H5 _ I5 q5) fun w' s6 ⟨z', H6, I6, r6, q6⟩ => thn (ho2 pn s6 σ H6 y' z' u' w' _ I6 r4 r6 q6) fun d2 s7 ⟨z3, H7, I7, r7, k3, e3, q7⟩ => ?_))
      subst e3
      cases r7
      exact wpAny_truthy_bool ⟨H7, I7, q7⟩
theorem ch3_run {r r' r2 : R2} {f f' f2 : RV → RV → Option RV} (hf : Op2 (gd X C) r f) (hf' : Op2 (gd X C) r' f') (hf2 : Op2 (gd X C) r2 f2) {σ : L2.St} {H : Hp} {Q : VK} (q : tJ (gd X C) H0 (eCh3 f f' f2 fa fb fc fc') σ H Q) :
    tChain3 r r' r2 (tJ (gd X C) H0 fa) (tJ (gd X C) H0 fb) (tJ (gd X C) H0 fc) (tJ (gd X C) H0 fc') σ H Q := by
  obtain ⟨en, z, R, h, q⟩ := q
  unfold eCh3 at h
  split at h
  · rename_i x hx
    split at h
    · rename_i y hy
      refine ⟨en, x, R, hx, fun v H1 s1 r1 => ⟨en, y, R.go s1, hy, fun u H2 s2 r2 => ?_⟩⟩
      split at h
      · rename_i hb1
        refine hf H0 H H1 H2 x y _ v u (r1.same s2) r2 (boolOf_some hb1) _ fun w H3 s3 r3 => ⟨true, r_bool r3, iteT ?_⟩
        have s03 := (s1.trans s2).trans s3
        split at h
        · rename_i z' hz
          refine ⟨en, z', R.go s03, hz, fun w' H4 s4 r4 => ?_⟩
          split at h
          · rename_i hb2
            refine hf' H0 H1 H3 H4 y z' _ u w' ((r2.same s3).same s4) r4 (boolOf_some hb2) _ fun w2 H5 s5 r5 => ⟨true, r_bool r5, iteT ?_⟩
            have s05 := (s03.trans s4).trans s5
            split at h
            · rename_i z2 hz2
              refine ⟨en, z2, R.go s05, hz2, fun w3 H6 s6 r6 => ?_⟩
              split at h
              · rename_i k hb3
                cases h
                exact hf2 H0 H3 H5 H6 z' z2 _ w' w3 ((r4.same s5).same s6) r6 (boolOf_some hb3) Q fun w4 H7 s7 r7 => q _ H7 ((s05.trans s6).trans s7) (r7.back (s05.trans s6))
              · cases h
            · cases h
          · rename_i hb2
            cases h
            exact hf' H0 H1 H3 H4 y z' _ u w' ((r2.same s3).same s4) r4 (boolOf_some hb2) _ fun w2 H5 s5 r5 => ⟨false, r_bool r5, iteF (q _ H5 ((s03.trans s4).trans s5) q_bool)⟩
          · cases h
        · cases h
      · rename_i hb1
        cases h
        exact hf H0 H H1 H2 x y _ v u (r1.same s2) r2 (boolOf_some hb1) _ fun w H3 s3 r3 => ⟨false, r_bool r3, iteF (q _ H3 ((s1.trans s2).trans s3) q_bool)⟩
      · cases h
    · cases h
  · cases h
theorem je_ch3 {op op' op2 : CmpOp} {r r' r2 : R2} {f f' f2 : RV → RV → Option RV} (ho : OpR X (compareOp op) r) (ho' : OpR X (compareOp op') r') (ho2 : OpR X (compareOp op2) r2) (hf : Op2 (gd X C) r f) (hf' : Op2 (gd X C) r' f') (hf2 : Op2 (gd X C) r2 f2)
    (ha : JE X C H0 a fa) (hb : JE X C H0 b fb) (hc : JE X C H0 c fc) (hd : JE X C H0 c' fc') (hm : lastMarks [op, op', op2] [b, c, c'] = false := by with_unfolding_all rfl) : JE X C H0 (.Compare a [op, op', op2] [b, c, c'] pos) (eCh3 f f' f2 fa fb fc fc') :=
  PE.weak (pe_chain3 ho ho' ho2 ha hb hc hd hm) fun _ _ _ q => ch3_run hf hf' hf2 q
theorem jt_ch3 {op op' op2 : CmpOp} {r r' r2 : R2} {f f' f2 : RV → RV → Option RV} (ho : OpR X (compareOp op) r) (ho' : OpR X (compareOp op') r') (ho2 : OpR X (compareOp op2) r2) (hf : Op2 (gd X C) r f) (hf' : Op2 (gd X C) r' f') (hf2 : Op2 (gd X C) r2 f2)
    (ha : JE X C H0 a fa) (hb : JE X C H0 b fb) (hc : JE X C H0 c fc) (hd : JE X C H0 c' fc') (hm : lastMarks [op, op', op2] [b, c, c'] = false := by with_unfolding_all rfl) : JT X C H0 (.Compare a [op, op', op2] [b, c, c'] pos) (bVal (eCh3 f f' f2 fa fb fc fc')) :=
  PT.weak (pt_chain3 ho ho' ho2 ha hb hc hd hm) fun _ _ _ q => test_run (fun _ _ _ w => ch3_run hf hf' hf2 w) q

/-! ### and, or, not -/
variable {rest : List Expr}
theorem je_one {op : BoolOp} (h : JE X C H0 a fa) : JE X C H0 (.BoolOp op [a] pos) fa := pe_one h
theorem je_and (ha : JE X C H0 a fa) (hb : JE X C H0 (.BoolOp .And (b :: rest) pos) fb) : JE X C H0 (.BoolOp .And (a :: b :: rest) pos) (eAnd fa fb) := PE.weak (pe_and ha hb) fun σ H Q ⟨en, z, R, h, q⟩ => by
  unfold eAnd at h
  split at h
  · rename_i hb1
    exact ⟨en, _, R, boolOf_some hb1, fun v H1 s1 r1 => ⟨true, r_bool r1, iteT ⟨en, z, R.go s1, h, fun w H2 s2 r2 => q w H2 (s1.trans s2) (r2.back s1)⟩⟩⟩
  · rename_i hb1
    cases h
    exact ⟨en, _, R, boolOf_some hb1, fun v H1 s1 r1 => ⟨false, r_bool r1, iteF (q _ H1 s1 q_bool)⟩⟩
  · cases h
theorem je_or (ha : JE X C H0 a fa) (hb : JE X C H0 (.BoolOp .Or (b :: rest) pos) fb) : JE X C H0 (.BoolOp .Or (a :: b :: rest) pos) (eOr fa fb) := PE.weak (pe_or ha hb) fun σ H Q ⟨en, z, R, h, q⟩ => by
  unfold eOr at h
  split at h
  · rename_i hb1
    cases h
    exact ⟨en, _, R, boolOf_some hb1, fun v H1 s1 r1 => ⟨true, r_bool r1, iteT (q _ H1 s1 q_bool)⟩⟩
  · rename_i hb1
    exact ⟨en, _, R, boolOf_some hb1, fun v H1 s1 r1 => ⟨false, r_bool r1, iteF ⟨en, z, R.go s1, h, fun w H2 s2 r2 => q w H2 (s1.trans s2) (r2.back s1)⟩⟩⟩
  · cases h
theorem je_not (ha : JE X C H0 a fa) : JE X C H0 (.UnaryOp .Not a pos) (eNot fa) := PE.weak (pe_not ha) fun σ H Q ⟨en, z, R, h, q⟩ => by
  unfold eNot at h
  split at h
  · rename_i k hb1
    cases h
    exact ⟨en, _, R, boolOf_some hb1, fun v H1 s1 r1 => ⟨k, r_bool r1, q _ H1 s1 q_bool⟩⟩
  · cases h
variable {ga gb : BF}
theorem jw_and1 (ha : JT X C H0 a ga) : JW X C H0 (.BoolOp .And [a] pos) ga := pw_and1 ha
theorem jw_or1 (ha : JT X C H0 a ga) : JW X C H0 (.BoolOp .Or [a] pos) ga := pw_or1 ha
theorem jw_and (ha : JT X C H0 a ga) (hb : JW X C H0 (.BoolOp .And (b :: rest) pos) gb) : JW X C H0 (.BoolOp .And (a :: b :: rest) pos) (bAnd ga gb) := PW.weak (pw_and ha hb) fun σ H Q ⟨en, z, R, h, q⟩ => by
  unfold bAnd at h
  split at h
  · rename_i hb1
    exact ⟨en, true, R, hb1, fun H1 s1 => iteT ⟨en, z, R.go s1, h, fun H2 s2 => q H2 (s1.trans s2)⟩⟩
  · rename_i hb1
    cases h
    exact ⟨en, false, R, hb1, fun H1 s1 => iteF (q H1 s1)⟩
  · cases h
theorem jw_or (ha : JT X C H0 a ga) (hb : JW X C H0 (.BoolOp .Or (b :: rest) pos) gb) : JW X C H0 (.BoolOp .Or (a :: b :: rest) pos) (bOr ga gb) := PW.weak (pw_or ha hb) fun σ H Q ⟨en, z, R, h, q⟩ => by
  unfold bOr at h
  split at h
  · rename_i hb1
    cases h
    exact ⟨en, true, R, hb1, fun H1 s1 => iteT (q H1 s1)⟩
  · rename_i hb1
    exact ⟨en, false, R, hb1, fun H1 s1 => iteF ⟨en, z, R.go s1, h, fun H2 s2 => q H2 (s1.trans s2)⟩⟩
  · cases h
theorem jt_w (h : JW X C H0 e ga) : JT X C H0 e ga := h.pt
theorem jt_not (ha : JT X C H0 a ga) : JT X C H0 (.UnaryOp .Not a pos) (bNot ga) := PT.weak (pt_not ha) fun σ H Q ⟨en, z, R, h, q⟩ => by
  unfold bNot at h
  split at h
  · rename_i k hb1
    cases h
    exact ⟨en, k, R, hb1, fun H1 s1 => q H1 s1⟩
  · cases h
theorem je_if {c : Expr} (hc : JT X C H0 c ga) (ha : JE X C H0 a fa) (hb : JE X C H0 b fb) : JE X C H0 (.IfExp c a b pos) (eIf ga fa fb) := PE.weak (pe_ifExp hc ha hb) fun σ H Q ⟨en, z, R, h, q⟩ => by
  unfold eIf at h
  split at h
  · rename_i hb1
    exact ⟨en, true, R, hb1, fun H1 s1 => iteT ⟨en, z, R.go s1, h, fun w H2 s2 r2 => q w H2 (s1.trans s2) (r2.back s1)⟩⟩
  · rename_i hb1
    exact ⟨en, false, R, hb1, fun H1 s1 => iteF ⟨en, z, R.go s1, h, fun w H2 s2 r2 => q w H2 (s1.trans s2) (r2.back s1)⟩⟩
  · cases h
end
end FS
set_option Elab.async false
set_option linter.all false
set_option maxRecDepth 100000
set_option maxHeartbeats 4000000
set_option autoImplicit false
/-! Rules for argument lists, displays, subscripts, calls, built-ins. -/
namespace FS
open PySem L2 PyProof.Rows PySem.Spec

theorem Res.sqL {G : Gd} {H0 Ha H : Hp} {r : RV} {v : V} {xs : List D} (h : Res G H0 Ha H r v) (e : r.lst = some xs) : ∃ a vs, v = .ref a ∧ SqL G.K H a vs ∧ Dens G H xs vs := by
  cases r with
  | d x =>
    cases x with
    | list ys => cases e; obtain ⟨a, vs, o, z, k, q⟩ := r_list h; exact ⟨a, vs, z, sq_frz k, q⟩
    | tuple ys => cases e
    | none => cases e
    | bool b => cases e
    | int i => cases e
    | str x => cases e
    | dict ks => cases e
  | cur ys => cases e; obtain ⟨a, vs, z, k, q⟩ := h; exact ⟨a, vs, z, SqL.of k, q⟩
  | brw ys => cases e; obtain ⟨a, vs, z, w, k, q⟩ := h; exact ⟨a, vs, z, w.seq k, q⟩
  | new ys => cases e; obtain ⟨a, vs, z, n, k, q⟩ := h; exact ⟨a, vs, z, SqL.of k, q⟩
  | curd ks => cases e
  | brwd ks => cases e
  | newd ks => cases e
  | obj fs => cases e

section
variable {X : Cx} {C : Addr} {H0 : Hp} {e a b c : Expr} {es : List Expr} {fe fa fb fc : EF} {za : ZF} {ra : AF} {pos p : Pos} {x : Str}

/-! ### a new list becomes data -/
theorem den_lstF {G : Gd} {H : Hp} {xs : List D} {a : Addr} {vs : List V} {o : Obj} (h : H a = some (.frz o (.lst vs))) (d : Dens G H xs vs) : Den G H (.list xs) (.ref a) := den_list.mpr ⟨a, vs, o, rfl, h, d⟩
theorem je_frz (ha : JE X C H0 a fa) : JE X C H0 a (eFrz fa) := by
  constructor
  intro pn s σ H Q I ⟨en, z, R, h, q⟩
  unfold eFrz at h
  split at h
  · rename_i r hr
    refine thn (ha.run pn s σ H (fun v H' => Same H H' ∧ Res (gd X C) H0 H H' r v) I ⟨en, r, R, hr, fun v H' s' r' => ⟨s', r'⟩⟩) fun u s1 ⟨v, H1, I1, rv, s01, r1⟩ => ?_
    cases r with
    | d y => cases h; exact ⟨v, H1, I1, rv, q v H1 s01 r1⟩
    | new xs =>
      cases h
      obtain ⟨l, vs, e1, n1, k1, d1⟩ := r1
      obtain ⟨od, I2⟩ := I1.lock k1 trivial
      refine ⟨v, _, I2, rv, q v _ (FS.Same.put s01 n1) ?_⟩
      subst e1
      exact den_lstF upd_same (d1.stab (Stab.upd k1))
    | newd ks =>
      cases h
      obtain ⟨l, raw, e1, n1, k1, d1⟩ := r1
      obtain ⟨od, I2⟩ := I1.lock k1 trivial
      refine ⟨v, _, I2, rv, q v _ (FS.Same.put s01 n1) ?_⟩
      exact den_dict.mpr ⟨l, raw, od, e1, upd_same, d1.stab (Stab.updX k1)⟩
    | cur xs => cases h
    | brw xs => cases h
    | curd ks => cases h
    | brwd ks => cases h
    | obj fs => cases h
  · cases h

/-! ### argument lists -/
theorem ResL.same {G : Gd} {H0 H H1 H2 : Hp} (s : Same H1 H2) : ∀ {rs : List RV} {vs : List V}, ResL G H0 H H1 rs vs → ResL G H0 H H2 rs vs
  | [], _, h => h
  | r :: rs, vs, ⟨v, ws, e, h1, h2⟩ => ⟨v, ws, e, h1.same s, ResL.same s h2⟩
theorem ResL.back {G : Gd} {H0 H H1 H2 : Hp} (s : Same H H1) : ∀ {rs : List RV} {vs : List V}, ResL G H0 H1 H2 rs vs → ResL G H0 H H2 rs vs
  | [], _, h => h
  | r :: rs, vs, ⟨v, ws, e, h1, h2⟩ => ⟨v, ws, e, h1.back s, ResL.back s h2⟩
theorem ja_nil : JA X C H0 [] aNil := PA.weak pa_nil fun σ H Q ⟨en, z, R, h, q⟩ => by
  cases h
  exact q [] H (Same.refl H) rfl
theorem ja_cons (ha : JE X C H0 a fa) (hr : JA X C H0 es ra) (hs : starEach (a :: es) X.env = (false, eval a X.env) :: starEach es X.env := by rfl) : JA X C H0 (a :: es) (aCons fa ra) := PA.weak (pa_cons ha hr hs) fun σ H Q ⟨en, z, R, h, q⟩ => by
  unfold aCons at h
  split at h
  · rename_i r hr1
    split at h
    · rename_i rs hr2
      cases h
      refine ⟨en, r, R, hr1, fun v H1 s1 r1 => ⟨en, rs, R.go s1, hr2, fun vs H2 s2 r2 => ?_⟩⟩
      exact q _ H2 (s1.trans s2) ⟨v, vs, rfl, r1.same s2, r2.back s1⟩
    · cases h
  · cases h
theorem jz_nil : JZ X C H0 [] zNil := PA.weak pa_nil fun σ H Q ⟨en, z, R, h, q⟩ => by
  cases h
  exact q [] H (Same.refl H) (dens_nil.mpr rfl)
theorem jz_cons (ha : JE X C H0 a fa) (hr : JZ X C H0 es za) (hs : starEach (a :: es) X.env = (false, eval a X.env) :: starEach es X.env := by rfl) : JZ X C H0 (a :: es) (zCons fa za) := PA.weak (pa_cons (je_frz ha) hr hs) fun σ H Q ⟨en, z, R, h, q⟩ => by
  unfold zCons at h
  split at h
  · rename_i r hr1
    split at h
    · rename_i y hy
      split at h
      · rename_i ys hr2
        cases h
        refine ⟨en, .d y, R, by unfold eFrz; rw [hr1]; show r.frz.map RV.d = _; rw [hy]; rfl, fun v H1 s1 r1 => ⟨en, ys, R.go s1, hr2, fun vs H2 s2 r2 => ?_⟩⟩
        exact q _ H2 (s1.trans s2) (Dens.cons (Den.stab (FS.Same.stab s2) _ _ r1) r2)
      · cases h
    · cases h
  · cases h
/-- how many items a display has at most -/
def ZLe (n : Nat) (f : ZF) : Prop := ∀ (e : Env) (xs : List D), f e = some xs → xs.length ≤ n
theorem zl_nil {n : Nat} : ZLe n zNil := fun e xs h => by cases h; exact Nat.zero_le _
theorem zl_cons {n : Nat} (h : ZLe n za) : ZLe (n + 1) (zCons fa za) := fun e xs q => by
  unfold zCons at q
  split at q
  · split at q
    · split at q
      · rename_i ys hy
        cases q
        exact Nat.succ_le_succ (h e _ hy)
      · cases q
    · cases q
  · cases q
theorem line_100 {n : Nat} (h : n ≤ 100) : n ≤ sizeLine := Nat.le_trans h (by decide)
theorem je_tup {k : Nat} (h : JZ X C H0 es za) (hl : ZLe 100 za := by repeat (first | exact zl_nil | refine zl_cons ?_)) : JE X C H0 (.Tuple es k pos) (eTup za) := PE.weak (pe_tup h) fun σ H Q ⟨en, z, R, h, q⟩ => by
  unfold eTup at h
  split at h
  · rename_i xs hx
    cases h
    refine ⟨en, xs, R, hx, fun vs H1 s1 r1 => ⟨by rw [r1.len]; exact line_100 (hl en xs hx), fun l nl => ?_⟩⟩
    have s2 := FS.Same.upd (o := .tup vs) nl
    exact q _ _ (s1.trans s2) (q_tup (SqT.of upd_same) (r1.stab (FS.Same.stab s2)))
  · cases h
theorem je_lst (h : JZ X C H0 es za) (hl : ZLe 100 za := by repeat (first | exact zl_nil | refine zl_cons ?_)) : JE X C H0 (.List es pos) (eLst za) := PE.weak (pe_lst h) fun σ H Q ⟨en, z, R, h, q⟩ => by
  unfold eLst at h
  split at h
  · rename_i xs hx
    cases h
    refine ⟨en, xs, R, hx, fun vs H1 s1 r1 => ⟨by rw [r1.len]; exact line_100 (hl en xs hx), fun l nl => ?_⟩⟩
    have s2 := FS.Same.upd (o := .lst vs) nl
    exact q _ _ (s1.trans s2) ⟨l, vs, rfl, s1.free nl, upd_same, r1.stab (FS.Same.stab s2)⟩
  · cases h

/-! ### subscripts -/
theorem atD_some {G : Gd} {H : Hp} {xs : List D} {vs : List V} {i : Int} {d : D} (h : Dens G H xs vs) (e : atD xs i = some d) : ∃ v, atI vs i = some v ∧ Den G H d v := by
  unfold atD at e
  split at e
  · rename_i j hj
    obtain ⟨v, h1, h2⟩ := h.get e
    refine ⟨v, ?_, h2⟩
    have e1 : L2.ixN vs.length i = some j := by rw [h.len]; exact hj
    unfold atI
    rw [e1]
    exact h1
  · cases e
theorem o_ix {G : Gd} : Op2 G (rIx G.K) opIx := by
  intro H0 Ha Hb H x y z vx vy rx ry h Q q
  have seqCase : ∀ (xs : List D) (i : Int), x.seq = some xs → y = .d (.int i) → (atD xs i).map RV.d = some z → rIx G.K vx vy H Q := fun xs i hs hy hz => by
    subst hy
    obtain ⟨d, hd, e⟩ := Option.map_eq_some_iff.mp hz
    subst e
    obtain ⟨a, vs, e1, k, ds⟩ := rx.sq hs
    obtain ⟨v, e2, dv⟩ := atD_some ds hd
    have qq := q v H (Same.refl H) (show Den G H d v from dv)
    rcases k with k | k
    · exact .inl ⟨a, vs, i, v, e1, r_int ry, k, e2, qq⟩
    · exact .inr (.inl ⟨a, vs, i, v, e1, r_int ry, k, e2, qq⟩)
  unfold opIx at h
  split at h
  · exact seqCase _ _ rfl rfl h
  · exact seqCase _ _ rfl rfl h
  · exact seqCase _ _ rfl rfl h
  · exact seqCase _ _ rfl rfl h
  · exact seqCase _ _ rfl rfl h
  · split at h
    · rename_i w i hl
      split at h
      · rename_i j hj
        obtain ⟨ch, hc, e⟩ := Option.map_eq_some_iff.mp h
        subst e
        refine .inr (.inr ⟨w, i, ch, r_str rx, r_int ry, lim_line hl, ?_, q _ H (Same.refl H) q_str⟩)
        have e1 : L2.ixN w.cps.toList.length i = some j := hj
        unfold atI
        rw [e1]
        exact hc
      · cases h
    · cases h
  · cases h
theorem je_ix (ha : JE X C H0 a fa) (hb : JE X C H0 b fb) (hs : PlainIx b := by exact fun _ _ => rfl) : JE X C H0 (.Subscript a b pos) (eBin opIx fa fb) :=
  PE.weak (pe_ix ix_seq ha hb hs) fun _ _ _ q => op2_run (o_ix (G := gd X C)) q
/-! ### slices -/
abbrev JP (X : Cx) (C : Addr) (H0 : Hp) (e : Option Expr) (f : PF) : Prop := PO X e fun σ H Q => ∃ en o, Rel (gd X C) H0 en σ H ∧ f en = some o ∧ ∀ H', Same H H' → Q o H'
theorem jp_none : JP X C H0 none pNone := ⟨fun pn s σ H Q I ⟨en, o, R, h, q⟩ => by
  cases h
  exact po_none.run pn s σ H Q I (q H (Same.refl H))⟩
theorem jp_some (ha : JE X C H0 a fa) : JP X C H0 (some a) (pSome fa) := ⟨fun pn s σ H Q I ⟨en, o, R, h, q⟩ => by
  unfold pSome at h
  split at h
  · rename_i i hi
    cases h
    exact (po_some ha).run pn s σ H Q I ⟨en, _, R, hi, fun v H1 s1 r1 => ⟨i, r_int r1, q H1 s1⟩⟩
  · cases h⟩
theorem cutV_dens {G : Gd} {H : Hp} {xs : List D} {vs : List V} (h : Dens G H xs vs) (lo hi : Option Int) : Dens G H (cutL xs lo hi) (cutV vs lo hi) := by
  have tk : ∀ (n : Nat) {xs : List D} {vs : List V}, Dens G H xs vs → Dens G H (xs.take n) (vs.take n) := by
    intro n
    induction n with
    | zero => intro xs vs _; rw [List.take_zero, List.take_zero]; exact dens_nil.mpr rfl
    | succ n ih =>
      intro xs vs h
      cases xs with
      | nil => rw [dens_nil.mp h]; exact dens_nil.mpr rfl
      | cons x xs =>
        obtain ⟨u, r, e1, q1, q⟩ := dens_cons.mp h
        rw [e1]
        exact Dens.cons q1 (ih q)
  have dr : ∀ (n : Nat) {xs : List D} {vs : List V}, Dens G H xs vs → Dens G H (xs.drop n) (vs.drop n) := by
    intro n
    induction n with
    | zero => intro xs vs h; exact h
    | succ n ih =>
      intro xs vs h
      cases xs with
      | nil => rw [dens_nil.mp h]; exact dens_nil.mpr rfl
      | cons x xs =>
        obtain ⟨u, r, e1, q1, q⟩ := dens_cons.mp h
        rw [e1]
        exact ih q
  unfold cutL cutV
  rw [h.len]
  exact tk _ (dr _ h)
theorem cutL_whole {xs : List D} {lo hi : Option Int} (h : HT.sIx xs.length 0 lo = 0 ∧ HT.sIx xs.length xs.length hi = xs.length) : cutL xs lo hi = xs := by
  have h1 : cutIx xs.length 0 lo = 0 := h.1
  have h2 : cutIx xs.length xs.length hi = xs.length := h.2
  unfold cutL
  rw [h1, h2]
  simp
def rSlAll (K : PySem.W.Frag) : V → Option Int → Option Int → Hp → VK → Prop := fun x lo hi H Q => rSlL K x lo hi H Q ∨ rSlA K x lo hi H Q ∨ rSlS x lo hi H Q
theorem sl_all : SlR X (rSlAll X.K) := sl_list.or (sl_tupA.or sl_str)
theorem je_cut {lo hi : Option Expr} {fl fh : PF} {p2 : Pos} (ha : JE X C H0 a fa) (hl : JP X C H0 lo fl) (hh : JP X C H0 hi fh) : JE X C H0 (.Subscript a (.Slice lo hi none p2) pos) (eCut fa fl fh) := PE.weak (pe_slice sl_all ha hl hh) fun σ H Q ⟨en, z, R, h, q⟩ => by
  unfold eCut at h
  split at h
  · rename_i r hr
    split at h
    · rename_i l hl1
      split at h
      · rename_i u hu1
        refine ⟨en, r, R, hr, fun v H1 s1 r1 => ⟨en, l, R.go s1, hl1, fun H2 s2 => ⟨en, u, (R.go s1).go s2, hu1, fun H3 s3 => ?_⟩⟩⟩
        have r3 := (r1.same s2).same s3
        have s03 := (s1.trans s2).trans s3
        unfold opCut at h
        split at h
        · rename_i xs
          cases h
          obtain ⟨ad, vs, e1, k, ds⟩ := r_tup r3
          refine .inr (.inl ⟨ad, vs, e1, k, fun hw => ?_, fun hw l' nl => ?_⟩)
          · rw [ds.len] at hw
            rw [cutL_whole hw] at q
            exact q _ H3 s03 (q_tup k ds)
          · have s4 := FS.Same.upd (o := .tup (cutV vs l u)) nl
            exact q _ _ (s03.trans s4) (q_tup (SqT.of upd_same) ((cutV_dens ds l u).stab (FS.Same.stab s4)))
        · split at h
          · rename_i w hw
            cases h
            exact .inr (.inr ⟨w, r_str r3, lim_line hw, q _ H3 s03 q_str⟩)
          · cases h
        · split at h
          · rename_i xs hs
            cases h
            obtain ⟨ad, vs, e1, k, ds⟩ := r3.sqL hs
            refine .inl ⟨ad, vs, e1, k, fun l' nl => ?_⟩
            have s4 := FS.Same.upd (o := .lst (cutV vs l u)) nl
            exact q _ _ (s03.trans s4) ⟨l', _, rfl, s03.free nl, upd_same, (cutV_dens ds l u).stab (FS.Same.stab s4)⟩
          · cases h
      · cases h
    · cases h
  · cases h

/-- a plain argument (no star); two of them -/
abbrev St1 (X : Cx) (a : Expr) : Prop := starEach [a] X.env = (false, eval a X.env) :: starEach [] X.env
abbrev St2 (X : Cx) (a b : Expr) : Prop := starEach [a, b] X.env = (false, eval a X.env) :: starEach [b] X.env
/-! ### built-ins of one or two arguments -/
def Cal1 (G : Gd) (r : List V → Hp → VK → Prop) (f : RV → Option RV) : Prop :=
  ∀ (H0 Ha H : Hp) (x z : RV) (v : V), Res G H0 Ha H x v → f x = some z → ∀ Q : VK, (∀ v' H', Same H H' → Res G H0 H H' z v' → Q v' H') → r [v] H Q
def Cal2 (G : Gd) (r : List V → Hp → VK → Prop) (f : RV → RV → Option RV) : Prop :=
  ∀ (H0 Ha Hb H : Hp) (x y z : RV) (v u : V), Res G H0 Ha H x v → Res G H0 Hb H y u → f x y = some z → ∀ Q : VK, (∀ v' H', Same H H' → Res G H0 H H' z v' → Q v' H') → r [v, u] H Q
theorem cal1_run {r : List V → Hp → VK → Prop} {f : RV → Option RV} (hf : Cal1 (gd X C) r f) {σ : L2.St} {H : Hp} {Q : VK} (q : tJ (gd X C) H0 (eUn f fa) σ H Q) : tCB r (tCons (tJ (gd X C) H0 fa) tNil) σ H Q := by
  obtain ⟨en, z, R, h, q⟩ := q
  unfold eUn at h
  split at h
  · rename_i x hx
    exact ⟨en, x, R, hx, fun v H1 s1 r1 => hf H0 H H1 x z v r1 h Q fun w H2 s2 r2 => q w H2 (s1.trans s2) (r2.back s1)⟩
  · cases h
theorem cal2_run {r : List V → Hp → VK → Prop} {f : RV → RV → Option RV} (hf : Cal2 (gd X C) r f) {σ : L2.St} {H : Hp} {Q : VK} (q : tJ (gd X C) H0 (eBin f fa fb) σ H Q) : tCB r (tCons (tJ (gd X C) H0 fa) (tCons (tJ (gd X C) H0 fb) tNil)) σ H Q := by
  obtain ⟨en, z, R, h, q⟩ := q
  unfold eBin at h
  split at h
  · rename_i x hx
    split at h
    · rename_i y hy
      refine ⟨en, x, R, hx, fun v H1 s1 r1 => ⟨en, y, R.go s1, hy, fun u H2 s2 r2 => ?_⟩⟩
      exact hf H0 H H1 H2 x y z v u (r1.same s2) r2 h Q fun w H3 s3 r3 => q w H3 ((s1.trans s2).trans s3) (r3.back (s1.trans s2))
    · cases h
  · cases h
theorem je_b1 {id : String} {r : List V → Hp → VK → Prop} {f : RV → Option RV} (hc : CallR X (.builtin id) r) (hf : Cal1 (gd X C) r f) (hg : Gl X x) (hm : X.mg x = none) (hv : bootBuiltins x = some (.builtin id)) (ha : JE X C H0 a fa)
    (h1 : St1 X a) (hn : x ≠ "__name__" := by decide) (hdb : (x == ("__debug__" : Str)) = false := by decide) : JE X C H0 (.Call (.Name x p) [a] [] pos) (eUn f fa) :=
  PE.weak (pe_callB hc hg hm hv (pa_cons ha pa_nil h1) hn hdb h1) fun _ _ _ q => cal1_run hf q
theorem je_t1 {T : String} {r : List V → Hp → VK → Prop} {f : RV → Option RV} (hc : CallR X (.type T) r) (hf : Cal1 (gd X C) r f) (hg : Gl X x) (hm : X.mg x = none) (hv : bootBuiltins x = some (.type T)) (ha : JE X C H0 a fa)
    (h1 : St1 X a) (hn : x ≠ "__name__" := by decide) (hdb : (x == ("__debug__" : Str)) = false := by decide) : JE X C H0 (.Call (.Name x p) [a] [] pos) (eUn f fa) :=
  PE.weak (pe_callTy hc hg hm hv (pa_cons ha pa_nil h1) hn hdb h1) fun _ _ _ q => cal1_run hf q
theorem je_b2 {id : String} {r : List V → Hp → VK → Prop} {f : RV → RV → Option RV} (hc : CallR X (.builtin id) r) (hf : Cal2 (gd X C) r f) (hg : Gl X x) (hm : X.mg x = none) (hv : bootBuiltins x = some (.builtin id)) (ha : JE X C H0 a fa) (hb : JE X C H0 b fb)
    (h2 : St2 X a b) (h1 : St1 X b) (hn : x ≠ "__name__" := by decide) (hdb : (x == ("__debug__" : Str)) = false := by decide) : JE X C H0 (.Call (.Name x p) [a, b] [] pos) (eBin f fa fb) :=
  PE.weak (pe_callB hc hg hm hv (pa_cons ha (pa_cons hb pa_nil h1) h2) hn hdb h2 (by rw [h1]; rfl)) fun _ _ _ q => cal2_run hf q

def rLenA (K : PySem.W.Frag) : List V → Hp → VK → Prop := fun xs H Q => (∃ z, xs = [.str z] ∧ z.length ≤ sizeLine ∧ Q (.int z.length) H) ∨ (∃ q ys, xs = [.ref q] ∧ (SqL K H q ys ∨ SqT K H q ys) ∧ Q (.int ys.length) H)
theorem call_lenA : CallR X (.builtin "len") (rLenA X.K) := call_len_str.or call_len_seq
theorem c_len {G : Gd} : Cal1 G (rLenA G.K) fLen := by
  intro H0 Ha H x z v r h Q q
  unfold fLen at h
  split at h
  · split at h
    · rename_i w hw
      cases h
      exact .inl ⟨w, by rw [r_str r], lim_line hw, q _ H (Same.refl H) q_int⟩
    · cases h
  · split at h
    · rename_i xs hs
      cases h
      obtain ⟨ad, vs, e1, k, ds⟩ := r.sq hs
      exact .inr ⟨ad, vs, by rw [e1], k, by rw [ds.len]; exact q _ H (Same.refl H) q_int⟩
    · cases h
theorem je_len (hg : Gl X "len") (hm : X.mg "len" = none) (ha : JE X C H0 a fa) (h1 : St1 X a := by rfl) : JE X C H0 (.Call (.Name "len" p) [a] [] pos) (eUn fLen fa) := je_b1 call_lenA (c_len (G := gd X C)) hg hm PySem.boot_len ha h1
def rTupA (K : PySem.W.Frag) : List V → Hp → VK → Prop := fun xs H Q => ∃ v, xs = [v] ∧ kTup K v H Q
theorem call_tupA : CallR X (.type "tuple") (rTupA X.K) := by
  intro pn s σ H xs us Q I r h
  obtain ⟨v, e, h⟩ := h
  subst e
  obtain ⟨u, e, ru⟩ := vals1 r
  subst e
  exact rl_tuple pn s σ H v u Q I ru h
theorem c_tuple {G : Gd} : Cal1 G (rTupA G.K) fTuple := by
  intro H0 Ha H x z v r h Q q
  unfold fTuple at h
  split at h
  · cases h
    obtain ⟨ad, vs, e1, k, ds⟩ := r_tup r
    exact ⟨v, rfl, .inr ⟨ad, vs, e1, k, q _ H (Same.refl H) (q_tup k ds)⟩⟩
  · split at h
    · rename_i xs hs
      cases h
      obtain ⟨ad, vs, e1, k, ds⟩ := r.sqL hs
      refine ⟨v, rfl, .inl ⟨ad, vs, e1, k, fun l nl => ?_⟩⟩
      have s4 := FS.Same.upd (o := .tup vs) nl
      exact q _ _ s4 (q_tup (SqT.of upd_same) (ds.stab (FS.Same.stab s4)))
    · cases h
theorem je_tuple (hg : Gl X "tuple") (hm : X.mg "tuple" = none) (ha : JE X C H0 a fa) (h1 : St1 X a := by rfl) : JE X C H0 (.Call (.Name "tuple" p) [a] [] pos) (eUn fTuple fa) := je_t1 call_tupA (c_tuple (G := gd X C)) hg hm boot_tuple ha h1
theorem c_list {G : Gd} : Cal1 G (fun xs H Q => ∃ p ys, xs = [.ref p] ∧ (SqL G.K H p ys ∨ SqT G.K H p ys) ∧ ∀ l, H l = none → Q (.ref l) (upd H l (.lst ys))) fList := by
  intro H0 Ha H x z v r h Q q
  unfold fList at h
  split at h
  · rename_i xs hs
    cases h
    obtain ⟨ad, vs, e1, k, ds⟩ := r.sq hs
    refine ⟨ad, vs, by rw [e1], k, fun l nl => ?_⟩
    have s4 := FS.Same.upd (o := .lst vs) nl
    exact q _ _ s4 ⟨l, _, rfl, nl, upd_same, ds.stab (FS.Same.stab s4)⟩
  · cases h
theorem je_list (hg : Gl X "list") (hm : X.mg "list" = none) (ha : JE X C H0 a fa) (h1 : St1 X a := by rfl) : JE X C H0 (.Call (.Name "list" p) [a] [] pos) (eUn fList fa) := je_t1 call_list_of (c_list (G := gd X C)) hg hm boot_list ha h1
theorem boolsOf_map {G : Gd} {H : Hp} : ∀ {xs : List D} {bs : List Bool} {vs : List V}, boolsOf xs = some bs → Dens G H xs vs → vs = bs.map V.bl
  | [], bs, vs, h, d => by cases h; rw [dens_nil.mp d]; rfl
  | .bool b :: r, bs, vs, h, d => by
    obtain ⟨bs', h1, h2⟩ := Option.map_eq_some_iff.mp (show (boolsOf r).map (b :: ·) = some bs from h)
    obtain ⟨v, ws, e1, d1, d2⟩ := dens_cons.mp d
    rw [e1, den_bool.mp d1, boolsOf_map h1 d2, ← h2]
    rfl
  | .none :: r, bs, vs, h, d => by cases h
  | .int _ :: r, bs, vs, h, d => by cases h
  | .str _ :: r, bs, vs, h, d => by cases h
  | .tuple _ :: r, bs, vs, h, d => by cases h
  | .list _ :: r, bs, vs, h, d => by cases h
  | .dict _ :: r, bs, vs, h, d => by cases h
theorem c_all {G : Gd} : Cal1 G (rAll G.K) fAll := by
  intro H0 Ha H x z v r h Q q
  unfold fAll at h
  split at h
  · rename_i xs hs
    split at h
    · rename_i bs hb
      cases h
      obtain ⟨ad, vs, e1, k, ds⟩ := r.sqL hs
      exact ⟨ad, bs, by rw [e1], by rw [← boolsOf_map hb ds]; exact k, q _ H (Same.refl H) q_bool⟩
    · cases h
  · cases h
theorem je_all (hc : X.calm = true) (hg : Gl X "all") (hm : X.mg "all" = none) (ha : JE X C H0 a fa) (h1 : St1 X a := by rfl) : JE X C H0 (.Call (.Name "all" p) [a] [] pos) (eUn fAll fa) := je_b1 (cr_all hc) (c_all (G := gd X C)) hg hm (by decide +kernel) ha h1
theorem c_min2 {G : Gd} : Cal2 G (fun xs H Q => ∃ i j, xs = [.int i, .int j] ∧ Q (.int (if j < i then j else i)) H) fMin2 := by
  intro H0 Ha Hb H x y z v u r1 r2 h Q q
  unfold fMin2 at h
  split at h
  · cases h
    exact ⟨_, _, by rw [r_int r1, r_int r2], q _ H (Same.refl H) q_int⟩
  · cases h
theorem je_min2 (hc : X.calm = true) (hg : Gl X "min") (hm : X.mg "min" = none) (ha : JE X C H0 a fa) (hb : JE X C H0 b fb) (h2 : St2 X a b := by rfl) (h1 : St1 X b := by rfl) : JE X C H0 (.Call (.Name "min" p) [a, b] [] pos) (eBin fMin2 fa fb) := je_b2 (call_min2 hc) (c_min2 (G := gd X C)) hg hm (by decide +kernel) ha hb h2 h1
theorem c_max2 {G : Gd} : Cal2 G (fun xs H Q => ∃ i j, xs = [.int i, .int j] ∧ Q (.int (if j > i then j else i)) H) fMax2 := by
  intro H0 Ha Hb H x y z v u r1 r2 h Q q
  unfold fMax2 at h
  split at h
  · cases h
    exact ⟨_, _, by rw [r_int r1, r_int r2], q _ H (Same.refl H) q_int⟩
  · cases h
theorem je_max2 (hc : X.calm = true) (hg : Gl X "max") (hm : X.mg "max" = none) (ha : JE X C H0 a fa) (hb : JE X C H0 b fb) (h2 : St2 X a b := by rfl) (h1 : St1 X b := by rfl) : JE X C H0 (.Call (.Name "max" p) [a, b] [] pos) (eBin fMax2 fa fb) := je_b2 (call_max2 hc) (c_max2 (G := gd X C)) hg hm (by decide +kernel) ha hb h2 h1

/-! ### isinstance with a built-in class -/
/-- the class's name of a value -/
def tyName : RV → Option String
  | .d (.none) => some "NoneType"
  | .d (.bool _) => some "bool"
  | .d (.int _) => some "int"
  | .d (.str _) => some "str"
  | .d (.tuple _) => some "tuple"
  | .d (.list _) => some "list"
  | .cur _ => some "list"
  | .brw _ => some "list"
  | .new _ => some "list"
  | _ => none
theorem ty_sqT {K : PySem.W.Frag} {H : Hp} {a : Addr} {vs : List V} (h : SqT K H a vs) : TyX K H (.ref a) (.type "tuple") := by
  rcases h with (h | ⟨o, h⟩) | ⟨o, its, n, hk, hc, _⟩
  · exact .base (.tup h)
  · exact .fTuple h
  · exact .kTuple hk hc
theorem ty_sqL {K : PySem.W.Frag} {H : Hp} {a : Addr} {vs : List V} (h : SqL K H a vs) : TyX K H (.ref a) (.type "list") := by
  rcases h with (h | ⟨o, h⟩) | ⟨o, its, n, hk, hc, _⟩
  · exact .base (.lst h)
  · exact .base (.frz h)
  · exact .kList hk hc
theorem Res.ty {G : Gd} {H0 Ha H : Hp} {r : RV} {v : V} {T : String} (h : Res G H0 Ha H r v) (e : tyName r = some T) : TyX G.K H v (.type T) := by
  cases r with
  | d x =>
    cases x with
    | none => cases e; rw [r_none h]; exact .base .non
    | bool b => cases e; rw [r_bool h]; exact .base (.bl b)
    | int i => cases e; rw [r_int h]; exact .base (.int i)
    | str x => cases e; rw [r_str h]; exact .base (.str x)
    | tuple xs => cases e; obtain ⟨a, vs, e1, k, _⟩ := r_tup h; rw [e1]; exact ty_sqT k
    | list xs => cases e; obtain ⟨a, vs, o, e1, k, _⟩ := r_list h; rw [e1]; exact ty_sqL (sq_frz k)
    | dict ks => cases e
  | cur xs => cases e; obtain ⟨a, vs, e1, k, _⟩ := h; rw [e1]; exact ty_sqL (SqL.of k)
  | brw xs => cases e; obtain ⟨a, vs, e1, w, k, _⟩ := h; rw [e1]; exact ty_sqL (w.seq k)
  | new xs => cases e; obtain ⟨a, vs, e1, n, k, _⟩ := h; rw [e1]; exact ty_sqL (SqL.of k)
  | curd ks => cases e
  | brwd ks => cases e
  | newd ks => cases e
  | obj fs => cases e
/-- isinstance(a, T), T a built-in class by its name; f tells the answer by the class's name -/
theorem je_isinst {T : Str} {Tn : String} {f : RV → Option RV} {pT : Pos} (hg : Gl X "isinstance") (hm : X.mg "isinstance" = none) (hgT : Gl X T) (hmT : X.mg T = none) (hvT : bootBuiltins T = some (.type Tn)) (ha : JE X C H0 a fa)
    (hf : ∀ r z, f r = some z → ∃ S k, tyName r = some S ∧ kitB S Tn = some k ∧ z = .d (.bool k)) (h2 : St2 X a (.Name T pT) := by rfl) (hn : T ≠ "__name__" := by decide) (hdb : (T == ("__debug__" : Str)) = false := by decide) :
    JE X C H0 (.Call (.Name "isinstance" p) [a, .Name T pT] [] pos) (eUn f fa) :=
  PE.weak (pe_callB call_isi hg hm (by decide +kernel) (pa_cons ha (pa_cons (pe_bltn (v := .ty Tn) hgT hmT hvT rfl hn hdb) pa_nil) h2) (he := h2)) fun σ H Q ⟨en, z, R, h, q⟩ => by
    unfold eUn at h
    split at h
    · rename_i r hr
      obtain ⟨S, k, h1, h2, h3⟩ := hf r z h
      subst h3
      exact ⟨en, r, R, hr, fun v H1 s1 r1 => ⟨v, .ty Tn, .type S, .type Tn, k, rfl, .ty Tn, r1.ty h1, kit_ty h2, q _ H1 s1 q_bool⟩⟩
    · cases h
theorem i_tuple (r z : RV) (h : isTupleD r = some z) : ∃ S k, tyName r = some S ∧ kitB S "tuple" = some k ∧ z = .d (.bool k) := by
  unfold isTupleD at h
  split at h <;> cases h
  · exact ⟨"int", _, rfl, by decide +kernel, rfl⟩
  · exact ⟨"bool", _, rfl, by decide +kernel, rfl⟩
  · exact ⟨"NoneType", _, rfl, by decide +kernel, rfl⟩
  · exact ⟨"str", _, rfl, by decide +kernel, rfl⟩
  · exact ⟨"tuple", _, rfl, by decide +kernel, rfl⟩
  · exact ⟨"list", _, rfl, by decide +kernel, rfl⟩
  · exact ⟨"list", _, rfl, by decide +kernel, rfl⟩
  · exact ⟨"list", _, rfl, by decide +kernel, rfl⟩
  · exact ⟨"list", _, rfl, by decide +kernel, rfl⟩
theorem i_list (r z : RV) (h : isListD r = some z) : ∃ S k, tyName r = some S ∧ kitB S "list" = some k ∧ z = .d (.bool k) := by
  unfold isListD at h
  split at h <;> cases h
  · exact ⟨"int", _, rfl, by decide +kernel, rfl⟩
  · exact ⟨"bool", _, rfl, by decide +kernel, rfl⟩
  · exact ⟨"NoneType", _, rfl, by decide +kernel, rfl⟩
  · exact ⟨"str", _, rfl, by decide +kernel, rfl⟩
  · exact ⟨"tuple", _, rfl, by decide +kernel, rfl⟩
  · exact ⟨"list", _, rfl, by decide +kernel, rfl⟩
  · exact ⟨"list", _, rfl, by decide +kernel, rfl⟩
  · exact ⟨"list", _, rfl, by decide +kernel, rfl⟩
  · exact ⟨"list", _, rfl, by decide +kernel, rfl⟩
theorem i_int (r z : RV) (h : isIntD r = some z) : ∃ S k, tyName r = some S ∧ kitB S "int" = some k ∧ z = .d (.bool k) := by
  unfold isIntD at h
  split at h <;> cases h
  · exact ⟨"int", _, rfl, by decide +kernel, rfl⟩
  · exact ⟨"bool", _, rfl, by decide +kernel, rfl⟩
  · exact ⟨"NoneType", _, rfl, by decide +kernel, rfl⟩
  · exact ⟨"str", _, rfl, by decide +kernel, rfl⟩
  · exact ⟨"tuple", _, rfl, by decide +kernel, rfl⟩
  · exact ⟨"list", _, rfl, by decide +kernel, rfl⟩
theorem i_bool (r z : RV) (h : isBoolD r = some z) : ∃ S k, tyName r = some S ∧ kitB S "bool" = some k ∧ z = .d (.bool k) := by
  unfold isBoolD at h
  split at h <;> cases h
  · exact ⟨"int", _, rfl, by decide +kernel, rfl⟩
  · exact ⟨"bool", _, rfl, by decide +kernel, rfl⟩
  · exact ⟨"NoneType", _, rfl, by decide +kernel, rfl⟩
  · exact ⟨"str", _, rfl, by decide +kernel, rfl⟩
  · exact ⟨"tuple", _, rfl, by decide +kernel, rfl⟩
  · exact ⟨"list", _, rfl, by decide +kernel, rfl⟩
theorem i_str (r z : RV) (h : isStrD r = some z) : ∃ S k, tyName r = some S ∧ kitB S "str" = some k ∧ z = .d (.bool k) := by
  unfold isStrD at h
  split at h <;> cases h
  · exact ⟨"str", _, rfl, by decide +kernel, rfl⟩
  · exact ⟨"int", _, rfl, by decide +kernel, rfl⟩
  · exact ⟨"bool", _, rfl, by decide +kernel, rfl⟩
  · exact ⟨"NoneType", _, rfl, by decide +kernel, rfl⟩
  · exact ⟨"tuple", _, rfl, by decide +kernel, rfl⟩
  · exact ⟨"list", _, rfl, by decide +kernel, rfl⟩

/-! ### defs: the promise by its meaning -/
def ArgsOk (G : Gd) (H : Hp) : List AV → List V → Prop
  | [], vs => vs = []
  | a :: as, vs => ∃ v ws, vs = v :: ws ∧ (SlotOk G H H a v ∧ isOwn a = false) ∧ ArgsOk G H as ws
def spF (G : Gd) (n : Nat) (F : FF) : Sp := fun vs H Q _ => vs.length = n ∧ ∃ as r, ArgsOk G H as vs ∧ F as = some r ∧ ∀ v H', Same H H' → Res G H H H' r v → Q v H'
theorem argsOk_of {G : Gd} {H0 H H' : Hp} : ∀ {rs : List RV} {as : List AV} {vs : List V}, argsOf rs = some as → ResL G H0 H H' rs vs → ArgsOk G H' as vs
  | [], as, vs, h, r => by cases h; exact r
  | r :: rs, as, vs, h, ⟨v, ws, e, h1, h2⟩ => by
    unfold argsOf at h
    split at h
    · rename_i a as' ha has
      cases h
      refine ⟨v, ws, e, ?_, argsOk_of has h2⟩
      cases r with
      | d x => cases ha; exact ⟨h1, rfl⟩
      | cur xs => cases ha; obtain ⟨a, us, z, k, d⟩ := h1; exact ⟨⟨a, us, z, SqL.of k, d⟩, rfl⟩
      | brw xs => cases ha; obtain ⟨a, us, z, w, k, d⟩ := h1; exact ⟨⟨a, us, z, w.seq k, d⟩, rfl⟩
      | new xs => cases ha; obtain ⟨a, us, z, n, k, d⟩ := h1; exact ⟨⟨a, us, z, SqL.of k, d⟩, rfl⟩
      | curd ks => cases ha; obtain ⟨a, us, z, k, d⟩ := h1; exact ⟨⟨a, us, z, .inl k, d⟩, rfl⟩
      | brwd ks => cases ha; obtain ⟨a, us, z, w, k, d⟩ := h1; exact ⟨⟨a, us, z, Rd.stay w k, d⟩, rfl⟩
      | newd ks => cases ha; obtain ⟨a, us, z, n, k, d⟩ := h1; exact ⟨⟨a, us, z, .inl k, d⟩, rfl⟩
      | obj fs => cases ha; exact ⟨h1, rfl⟩
    · cases h
theorem resL_len {G : Gd} {H0 H H' : Hp} : ∀ {rs : List RV} {vs : List V}, ResL G H0 H H' rs vs → vs.length = rs.length
  | [], vs, h => by rw [show vs = [] from h]; rfl
  | r :: rs, vs, ⟨v, ws, e, _, h2⟩ => by rw [e, List.length_cons, List.length_cons, resL_len h2]
theorem argsOf_len : ∀ {rs : List RV} {as : List AV}, argsOf rs = some as → as.length = rs.length
  | [], as, h => by cases h; rfl
  | r :: rs, as, h => by
    unfold argsOf at h
    split at h
    · rename_i a as' ha has
      cases h
      rw [List.length_cons, List.length_cons, argsOf_len has]
    · cases h
/-- the number of arguments is told by the meaning; what is handed back is data or new -/
def isRet : RV → Bool
  | .d _ => true
  | .new _ => true
  | .newd _ => true
  | _ => false
def Ar (n : Nat) (F : FF) : Prop := ∀ as r, F as = some r → as.length = n ∧ isRet r = true
theorem isRet_move {G : Gd} {H0 H1 H H' : Hp} {r : RV} {v : V} (e : isRet r = true) (h : Res G H0 H H' r v) : Res G H1 H H' r v := by
  cases r with
  | brw xs => cases e
  | brwd ks => cases e
  | _ => exact h
theorem je_call {CX : CXT} {k n : Nat} {f : Addr} {fd : FuncData} {ps : List Str} {F : FF} {E : XK} (G : FnOk X.prog X.w X.K X.mg X.base CX k f fd ps (spF (gd X C) n F)) (hr : Room k X.A) (hg : Gl X x) (hm : X.mg x = some (.ref f))
    (hk : PySem.W.keepIn X.K (.ref f) = true) (hb : Binds X.K fd ps []) (hx : Passes CX X E) (hA : Ar n F) (ha : JA X C H0 (e :: es) ra) (hdb : (x == ("__debug__" : Str)) = false := by decide)
    (he : starEach (e :: es) X.env = (false, eval e X.env) :: starEach es X.env := by rfl) (hpl : (backTo pos (starEach es X.env)).any (·.1) = false := by rfl) : JE X C H0 (.Call (.Name x p) (e :: es) [] pos) (eCall F ra) :=
  PE.weak (pe_call (dvs := []) G hr hg hm hk hb .nil hx ha hdb he hpl) fun σ H Q ⟨en, z, R, h, q⟩ => by
    unfold eCall at h
    split at h
    · rename_i rs hrs
      split at h
      · rename_i as has
        refine ⟨en, rs, R, hrs, fun vs H1 s1 r1 => ?_⟩
        refine ⟨by rw [List.append_nil, resL_len r1, ← argsOf_len has]; exact (hA as z h).1, as, z, by rw [List.append_nil]; exact argsOk_of has r1, h, fun v H2 s2 r2 => q v H2 (s1.trans s2) (isRet_move (hA as z h).2 (r2.back s1))⟩
      · cases h
    · cases h
end
end FS
set_option Elab.async false
set_option linter.all false
set_option maxRecDepth 100000
set_option maxHeartbeats 4000000
set_option autoImplicit false
/-! Rules for statements, loops, comprehensions, defs. -/
namespace FS
open PySem L2 PyProof.Rows PySem.Spec

section
variable {G : Gd} {H0 H H' : Hp} {W W1 W2 : List Nat} {σ σ' σ2 : L2.St} {o : Out} {D : Ends}
theorem Far.refl (W : List Nat) (σ : L2.St) : Far W σ σ := fun _ _ => rfl
theorem Far.trans (a : Far W1 σ σ') (b : Far W2 σ' σ2) : Far (W1 ++ W2) σ σ2 := fun j h => by
  rw [List.mem_append, not_or] at h
  exact (b j h.2).trans (a j h.1)
theorem Far.mono (a : Far W1 σ σ') (h : ∀ j : Nat, j ∈ W1 → j ∈ W2) : Far W2 σ σ' := fun j n => a j fun z => n (h j z)
theorem Far.join (a : Far W σ σ') (b : Far W σ' σ2) : Far W σ σ2 := fun j h => (b j h).trans (a j h)
theorem Far.put {i : Nat} {v : Option V} (h : i ∈ W) : Far W σ (σ.set i v) := fun j n => List.getElem?_set_ne fun z => n (by rw [← z]; exact h)
/-- from a later state on -/
theorem OutD.move (q : OutD G H0 W σ H o D) (f : Far W σ σ') (s : Stab H H') (hW : ∀ j : Nat, j ∈ W2 → j ∈ W) : OutD G H0 W2 σ' H' o D := by
  cases o with
  | nx e => exact fun σ3 H3 R f3 s3 => q σ3 H3 R (f.join (f3.mono hW)) (s.trans s3)
  | rt r => exact q
  | bk e => exact fun σ3 H3 R f3 s3 => q σ3 H3 R (f.join (f3.mono hW)) (s.trans s3)
  | ct e => exact fun σ3 H3 R f3 s3 => q σ3 H3 R (f.join (f3.mono hW)) (s.trans s3)
theorem OutD.less (q : OutD G H0 W σ H o D) (hW : ∀ j : Nat, j ∈ W2 → j ∈ W) : OutD G H0 W2 σ H o D := q.move (Far.refl W σ) (Stab.refl H) hW
end

section
variable {X : Cx} {C : Addr} {H0 : Hp} {W W1 W2 : List Nat} {a b : Expr} {st : Stmt} {sts : List Stmt} {fa fb : EF} {ga : BF} {f g : SF} {pos p : Pos} {i : Nat}

/-! ### blocks -/
theorem jss_nil : JSs X C H0 [] [] sNil := PSs.weak pss_nil fun D σ H ⟨e, o, R, h, q⟩ => by
  cases h
  exact q σ H R (Far.refl _ _) (Stab.refl H)
theorem jss_one (h : JS X C H0 W st f) : JSs X C H0 W [st] f := pss_one h
theorem seq_run {D : Ends} {σ : L2.St} {H : Hp} (w : tJS (gd X C) H0 (W1 ++ W2) (sSeq f g) D σ H) : tSeq (tJS (gd X C) H0 W1 f) (tJS (gd X C) H0 W2 g) D σ H := by
  obtain ⟨e, o, R, h, q⟩ := w
  unfold sSeq at h
  have h1 : ∀ j : Nat, j ∈ W1 → j ∈ W1 ++ W2 := fun j z => List.mem_append_left _ z
  have h2 : ∀ j : Nat, j ∈ W2 → j ∈ W1 ++ W2 := fun j z => List.mem_append_right _ z
  split at h
  · rename_i e' he
    exact ⟨e, .nx e', R, he, fun σ' H' R' fr s => ⟨e', o, R', h, q.move (fr.mono h1) s h2⟩⟩
  · rename_i hn
    refine ⟨e, o, R, h, ?_⟩
    cases o with
    | nx e' => exact absurd h (hn e')
    | rt r => exact q
    | bk e' => exact fun σ' H' R' fr s => q σ' H' R' (fr.mono h1) s
    | ct e' => exact fun σ' H' R' fr s => q σ' H' R' (fr.mono h1) s
theorem jss_cons (h1 : JS X C H0 W1 st f) (h2 : JSs X C H0 W2 sts g) : JSs X C H0 (W1 ++ W2) (st :: sts) (sSeq f g) := PSs.weak (pss_cons h1 h2) fun _ _ _ w => seq_run w

/-! ### names that are given a value -/
theorem set_out {α : Type} {l : List α} {i : Nat} {x : α} (h : ¬ i < l.length) : l.set i x = l := by
  apply List.ext_getElem?
  intro j
  by_cases hj : i = j
  · subst hj
    rw [List.getElem?_eq_none (by rw [List.length_set]; omega), List.getElem?_eq_none (by omega)]
  · rw [List.getElem?_set_ne hj]
theorem Rel.putA {G : Gd} {H H' : Hp} {e : Env} {σ : L2.St} {r : RV} {v : V} {av : AV} (R : Rel G H0 e σ H) (s : Same H H') (hr : Res G H0 H H' r v) (ha : r.av = some av) (i : Nat) : Rel G H0 (putS e i av) (σ.set i (some v)) H' := by
  have R' := R.go s
  by_cases hi : i < e.length
  · refine R'.put hi ?_ ?_
    · cases r with
      | d x => cases ha; exact hr
      | new xs => cases ha; obtain ⟨l, vs, e1, n, k, d⟩ := hr; exact ⟨l, vs, e1, R.same.free n, k, d⟩
      | newd ks => cases ha; obtain ⟨l, vs, e1, n, k, d⟩ := hr; exact ⟨l, vs, e1, R.same.free n, k, d⟩
      | obj fs => cases ha; exact hr
      | cur xs => cases ha
      | brw xs => cases ha
      | curd ks => cases ha
      | brwd ks => cases ha
    · intro ho j b hj hb hob hσ
      have old : ∃ l, v = .ref l ∧ H l = none := by
        cases r with
        | d x => cases ha; cases ho
        | new xs => obtain ⟨l, vs, e1, n, k, d⟩ := hr; exact ⟨l, e1, n⟩
        | newd ks => obtain ⟨l, vs, e1, n, k, d⟩ := hr; exact ⟨l, e1, n⟩
        | obj fs => cases ha; cases ho
        | cur xs => cases ha
        | brw xs => cases ha
        | curd ks => cases ha
        | brwd ks => cases ha
      obtain ⟨l, e1, n⟩ := old
      obtain ⟨u, h1, h2⟩ := R.slot j b hb
      rw [hσ] at h1
      cases h1
      cases b with
      | own ys => obtain ⟨l', vs, e2, _, k, _⟩ := h2; rw [e1] at e2; cases e2; rw [n] at k; cases k
      | owd ks => obtain ⟨l', vs, e2, _, k, _⟩ := h2; rw [e1] at e2; cases e2; rw [n] at k; cases k
      | d x => cases hob
      | bor xs => cases hob
      | bod ks => cases hob
      | obj fs => cases hob
  · have e1 : putS e i av = e := set_out hi
    have e2 : σ.set i (some v) = σ := set_out (by rw [← R.len]; exact hi)
    rw [e1, e2]
    exact R'
theorem js_set (h : PS X st (tAsg (tJ (gd X C) H0 fa) (gName i))) : JS X C H0 [i] st (sSet i fa) := PS.weak h fun D σ H ⟨e, o, R, h, q⟩ => by
  unfold sSet at h
  split at h
  · rename_i r hr
    split at h
    · rename_i av hav
      cases h
      exact ⟨e, r, R, hr, fun v H1 s1 r1 => q _ H1 (R.putA s1 r1 hav i) (Far.put (List.mem_singleton.mpr rfl)) (FS.Same.stab s1)⟩
    · cases h
  · cases h
theorem js_move {j : Nat} (h : PS X st (tAsg (tVar j) (gName i))) : JS X C H0 [i] st (sMove i j) := PS.weak h fun D σ H ⟨e, o, R, h, q⟩ => by
  unfold sMove at h
  split at h
  · rename_i xs hj
    cases h
    obtain ⟨l, vs, h1, h2, h3, h4⟩ := R.ownAt hj
    refine ⟨_, h1, q _ H ?_ (Far.put (List.mem_singleton.mpr rfl)) (Stab.refl H)⟩
    have R2 := R.drop1 j
    by_cases hi : i < (e.set j none).length
    · refine R2.put hi ⟨l, vs, rfl, h2, h3, h4⟩ fun _ k b hk hb hob hσ => ?_
      rcases set_at hb with ⟨_, z⟩ | ⟨z, hb⟩
      · cases z
      · exact R.apart k j b _ _ z hb (getS_of hj) hob rfl hσ h1
    · have e1 : (e.set j none).set i (some (AV.own xs)) = e.set j none := set_out hi
      have e2 : σ.set i (some (.ref l)) = σ := set_out (by rw [← R2.len]; exact hi)
      rw [e2]
      show Rel _ _ ((e.set j none).set i (some (AV.own xs))) _ _
      rw [e1]
      exact R2
  · cases h

/-! ### lists of the frame that change -/
theorem ty_own {K : PySem.W.Frag} {H : Hp} {l : Addr} {vs : List V} (h : H l = some (.lst vs)) : tyV K "list" (.ref l) H := .inl ⟨rfl, _, .inl (.inl h)⟩
theorem js_app (h : PS X st (tDrop (tBM X.K "list" rAppend (tVar i) (tCons (tJ (gd X C) H0 (eFrz fa)) tNil)))) : JS X C H0 [] st (sApp i fa) := PS.weak h fun D σ H ⟨e, o, R, h, q⟩ => by
  unfold sApp at h
  split at h
  · rename_i r hr
    split at h
    · rename_i y hy
      split at h
      · rename_i xs hx
        split at h
        · rename_i hl
          cases h
          obtain ⟨l, vs, h1, h2, h3, h4⟩ := R.ownAt hx
          refine ⟨_, h1, ty_own h3, e, .d y, R, by unfold eFrz; rw [hr]; show r.frz.map RV.d = _; rw [hy]; rfl, fun v H1 s1 r1 => ?_⟩
          have k1 := s1 _ _ h3
          refine ⟨l, vs, v, rfl, rfl, k1, by rw [h4.len]; exact lim_lt hl, ?_⟩
          have st := Stab.upd (o := .lst (vs ++ [v])) k1
          refine q σ _ ((R.go s1).chg hx rfl h1 h2 st ⟨l, _, rfl, h2, upd_same, ?_⟩) (Far.refl _ _) ((FS.Same.stab s1).trans st)
          exact ((h4.stab (FS.Same.stab s1)).app (Dens.one r1)).stab st
        · cases h
      · cases h
    · cases h
  · cases h
theorem js_ext (h : PS X st (tDrop (tBM X.K "list" rExtend (tVar i) (tCons (tJ (gd X C) H0 fa) tNil)))) : JS X C H0 [] st (sExt i fa) := PS.weak h fun D σ H ⟨e, o, R, h, q⟩ => by
  unfold sExt at h
  split at h
  · rename_i ys hr
    split at h
    · rename_i xs hx
      split at h
      · rename_i hl
        cases h
        obtain ⟨l, vs, h1, h2, h3, h4⟩ := R.ownAt hx
        refine ⟨_, h1, ty_own h3, e, .new ys, R, hr, fun v H1 s1 r1 => ?_⟩
        obtain ⟨l', ws, e1, n1, k2, d2⟩ := r1
        have k1 := s1 _ _ h3
        refine ⟨l, l', vs, ws, rfl, by rw [e1], k1, k2, by rw [h4.len, d2.len]; exact lim_line hl, ?_⟩
        have st := Stab.upd (o := .lst (vs ++ ws)) k1
        refine q σ _ ((R.go s1).chg hx rfl h1 h2 st ⟨l, _, rfl, h2, upd_same, ?_⟩) (Far.refl _ _) ((FS.Same.stab s1).trans st)
        exact ((h4.stab (FS.Same.stab s1)).app d2).stab st
      · cases h
    · cases h
  · cases h
theorem js_clear (h : PS X st (tDrop (tBM0 X.K "list" rClear (tVar i)))) : JS X C H0 [] st (sClear i) := PS.weak h fun D σ H ⟨e, o, R, h, q⟩ => by
  unfold sClear at h
  split at h
  · rename_i xs hx
    cases h
    obtain ⟨l, vs, h1, h2, h3, h4⟩ := R.ownAt hx
    refine ⟨_, h1, ty_own h3, l, vs, rfl, rfl, h3, ?_⟩
    have st := Stab.upd (o := .lst []) h3
    exact q σ _ (R.chg hx rfl h1 h2 st ⟨l, _, rfl, h2, upd_same, dens_nil.mpr rfl⟩) (Far.refl _ _) st
  · cases h
theorem js_put (h : PS X st (tAsg (tJ (gd X C) H0 (eFrz fb)) (gSub (tVar i) (tJ (gd X C) H0 fa) rSetL))) : JS X C H0 [] st (sPut i fa fb) := PS.weak h fun D σ H ⟨e, o, R, h, q⟩ => by
  unfold sPut at h
  split at h
  · rename_i r hr
    split at h
    · rename_i y hy
      split at h
      · rename_i z hz
        split at h
        · rename_i xs hx
          split at h
          · rename_i j hj
            cases h
            refine ⟨e, .d y, R, by unfold eFrz; rw [hr]; show r.frz.map RV.d = _; rw [hy]; rfl, fun v H1 s1 r1 => ?_⟩
            obtain ⟨l, vs, h1, h2, h3, h4⟩ := R.ownAt hx
            refine ⟨_, h1, e, _, R.go s1, hz, fun u H2 s2 r2 => ?_⟩
            have k2 := s2 _ _ (s1 _ _ h3)
            refine ⟨l, vs, z, j, rfl, r_int r2, k2, by rw [h4.len]; exact hj, ?_⟩
            have st := Stab.upd (o := .lst (vs.set j v)) k2
            have s12 := FS.Same.stab (s1.trans s2)
            refine q σ _ (((R.go s1).go s2).chg hx rfl h1 h2 st ⟨l, _, rfl, h2, upd_same, ?_⟩) (Far.refl _ _) (s12.trans st)
            exact (Dens.setAt (Den.stab (FS.Same.stab s2) _ _ r1) j (h4.stab s12)).stab st
          · cases h
        · cases h
      · cases h
    · cases h
  · cases h

/-! ### ends, tests -/
theorem js_ret (h : PS X st (tRet (tJ (gd X C) H0 fa))) : JS X C H0 [] st (sRet fa) := PS.weak h fun D σ H ⟨e, o, R, h, q⟩ => by
  unfold sRet at h
  split at h
  · rename_i r hr
    split at h
    · rename_i z hz
      cases h
      refine ⟨e, r, R, hr, fun v H1 s1 r1 => q v H1 (R.same.trans s1) ?_⟩
      have hz' : z = r := by
        cases r with
        | d x => cases hz; rfl
        | new xs => cases hz; rfl
        | newd ks => cases hz; rfl
        | cur xs => cases hz
        | brw xs => cases hz
        | curd ks => cases hz
        | brwd ks => cases hz
        | obj fs => cases hz
      subst hz'
      exact r1.back R.same
    · cases h
  · cases h
theorem js_retOwn (h : PS X st (tRet (tVar i))) : JS X C H0 [] st (sRetOwn i) := PS.weak h fun D σ H ⟨e, o, R, h, q⟩ => by
  unfold sRetOwn at h
  split at h
  · rename_i xs hx
    cases h
    obtain ⟨l, vs, h1, h2, h3, h4⟩ := R.ownAt hx
    exact ⟨_, h1, q _ H R.same ⟨l, vs, rfl, h2, h3, h4⟩⟩
  · rename_i ks hx
    cases h
    obtain ⟨l, vs, h1, h2, h3, h4⟩ := R.owdAt hx
    exact ⟨_, h1, q _ H R.same ⟨l, vs, rfl, h2, h3, h4⟩⟩
  · cases h
theorem js_expr (h : PS X st (tDrop (tJ (gd X C) H0 fa))) : JS X C H0 [] st (sExpr fa) := PS.weak h fun D σ H ⟨e, o, R, h, q⟩ => by
  unfold sExpr at h
  split at h
  · rename_i r hr
    cases h
    exact ⟨e, r, R, hr, fun v H1 s1 _ => q σ H1 (R.go s1) (Far.refl _ _) (FS.Same.stab s1)⟩
  · cases h
theorem js_if {c : Expr} {as bs : List Stmt} (hc : JT X C H0 c ga) (h1 : JSs X C H0 W1 as f) (h2 : JSs X C H0 W2 bs g) : JS X C H0 (W1 ++ W2) (.If c as bs pos) (sIf ga f g) := PS.weak (ps_if hc h1 h2) fun D σ H ⟨e, o, R, h, q⟩ => by
  unfold sIf at h
  split at h
  · rename_i hb
    exact ⟨e, true, R, hb, fun H1 s1 => iteT ⟨e, o, R.go s1, h, q.move (Far.refl _ _) (FS.Same.stab s1) fun j z => List.mem_append_left _ z⟩⟩
  · rename_i hb
    exact ⟨e, false, R, hb, fun H1 s1 => iteF ⟨e, o, R.go s1, h, q.move (Far.refl _ _) (FS.Same.stab s1) fun j z => List.mem_append_right _ z⟩⟩
  · cases h

/-! ### what is only told -/
theorem jss_lock (i : Nat) (h : JSs X C H0 W sts f) : JSs X C H0 W sts (sLock i f) := by
  constructor
  intro pn s σ H D I ⟨e, o, R, hf, q⟩
  unfold sLock at hf
  split at hf
  · rename_i xs hx
    obtain ⟨l, vs, h1, h2, h3, h4⟩ := R.ownAt hx
    obtain ⟨od, I2⟩ := I.lock h3 trivial
    have st := Stab.upd (o := .frz od (.lst vs)) h3
    refine h.run pn s σ _ D I2 ⟨_, o, R.chg (c' := .d (.list xs)) hx rfl h1 h2 st (den_lstF upd_same (h4.stab st)), hf, q.move (Far.refl _ _) st fun _ z => z⟩
  · rename_i ks hx
    obtain ⟨l, raw, h1, h2, h3, h4⟩ := R.owdAt hx
    obtain ⟨od, I2⟩ := I.lock h3 trivial
    have st := Stab.updX (o := .frz od (dicH (gd X C) l raw)) h3
    refine h.run pn s σ _ D I2 ⟨_, o, R.chg (c' := .d (.dict ks)) hx rfl h1 h2 st (den_dict.mpr ⟨l, raw, od, rfl, upd_same, h4.stab st⟩), hf, q.move (Far.refl _ _) st fun _ z => z⟩
  · cases hf
theorem js_of (h : JSs X C H0 W [st] f) (hx : ∀ (D : Ends) (pins : List (Addr × Obj)) (s : Shared), wpAny (model X.prog X.w) X.A (execs [st] X.env) (SP X pins D) X.xe s → wpAny (model X.prog X.w) X.A (exec st X.env) (SP X pins D) X.xe s) : JS X C H0 W st f := by
  constructor
  intro pn s σ H D I w
  exact hx D pn s (h.run pn s σ H D I w)
theorem js_lock (i : Nat) (h : JS X C H0 W st f) : JS X C H0 W st (sLock i f) := by
  constructor
  intro pn s σ H D I ⟨e, o, R, hf, q⟩
  unfold sLock at hf
  split at hf
  · rename_i xs hx
    obtain ⟨l, vs, h1, h2, h3, h4⟩ := R.ownAt hx
    obtain ⟨od, I2⟩ := I.lock h3 trivial
    have st := Stab.upd (o := .frz od (.lst vs)) h3
    refine h.run pn s σ _ D I2 ⟨_, o, R.chg (c' := .d (.list xs)) hx rfl h1 h2 st (den_lstF upd_same (h4.stab st)), hf, q.move (Far.refl _ _) st fun _ z => z⟩
  · rename_i ks hx
    obtain ⟨l, raw, h1, h2, h3, h4⟩ := R.owdAt hx
    obtain ⟨od, I2⟩ := I.lock h3 trivial
    have st := Stab.updX (o := .frz od (dicH (gd X C) l raw)) h3
    refine h.run pn s σ _ D I2 ⟨_, o, R.chg (c' := .d (.dict ks)) hx rfl h1 h2 st (den_dict.mpr ⟨l, raw, od, rfl, upd_same, h4.stab st⟩), hf, q.move (Far.refl _ _) st fun _ z => z⟩
  · cases hf
theorem jss_drop (w : List Nat) (h : JSs X C H0 W sts f) : JSs X C H0 W sts (sDrop w f) := PSs.weak h fun D σ H ⟨e, o, R, hf, q⟩ => ⟨_, o, R.forget w, hf, q⟩
/-- a list of the frame stands as one of the caller's while st runs -/
theorem js_lend (i : Nat) (h : ∀ H1 : Hp, JS X C H1 W st f) (hi : i ∉ W := by decide) : JS X C H0 (i :: W) st (sLend i f) := by
  constructor
  intro pn s σ H D I ⟨e, o, R, hf, q⟩
  unfold sLend at hf
  split at hf
  · rename_i xs hx
    obtain ⟨l, vs, h1, h2, h3, h4⟩ := R.ownAt hx
    have s01 : Same H0 (upd H0 l (.lst vs)) := FS.Same.upd h2
    have R1 : Rel (gd X C) (upd H0 l (.lst vs)) (putS e i (.bor xs)) σ H := by
      refine ⟨fun b u k => ?_, by unfold putS; rw [List.length_set]; exact R.len, fun j c k => ?_, fun j k b d v hjk g1 g2 o1 o2 => ?_⟩
      · by_cases hb : b = l
        · subst hb; rw [upd_same] at k; cases k; exact h3
        · rw [upd_ne hb] at k; exact R.same b u k
      · rcases set_at k with ⟨z, y⟩ | ⟨z, k⟩
        · cases y
          subst z
          exact ⟨_, h1, l, vs, rfl, SqL.of upd_same, h4⟩
        · obtain ⟨v, g1, g2⟩ := R.slot j c k
          refine ⟨v, g1, ?_⟩
          cases c with
          | own ys =>
            obtain ⟨l', ws, e1, n1, k1, d1⟩ := g2
            refine ⟨l', ws, e1, ?_, k1, d1⟩
            rw [upd_ne (fun z1 => by subst z1; subst e1; exact R.apart j i _ _ _ z k (getS_of hx) rfl rfl g1 h1)]
            exact n1
          | owd ys =>
            obtain ⟨l', ws, e1, n1, k1, d1⟩ := g2
            refine ⟨l', ws, e1, ?_, k1, d1⟩
            rw [upd_ne (fun z1 => by subst z1; subst e1; exact R.apart j i _ _ _ z k (getS_of hx) rfl rfl g1 h1)]
            exact n1
          | bor ys => obtain ⟨l', ws, e1, k1, d1⟩ := g2; exact ⟨l', ws, e1, s01.seq k1, d1⟩
          | bod ys => obtain ⟨l', ws, e1, k1, d1⟩ := g2; exact ⟨l', ws, e1, Rd.stay s01 k1, d1⟩
          | d x => exact g2
          | obj fs => exact g2
      · have b1 : e[j]? = some (some b) := by
          rcases set_at g1 with ⟨_, y⟩ | ⟨_, g1⟩
          · cases y; cases o1
          · exact g1
        have b2 : e[k]? = some (some d) := by
          rcases set_at g2 with ⟨_, y⟩ | ⟨_, g2⟩
          · cases y; cases o2
          · exact g2
        exact R.apart j k b d v hjk b1 b2 o1 o2
    split at hf
    · rename_i e' he
      cases hf
      refine (h (upd H0 l (.lst vs))).run pn s σ H D I ⟨_, .nx e', R1, he, fun σ' H' R' fr st => ?_⟩
      have k1 : H' l = some (.lst vs) := R'.same _ _ upd_same
      have hσ : σ'[i]? = some (some (.ref l)) := (fr i hi).trans h1
      have kept : ∀ {j : Nat} {c : AV}, (dropB e')[j]? = some (some c) → e'[j]? = some (some c) ∧ (∀ ys, c ≠ .bor ys) ∧ ∀ ys, c ≠ .bod ys := fun {j c} k => by
        unfold dropB at k
        rw [List.getElem?_map] at k
        cases hc : e'[j]? with
        | none => rw [hc] at k; cases k
        | some u =>
          rw [hc] at k
          cases u with
          | none => cases k
          | some b =>
            cases b with
            | bor ys => cases k
            | bod ys => cases k
            | d x => cases k; exact ⟨rfl, (fun ys z => nomatch z), (fun ys z => nomatch z)⟩
            | own x => cases k; exact ⟨rfl, (fun ys z => nomatch z), (fun ys z => nomatch z)⟩
            | owd x => cases k; exact ⟨rfl, (fun ys z => nomatch z), (fun ys z => nomatch z)⟩
            | obj x => cases k; exact ⟨rfl, (fun ys z => nomatch z), (fun ys z => nomatch z)⟩
      have away : ∀ {j : Nat} {c : AV}, e'[j]? = some (some c) → isOwn c = true → σ'[j]? ≠ some (some (.ref l)) := fun {j c} k ho u => by
        obtain ⟨v, g1, g2⟩ := R'.slot j c k
        rw [u] at g1
        cases g1
        cases c with
        | own ys => obtain ⟨l', ws, e1, n1, k1, d1⟩ := g2; cases e1; rw [upd_same] at n1; cases n1
        | owd ys => obtain ⟨l', ws, e1, n1, k1, d1⟩ := g2; cases e1; rw [upd_same] at n1; cases n1
        | d x => cases ho
        | bor ys => cases ho
        | bod ys => cases ho
        | obj fs => cases ho
      refine q σ' H' ⟨s01.trans R'.same, by unfold putS dropB; rw [List.length_set, List.length_map]; exact R'.len, fun j c k => ?_, fun j k b d v hjk g1 g2 o1 o2 u1 u2 => ?_⟩ (fr.mono fun j z => List.mem_cons_of_mem _ z) st
      · rcases set_at k with ⟨z, y⟩ | ⟨z, k⟩
        · cases y
          subst z
          exact ⟨_, hσ, l, vs, rfl, h2, k1, h4.stab st⟩
        · obtain ⟨k', nb, nd⟩ := kept k
          obtain ⟨v, g1, g2⟩ := R'.slot j c k'
          refine ⟨v, g1, ?_⟩
          cases c with
          | own ys => obtain ⟨l', ws, e1, n1, k1, d1⟩ := g2; exact ⟨l', ws, e1, s01.free n1, k1, d1⟩
          | owd ys => obtain ⟨l', ws, e1, n1, k1, d1⟩ := g2; exact ⟨l', ws, e1, s01.free n1, k1, d1⟩
          | bor ys => exact absurd rfl (nb ys)
          | bod ys => exact absurd rfl (nd ys)
          | d x => exact g2
          | obj fs => exact g2
      · rcases set_at g1 with ⟨z1, y1⟩ | ⟨z1, g1⟩
        · rcases set_at g2 with ⟨z2, y2⟩ | ⟨z2, g2⟩
          · exact hjk (z1.trans z2.symm)
          · rw [z1, hσ] at u1
            cases u1
            exact away (kept g2).1 o2 u2
        · rcases set_at g2 with ⟨z2, y2⟩ | ⟨z2, g2⟩
          · rw [z2, hσ] at u2
            cases u2
            exact away (kept g1).1 o1 u1
          · exact R'.apart j k b d v hjk (kept g1).1 (kept g2).1 o1 o2 u1 u2
    · rename_i r he
      obtain ⟨z, hz, e2⟩ := Option.map_eq_some_iff.mp hf
      subst e2
      have hz' : r = z ∧ isRet r = true := by
        cases r with
        | d x => cases hz; exact ⟨rfl, rfl⟩
        | new xs => cases hz; exact ⟨rfl, rfl⟩
        | newd ks => cases hz; exact ⟨rfl, rfl⟩
        | cur xs => cases hz
        | brw xs => cases hz
        | curd ks => cases hz
        | brwd ks => cases hz
        | obj fs => cases hz
      obtain ⟨e3, hr⟩ := hz'
      subst e3
      exact (h (upd H0 l (.lst vs))).run pn s σ H D I ⟨_, .rt r, R1, he, fun v H' s' r' => q v H' (s01.trans s') ((isRet_move hr r').back s01)⟩
    · cases hf
  · cases hf

/-! ### targets -/
def tJG (G : Gd) (H0 : Hp) (W : List Nat) (t : TF) : TG := fun v σ H Q => ∃ e d e', Rel G H0 e σ H ∧ Den G H d v ∧ t d e = some e' ∧ ∀ σ', Rel G H0 e' σ' H → Far W σ σ' → σ'.length = σ.length → Q σ' H
def tJGs (G : Gd) (H0 : Hp) (W : List Nat) (ts : List TF) : TGs := fun vs σ H Q => ∃ e ds e', Rel G H0 e σ H ∧ Dens G H ds vs ∧ tAll ts ds e = some e' ∧ ∀ σ', Rel G H0 e' σ' H → Far W σ σ' → σ'.length = σ.length → Q σ' H
abbrev JG (X : Cx) (C : Addr) (H0 : Hp) (W : List Nat) (tg : Expr) (t : TF) : Prop := PG X tg (tJG (gd X C) H0 W t)
abbrev JGs (X : Cx) (C : Addr) (H0 : Hp) (W : List Nat) (tg : List Expr) (ts : List TF) : Prop := PGs X tg (tJGs (gd X C) H0 W ts)
theorem PG.weak {tg : Expr} {t t' : TG} (h : PG X tg t) (k : ∀ v σ H Q, t' v σ H Q → t v σ H Q) : PG X tg t' := ⟨fun pn s σ H v u Q I r q => h.run pn s σ H v u Q I r (k v σ H Q q)⟩
theorem PGs.weak {tg : List Expr} {t t' : TGs} (h : PGs X tg t) (k : ∀ v σ H Q, t' v σ H Q → t v σ H Q) : PGs X tg t' := ⟨fun pn s σ H v u Q I r q => h.run pn s σ H v u Q I r (k v σ H Q q)⟩
theorem jg_name {tg : Expr} (h : PG X tg (gName i)) : JG X C H0 [i] tg (tName i) := PG.weak h fun v σ H Q ⟨e, d, e', R, dv, ht, q⟩ => by
  cases ht
  exact q _ (R.putA (r := .d d) (Same.refl H) dv rfl i) (Far.put (List.mem_singleton.mpr rfl)) (List.length_set ..)
theorem jgs_nil : JGs X C H0 [] [] [] := PGs.weak pgs_nil fun v σ H Q ⟨e, ds, e', R, dv, ht, q⟩ => by
  cases ds with
  | nil => cases ht; exact ⟨dens_nil.mp dv, q σ R (Far.refl _ _) rfl⟩
  | cons d ds => cases ht
theorem jgs_cons {tg : Expr} {tgs : List Expr} {t : TF} {ts : List TF} (h1 : JG X C H0 W1 tg t) (h2 : JGs X C H0 W2 tgs ts) (hs : (assignEach (tg :: tgs) X.env).map (·.2) = assign tg X.env :: (assignEach tgs X.env).map (·.2) := by rfl) : JGs X C H0 (W1 ++ W2) (tg :: tgs) (t :: ts) :=
  PGs.weak (pgs_cons h1 h2 hs) fun v σ H Q ⟨e, ds, e', R, dv, ht, q⟩ => by
    cases ds with
    | nil => cases ht
    | cons d ds =>
      unfold tAll at ht
      split at ht
      · rename_i e1 he1
        obtain ⟨u, r, e2, d1, d2⟩ := dens_cons.mp dv
        exact ⟨u, r, e2, e, d, e1, R, d1, he1, fun σ1 R1 f1 l1 => ⟨e1, ds, e', R1, d2, ht, fun σ2 R2 f2 l2 => q σ2 R2 (f1.trans f2) (l2.trans l1)⟩⟩
      · cases ht
theorem tAll_len : ∀ {ts : List TF} {ds : List D} {e e' : Env}, tAll ts ds e = some e' → ds.length = ts.length
  | [], [], _, _, _ => rfl
  | [], _ :: _, _, _, h => by cases h
  | _ :: _, [], _, _, h => by cases h
  | t :: ts, d :: ds, e, e', h => by
    unfold tAll at h
    split at h
    · rw [List.length_cons, List.length_cons, tAll_len h]
    · cases h
theorem jg_tup {es : List Expr} {k : Nat} {ts : List TF} (hc : X.calm = true) (h : JGs X C H0 W es ts) (hn : (assignEach es X.env).length = ts.length := by rfl) (hst : (assignEach es X.env).findIdx? (·.1) = none := by rfl) : JG X C H0 W (.Tuple es k pos) (tTup ts) :=
  PG.weak (pg_tup hc h hn hst) fun v σ H Q ⟨e, d, e', R, dv, ht, q⟩ => by
    unfold tTup at ht
    split at ht
    · rename_i xs
      obtain ⟨l, vs, e1, k1, d1⟩ := den_tup.mp dv
      exact ⟨l, vs, e1, k1, by rw [d1.len]; exact tAll_len ht, e, xs, e', R, d1, ht, q⟩
    · cases ht

/-! ### what is walked -/
/-- the iterator goes through the items, as long as what is fixed stays -/
def WalkOk (G : Gd) (H0 : Hp) (J : It) (xs : List D) (H1 : Hp) : Prop := ∀ H2, Stab H1 H2 → Same H0 H2 →
  (∀ (i : Nat) (x : D), xs[i]? = some x → J.go i H2 ∧ ∀ v H3, J.yld i H2 v H3 → Same H2 H3 ∧ Den G H3 x v) ∧ J.stop xs.length H2
/-- .. as long as nothing that is tracked changes -/
def WalkC (G : Gd) (J : It) (xs : List D) (H1 : Hp) : Prop := ∀ H2, Same H1 H2 →
  (∀ (i : Nat) (x : D), xs[i]? = some x → J.go i H2 ∧ ∀ v H3, J.yld i H2 v H3 → Same H2 H3 ∧ Den G H3 x v) ∧ J.stop xs.length H2
def tJI (G : Gd) (H0 : Hp) (z : ZF) : TI := fun σ H R => ∃ e xs, Rel G H0 e σ H ∧ z e = some xs ∧ ∀ J H1, Same H H1 → WalkOk G H0 J xs H1 → R J H1
def tJC (G : Gd) (H0 : Hp) (z : ZF) : TI := fun σ H R => ∃ e xs, Rel G H0 e σ H ∧ z e = some xs ∧ ∀ J H1, Same H H1 → WalkC G J xs H1 → R J H1
abbrev JI (X : Cx) (C : Addr) (H0 : Hp) (tg it : Expr) (z : ZF) : Prop := PI X tg it (tJI (gd X C) H0 z)
abbrev JC (X : Cx) (C : Addr) (H0 : Hp) (tg it : Expr) (z : ZF) : Prop := PI X tg it (tJC (gd X C) H0 z)
theorem PI.weak {tg it : Expr} {t t' : TI} (h : PI X tg it t) (k : ∀ σ H R, t' σ H R → t σ H R) : PI X tg it t' := ⟨fun pn s σ H R I q => h.run pn s σ H R I (k σ H R q)⟩
theorem jc_of {tg it : Expr} {z : ZF} (h : JI X C H0 tg it z) : JC X C H0 tg it z := PI.weak h fun σ H Rr ⟨e, xs, R, hz, q⟩ =>
  ⟨e, xs, R, hz, fun J H1 s w => q J H1 s fun H2 s2 => w H2 (FS.Same.stab s2) ((R.same.trans s).trans s2)⟩

/-! ### for -/
theorem js_for {tg it : Expr} {body : List Stmt} {z : ZF} {t : TF} (w : List Nat) (hp : PassesOwn (model X.prog X.w) X.A X.env X.xe) (hc : X.calm = true) (hi : JI X C H0 tg it z) (hg : JG X C H0 W1 tg t) (hb : JSs X C H0 W2 body f)
    (hs : ∀ x, foldedSetIterable it X.env x = pure x := by intro _; rfl) : JS X C H0 (W1 ++ W2) (.For tg it body [] pos) (sFor w z t f) := PS.weak (ps_for hp hc hi hg hb hs) fun D σ H ⟨e, o, R, h, q⟩ => by
  unfold sFor at h
  split at h
  · rename_i xs hx
    refine ⟨e, xs, R, hx, fun J H1 s1 wk => ?_⟩
    refine ⟨fun i m σ' H' => ∃ e', m = xs.length - i ∧ i ≤ xs.length ∧ Rel (gd X C) H0 e' σ' H' ∧ loopF w t f (xs.drop i) e' = some o ∧ Far (W1 ++ W2) σ σ' ∧ Stab H1 H', ⟨xs.length, forget w e, by simp, Nat.zero_le _, (R.go s1).forget w, h, Far.refl _ _, Stab.refl _⟩, ?_⟩
    rintro i m σ' H' ⟨e', rfl, hi, R', hl, fr, st⟩
    obtain ⟨w1, w2⟩ := wk H' st R'.same
    have stab0 := (FS.Same.stab s1).trans st
    by_cases hlt : i < xs.length
    · have hx : xs[i]? = some xs[i] := List.getElem?_eq_getElem hlt
      obtain ⟨g1, g2⟩ := w1 i _ hx
      rw [List.drop_eq_getElem_cons hlt] at hl
      unfold loopF at hl
      split at hl
      · rename_i e1 he1
        refine .inr ⟨g1, fun σ3 H3 => ∃ e3, Rel (gd X C) H0 e3 σ3 H3 ∧ loopF w t f (xs.drop (i + 1)) e3 = some o ∧ Far (W1 ++ W2) σ σ3 ∧ Stab H1 H3, fun σ3 H3 ⟨e3, R3, l3, f3, s3⟩ => ⟨xs.length - (i + 1), by omega, e3, rfl, hlt, R3, l3, f3, s3⟩, fun v H3 hy => ?_⟩
        obtain ⟨s3, dv⟩ := g2 v H3 hy
        refine ⟨e', xs[i], e1, R'.go s3, dv, he1, fun σ2 R2 f2 l2 => ?_⟩
        have st3 := st.trans (FS.Same.stab s3)
        have fr2 : Far (W1 ++ W2) σ σ2 := fr.join (f2.mono fun j z => List.mem_append_left _ z)
        have fin : ∀ (e4 : Env) (σ4 : L2.St) (H4 : Hp), Rel (gd X C) H0 e4 σ4 H4 → Far W2 σ2 σ4 → Stab H3 H4 → Far (W1 ++ W2) σ σ4 ∧ Stab H1 H4 := fun e4 σ4 H4 R4 f4 s4 =>
          ⟨fr2.join (f4.mono fun j z => List.mem_append_right _ z), st3.trans s4⟩
        split at hl
        · rename_i e2 he2
          refine ⟨e1, .nx e2, R2, he2, fun σ4 H4 R4 f4 s4 => ?_⟩
          obtain ⟨z1, z2⟩ := fin e2 σ4 H4 R4 f4 s4
          exact ⟨_, R4.forget w, hl, z1, z2⟩
        · rename_i e2 he2
          refine ⟨e1, .ct e2, R2, he2, fun σ4 H4 R4 f4 s4 => ?_⟩
          obtain ⟨z1, z2⟩ := fin e2 σ4 H4 R4 f4 s4
          exact ⟨_, R4.forget w, hl, z1, z2⟩
        · rename_i e2 he2
          cases hl
          refine ⟨e1, .bk e2, R2, he2, fun σ4 H4 R4 f4 s4 => ?_⟩
          obtain ⟨z1, z2⟩ := fin e2 σ4 H4 R4 f4 s4
          exact q σ4 H4 R4 z1 ((FS.Same.stab s1).trans z2)
        · rename_i r he2
          cases hl
          exact ⟨e1, .rt r, R2, he2, q⟩
        · cases hl
      · cases hl
    · have hi' : i = xs.length := by omega
      subst hi'
      rw [List.drop_length] at hl
      cases hl
      exact .inl ⟨w2, q σ' H' R' fr stab0⟩
  · cases h

/-! ### while -/
theorem js_while {c : Expr} {body : List Stmt} {bc : BF} (w : List Nat) (hp : PassesOwn (model X.prog X.w) X.A X.env X.xe) (hc : JT X C H0 c bc) (hb : JSs X C H0 W body f) : JS X C H0 W (.While c body [] pos) (sWhile w bc f) := PS.weak (ps_while hp hc hb) fun D σ H ⟨e, o, R, h, q⟩ => by
  obtain ⟨n, hn⟩ := of_loopW h
  refine ⟨fun m σ' H' => ∃ e', Rel (gd X C) H0 e' σ' H' ∧ whileN w bc f m e' = some o ∧ Far W σ σ' ∧ Stab H H', ⟨n, forget w e, R.forget w, hn, Far.refl _ _, Stab.refl _⟩, ?_⟩
  rintro m σ' H' ⟨e', R', hw, fr, st⟩
  cases m with
  | zero => cases hw
  | succ m =>
    unfold whileN at hw
    split at hw
    · rename_i hb1
      refine ⟨e', true, R', hb1, fun H1 s1 => iteT ⟨fun σ3 H3 => ∃ e3, Rel (gd X C) H0 e3 σ3 H3 ∧ whileN w bc f m e3 = some o ∧ Far W σ σ3 ∧ Stab H H3, fun σ3 H3 ⟨e3, z⟩ => ⟨m, Nat.lt_succ_self _, e3, z⟩, ?_⟩⟩
      have st1 := st.trans (FS.Same.stab s1)
      split at hw
      · rename_i e2 he2
        exact ⟨e', .nx e2, R'.go s1, he2, fun σ4 H4 R4 f4 s4 => ⟨_, R4.forget w, hw, fr.join f4, st1.trans s4⟩⟩
      · rename_i e2 he2
        exact ⟨e', .ct e2, R'.go s1, he2, fun σ4 H4 R4 f4 s4 => ⟨_, R4.forget w, hw, fr.join f4, st1.trans s4⟩⟩
      · rename_i e2 he2
        cases hw
        exact ⟨e', .bk e2, R'.go s1, he2, fun σ4 H4 R4 f4 s4 => q σ4 H4 R4 (fr.join f4) (st1.trans s4)⟩
      · rename_i r he2
        cases hw
        exact ⟨e', .rt r, R'.go s1, he2, q⟩
      · cases hw
    · rename_i hb1
      cases hw
      exact ⟨e', false, R', hb1, fun H1 s1 => iteF (q σ' H1 (R'.go s1) fr (st.trans (FS.Same.stab s1)))⟩
    · cases hw

/-! ### comprehensions -/
abbrev JTs (X : Cx) (C : Addr) (H0 : Hp) (ifs : List Expr) (c : BF) : Prop := PTs X ifs (tJT (gd X C) H0 c)
theorem jts_nil : JTs X C H0 [] bYes := ⟨fun pn s σ H Q I ⟨e, b, R, h, q⟩ => by
  cases h
  exact pts_nil.run pn s σ H Q I (q H (Same.refl H))⟩
theorem jts_one {c : Expr} (h : JT X C H0 c ga) : JTs X C H0 [c] ga := pts_one h
theorem wipe_far {σ σ2 : L2.St} {vs W : List Nat} (fr : Far W (wipe σ vs) σ2) (hl : σ2.length = (wipe σ vs).length) (hW : ∀ j : Nat, j ∈ W → j ∈ vs) : wipe σ2 vs = wipe σ vs := by
  have inn : ∀ (vs : List Nat) (σ : L2.St) (j : Nat), j ∈ vs → j < σ.length → (wipe σ vs)[j]? = some none := by
    intro vs
    induction vs with
    | nil => intro σ j h; cases h
    | cons v r ih =>
      intro σ j h hj
      show ((wipe σ r).set v none)[j]? = _
      by_cases hv : v = j
      · subst hv; rw [List.getElem?_set_self (by rw [wipe_length]; exact hj)]
      · rw [List.getElem?_set_ne hv]
        rcases List.mem_cons.mp h with z | z
        · exact absurd z.symm hv
        · exact ih σ j z hj
  have out : ∀ (vs : List Nat) (σ : L2.St) (j : Nat), j ∉ vs → (wipe σ vs)[j]? = σ[j]? := by
    intro vs
    induction vs with
    | nil => intro σ j _; rfl
    | cons v r ih =>
      intro σ j h
      simp only [List.mem_cons, not_or] at h
      show ((wipe σ r).set v none)[j]? = _
      rw [List.getElem?_set_ne fun z => h.1 z.symm]
      exact ih σ j h.2
  rw [wipe_length] at hl
  apply List.ext_getElem?
  intro j
  by_cases hj : j ∈ vs
  · by_cases hlt : j < σ.length
    · rw [inn vs σ2 j hj (by rw [hl]; exact hlt), inn vs σ j hj hlt]
    · rw [List.getElem?_eq_none (by rw [wipe_length]; omega), List.getElem?_eq_none (by rw [wipe_length]; omega)]
  · rw [out vs σ2 j hj]
    exact fr j fun z => hj (hW j z)
theorem lcGo_len {t : TF} {c : BF} {h : EF} {e : Env} : ∀ {xs ys : List D}, lcGo t c h e xs = some ys → ys.length ≤ xs.length
  | [], ys, q => by cases q; exact Nat.le_refl _
  | x :: xs, ys, q => by
    unfold lcGo at q
    split at q
    · split at q
      · split at q
        · split at q
          · split at q
            · rename_i zs hz
              cases q
              exact Nat.succ_le_succ (lcGo_len hz)
            · cases q
          · cases q
        · cases q
      · exact Nat.le_succ_of_le (lcGo_len q)
      · cases q
    · cases q
theorem lc_run {own : List (Str × Nat)} {z : ZF} {t : TF} {c : BF} {h : EF} (hW : ∀ j : Nat, j ∈ W → j ∈ own.map (·.2)) {σ : L2.St} {H : Hp} {Q : VK} (w : tJ (gd X C) H0 (eLc (own.map (·.2)) z t c h) σ H Q) :
    tLc (tJC (gd X C) H0 z) (tJG (gd X C) H0 W t) (tJT (gd X C) H0 c) (tJ (gd X C) H0 (eFrz h)) (own.map (·.2)) σ H Q := by
    obtain ⟨e, r, R, q0, q⟩ := w
    unfold eLc at q0
    split at q0
    · rename_i xs hx
      split at q0
      · rename_i hlen
        split at q0
        · rename_i ys hys
          cases q0
          refine ⟨e, xs, R, hx, fun J H1 s1 wk L nL => ?_⟩
          refine ⟨fun i m H' => m = xs.length - i ∧ i ≤ xs.length ∧ Same H1 H' ∧ ∃ acc as rest, H' L = some (.lst acc) ∧ Dens (gd X C) H' as acc ∧ acc.length ≤ i ∧ lcGo t c h (forget (own.map (·.2)) e) (xs.drop i) = some rest ∧ ys = as ++ rest,
            ⟨xs.length, by simp, Nat.zero_le _, FS.Same.upd nL, [], [], ys, upd_same, dens_nil.mpr rfl, Nat.zero_le _, hys, rfl⟩, ?_⟩
          rintro i m H' ⟨rfl, hi, sm, acc, as, rest, hL, dA, hacc, hgo, hcat⟩
          obtain ⟨w1, w2⟩ := wk H' sm
          by_cases hlt : i < xs.length
          · have hx : xs[i]? = some xs[i] := List.getElem?_eq_getElem hlt
            obtain ⟨g1, g2⟩ := w1 i _ hx
            rw [List.drop_eq_getElem_cons hlt] at hgo
            unfold lcGo at hgo
            split at hgo
            · rename_i e1 he1
              refine .inr ⟨g1, fun H3 => Same H1 H3 ∧ ∃ acc as rest, H3 L = some (.lst acc) ∧ Dens (gd X C) H3 as acc ∧ acc.length ≤ i + 1 ∧ lcGo t c h (forget (own.map (·.2)) e) (xs.drop (i + 1)) = some rest ∧ ys = as ++ rest,
                fun H3 ⟨a1, a2⟩ => ⟨xs.length - (i + 1), by omega, rfl, hlt, a1, a2⟩, fun v H3 hy => ?_⟩
              obtain ⟨s3, dv⟩ := g2 v H3 hy
              have s13 := sm.trans s3
              refine ⟨_, xs[i], e1, ((R.go s1).wipe (own.map (·.2))).go s13, dv, he1, fun σ2 R2 f2 l2 => ⟨wipe_far f2 l2 hW, ?_⟩⟩
              split at hgo
              · rename_i hb
                refine ⟨e1, true, R2, hb, fun H4 s4 => ?_⟩
                refine iteT ?_
                split at hgo
                · rename_i r1 hr1
                  split at hgo
                  · rename_i y hy1
                    split at hgo
                    · rename_i rs hrs
                      cases hgo
                      refine ⟨e1, .d y, R2.go s4, by unfold eFrz; rw [hr1]; show r1.frz.map RV.d = _; rw [hy1]; rfl, fun u H5 s5 r5 => ?_⟩
                      have k5 := s5 _ _ (s4 _ _ (s3 _ _ hL))
                      have s15 := (s13.trans s4).trans s5
                      refine ⟨acc, k5, lim_lt (by omega), FS.Same.put s15 nL, acc ++ [u], as ++ [y], rs, upd_same, ?_, by rw [List.length_append, List.length_singleton]; omega, hrs, by rw [hcat]; simp⟩
                      have st := Stab.upd (o := .lst (acc ++ [u])) k5
                      exact ((dA.stab (FS.Same.stab ((s3.trans s4).trans s5))).app (Dens.one r5)).stab st
                    · cases hgo
                  · cases hgo
                · cases hgo
              · rename_i hb
                refine ⟨e1, false, R2, hb, fun H4 s4 => ?_⟩
                refine iteF ?_
                exact ⟨s13.trans s4, acc, as, rest, s4 _ _ (s3 _ _ hL), dA.stab (FS.Same.stab (s3.trans s4)), by omega, hgo, hcat⟩
              · cases hgo
            · cases hgo
          · have hi' : i = xs.length := by omega
            subst hi'
            rw [List.drop_length] at hgo
            cases hgo
            refine .inl ⟨w2, q _ H' (s1.trans sm) ⟨L, acc, rfl, s1.free nL, hL, ?_⟩⟩
            rw [hcat, List.append_nil]
            exact dA
        · cases q0
      · cases q0
    · cases q0
theorem je_lc {elt tg it : Expr} {ifs : List Expr} {scope : Scope} {own : List (Str × Nat)} {z : ZF} {t : TF} {c : BF} {h : EF} (hc : X.calm = true) (hN : X.N.Nodup) (hi : JC X C H0 tg it z) (ok : BlkOk X.N X.env.scope scope own)
    (hg : ∀ (s : Shared) (H : Hp) (B : Addr) (cl : List (Str × Addr)) (fp : List Addr), JG (X.blk s H scope (compEnvC scope cl B X.env) fp) C H0 W tg t) (ht : ∀ (s : Shared) (H : Hp) (B : Addr) (cl : List (Str × Addr)) (fp : List Addr), JTs (X.blk s H scope (compEnvC scope cl B X.env) fp) C H0 ifs c)
    (he : ∀ (s : Shared) (H : Hp) (B : Addr) (cl : List (Str × Addr)) (fp : List Addr), JE (X.blk s H scope (compEnvC scope cl B X.env) fp) C H0 elt h) (hW : ∀ j : Nat, j ∈ W → j ∈ own.map (·.2) := by decide) (hs : ∀ x, foldedSetIterable it X.env x = pure x := by intro _; rfl) :
    JE X C H0 (.ListComp elt [⟨tg, it, ifs, 0⟩] scope pos) (eLc (own.map (·.2)) z t c h) :=
  PE.weak (pe_lc (wi := tJC (gd X C) H0 z) (g := tJG (gd X C) H0 W t) (tt := tJT (gd X C) H0 c) (te := tJ (gd X C) H0 (eFrz h)) hc hN hi ok hg ht (fun s H B cl fp => je_frz (he s H B cl fp)) hs) fun _ _ _ q => lc_run hW q
/-- x = [..], x a plain local -/
theorem js_setLc {y : Str} {py : Pos} {spos : Pos} {elt tg it : Expr} {ifs : List Expr} {scope : Scope} {own : List (Str × Nat)} {z : ZF} {t : TF} {c : BF} {h : EF} (hc : X.calm = true) (hN : X.N.Nodup) (hy : X.N[i]? = some y) (hyl : X.env.scope.names.lookup y = some .local)
    (hsw : swapsWith (.ListComp elt [⟨tg, it, ifs, 0⟩] scope pos) (some (.Name y py)) spos.line X.env = pure true) (hi : JC X C H0 tg it z) (ok : BlkOk X.N X.env.scope scope own)
    (hg : ∀ (s : Shared) (H : Hp) (B : Addr) (cl : List (Str × Addr)) (fp : List Addr), JG (X.blk s H scope (compEnvC scope cl B X.env) fp) C H0 W tg t) (ht : ∀ (s : Shared) (H : Hp) (B : Addr) (cl : List (Str × Addr)) (fp : List Addr), JTs (X.blk s H scope (compEnvC scope cl B X.env) fp) C H0 ifs c)
    (he : ∀ (s : Shared) (H : Hp) (B : Addr) (cl : List (Str × Addr)) (fp : List Addr), JE (X.blk s H scope (compEnvC scope cl B X.env) fp) C H0 elt h) (hW : ∀ j : Nat, j ∈ W → j ∈ own.map (·.2) := by decide) (hs : ∀ x, foldedSetIterable it X.env x = pure x := by intro _; rfl) :
    JS X C H0 [i] (.Assign [.Name y py] (.ListComp elt [⟨tg, it, ifs, 0⟩] scope pos) spos) (sSet i (eLc (own.map (·.2)) z t c h)) :=
  js_set (PS.weak (ps_setLc (wi := tJC (gd X C) H0 z) (g := tJG (gd X C) H0 W t) (tt := tJT (gd X C) H0 c) (te := tJ (gd X C) H0 (eFrz h)) hc hN hy hyl hsw hi ok hg ht (fun s H B cl fp => je_frz (he s H B cl fp)) hs) fun _ _ _ q => lc_run hW q)
end

/-! ### a def -/
theorem rel_start {G : Gd} {H : Hp} {N : List Str} : ∀ {as : List AV} {vs : List V}, ArgsOk G H as vs → Rel G H (as.map some ++ List.replicate (N.length - as.length) none) (L2.start N vs) H := by
  intro as vs h
  have key : ∀ {as : List AV} {vs : List V}, ArgsOk G H as vs → as.length = vs.length ∧ ∀ (i : Nat) (a : AV), as[i]? = some a → ∃ v, vs[i]? = some v ∧ SlotOk G H H a v ∧ isOwn a = false := by
    intro as
    induction as with
    | nil => intro vs h; rw [show vs = [] from h]; exact ⟨rfl, fun i a k => by simp at k⟩
    | cons b bs ih =>
      intro vs ⟨v, ws, e, h1, h2⟩
      subst e
      obtain ⟨l1, l2⟩ := ih h2
      refine ⟨by rw [List.length_cons, List.length_cons, l1], fun i a k => ?_⟩
      cases i with
      | zero => have : b = a := by simpa using k
                subst this
                exact ⟨v, rfl, h1⟩
      | succ i => obtain ⟨u, k1, k2⟩ := l2 i a (by simpa using k); exact ⟨u, by simpa using k1, k2⟩
  obtain ⟨l1, l2⟩ := key h
  have get : ∀ (i : Nat) (a : AV), (as.map some ++ List.replicate (N.length - as.length) none)[i]? = some (some a) → as[i]? = some a := fun i a k => by
    by_cases hi : i < as.length
    · rw [List.getElem?_append_left (by rw [List.length_map]; exact hi), List.getElem?_map] at k
      cases hq : as[i]? with
      | none => rw [hq] at k; cases k
      | some b => rw [hq] at k; cases k; rfl
    · rw [List.getElem?_append_right (by rw [List.length_map]; omega), List.getElem?_replicate] at k
      split at k <;> cases k
  refine ⟨Same.refl H, by unfold L2.start; rw [List.length_append, List.length_append, List.length_map, List.length_map, List.length_replicate, List.length_replicate, l1], fun i a k => ?_, fun i j a b v _ k1 _ o1 _ _ _ => ?_⟩
  · obtain ⟨v, h1, h2, _⟩ := l2 i a (get i a k)
    refine ⟨v, ?_, h2⟩
    have hi : i < vs.length := (List.getElem?_eq_some_iff.mp h1).1
    unfold L2.start
    rw [List.getElem?_append_left (by rw [List.length_map]; exact hi), List.getElem?_map, h1]
    rfl
  · obtain ⟨_, _, _, h3⟩ := l2 i a (get i a k1)
    rw [o1] at h3
    cases h3
theorem argsOk_len {G : Gd} {H : Hp} : ∀ {as : List AV} {vs : List V}, ArgsOk G H as vs → as.length = vs.length
  | [], vs, h => by rw [show vs = [] from h]; rfl
  | a :: as, vs, ⟨v, ws, e, _, h2⟩ => by rw [e, List.length_cons, List.length_cons, argsOk_len h2]
theorem ret_is {r z : RV} (h : r.ret = some z) : r = z ∧ isRet z = true := by
  cases r with
  | d x => cases h; exact ⟨rfl, rfl⟩
  | new xs => cases h; exact ⟨rfl, rfl⟩
  | newd ks => cases h; exact ⟨rfl, rfl⟩
  | cur xs => cases h
  | brw xs => cases h
  | curd ks => cases h
  | brwd ks => cases h
  | obj fs => cases h
theorem ar_run {n k : Nat} {b : SF} : Ar k (runF n k b) := fun as r h => by
  unfold runF at h
  split at h
  · refine ⟨by assumption, ?_⟩
    split at h
    · exact (ret_is h).2
    · cases h; rfl
    · cases h
  · cases h
theorem fn_ok {P : Program} {w : World} {K : PySem.W.Frag} {mg : Str → Option Value} {base : Heap} {x qual : Str} {st : Stmt} {f : Addr} {fd : FuncData} {N ps : List Str} {k : Nat} {C : Addr} {W : List Nat} {b : SF} {m n : Nat} (F : Fun K x qual st f fd) (S : FnScope N ps (defScope st)) (hm : N.length = m) (hn : ps.length = n)
    (hb : ∀ (cdv : Value) (A : Around) (outer : List PySem.Env) (s : Shared) (H : Hp) (E : XK), Room k (A.deeper (envOfC qual (defScope st) s.heap.objs.size f cdv)) → JSs (cxOf CX0 P w K mg base N qual (defScope st) f cdv A outer s H E).nox C H W (defBody st) b) :
    FnOk P w K mg base CX0 (k + 1) f fd ps (spF ⟨P, w, K, C⟩ n (runF m n b)) := by
  refine F.ok S (fun vs H Q E h => by rw [hn]; exact h.1) fun cdv A outer s H vs Q E hr h => ?_
  obtain ⟨hl, as, r, h1, h2, q⟩ := h
  refine ⟨_, hb cdv A outer s H E hr, ?_⟩
  have hle := argsOk_len h1
  have R := rel_start (N := N) h1
  unfold runF at h2
  rw [if_pos (by rw [hle]; exact hl), ← hm] at h2
  split at h2
  · rename_i r' hr'
    obtain ⟨e1, _⟩ := ret_is h2
    subst e1
    exact ⟨_, .rt _, R, hr', fun v H' s' r' => q v H' s' r'⟩
  · rename_i e' he'
    cases h2
    exact ⟨_, .nx e', R, he', fun σ' H' R' _ _ => q _ H' R'.same q_none⟩
  · cases h2
end FS
set_option Elab.async false
set_option linter.all false
set_option maxRecDepth 100000
set_option maxHeartbeats 4000000
set_option autoImplicit false
/-! What loops and comprehensions walk. -/
namespace FS
open PySem L2 PyProof.Rows PySem.Spec

/-! ### enumerate over a tuple -/
section
set_option maxHeartbeats 8000000
theorem meets_enumV {v : Value} {o : Obj} {H : Heap → Prop} (B : Begins v o H) : Meets (Builtin.«enumerate.__new__» ⟨[.type "enumerate", v], []⟩) (fun _ R s => H s.heap ∧
      R (.ok (.ret (.ref (s.heap.push o).objs.size))) { s with heap := (s.heap.push o).push { cls := .type "enumerate", data := .fields #[.none, .bool false, .ref s.heap.objs.size, rawInt 0, .none, .none] } }) :=
  .of_wp fun prog w A R s h => by
    obtain ⟨hp, gs, dr, tk, os⟩ := s
    obtain ⟨h1, h⟩ := h
    have hsub := sub_enumerate
    have q1 : ∀ {A' : Around} {E : Value → Shared → Prop} {Q : Value → Shared → Prop}, Q (.ref hp.objs.size) ⟨hp.push o, gs, dr, tk, os⟩ → wpAny (model prog w) A' (pyIter v) Q E ⟨hp, gs, dr, tk, os⟩ := fun q => B.iter prog w _ _ ⟨hp, gs, dr, tk, os⟩ _ h1 q
    wp_walk using q1
    refine wpAny_stack_any fun st => wpAny_pure ?_
    split
    · rename_i c _ _ _ _ _
      cases (c == Value.type "enumerate")
      · wp_walk using q1
        exact ⟨_, rfl, h⟩
      · wp_walk using q1
        exact ⟨_, rfl, h⟩
    · wp_walk using q1
      exact ⟨_, rfl, h⟩
end
section
variable {prog : Program} {w : World} {A : Around} {E : Value → Shared → Prop} {s : Shared}
theorem call_enumV {v : Value} {o : Obj} {H : Heap → Prop} {Q : Value → Shared → Prop} (B : Begins v o H) (h1 : H s.heap)
    (h : ∀ h', IsEnum h' (s.heap.objs.size + 1) s.heap.objs.size 0 .none → h'.get? s.heap.objs.size = some o → h'.objs.size = s.heap.objs.size + 2 → (∀ b u, s.heap.get? b = some u → h'.get? b = some u) → Q (.ref (s.heap.objs.size + 1)) { s with heap := h' }) :
    wpAny (model prog w) A (call (.type "enumerate") [v]) Q E s := by
  refine callType_new F.called_enumerate (by decide) (F.typeCall_enumerate_1 _) (F.newCall_enumerate_1 _) (fun ob => F.args_object_init_2 ob _) F.entry_enumerate_new (meets_enumV B) ⟨h1, ?_⟩
  have hz : (s.heap.push o).objs.size = s.heap.objs.size + 1 := Heap.size_push ..
  show _ ∧ _
  rw [hz]
  have he : IsEnum ((s.heap.push o).push { cls := .type "enumerate", data := .fields #[.none, .bool false, .ref s.heap.objs.size, rawInt 0, .none, .none] }) (s.heap.objs.size + 1) s.heap.objs.size 0 .none := by
    have hx := Heap.get?_push_size (s.heap.push o) (o := { cls := .type "enumerate", data := .fields #[.none, .bool false, .ref s.heap.objs.size, rawInt 0, .none, .none] }) rfl
    rw [hz] at hx
    exact hx
  exact ⟨⟨_, he, rfl⟩, h _ he (Heap.get?_push_of_some _ (Heap.get?_push_size _ B.free)) (by rw [Heap.size_push, hz]) fun b u x => Heap.get?_push_of_some _ (Heap.get?_push_of_some _ x)⟩
end
/-- the tuple at a, each item in a new pair -/
def IteT (K : PySem.W.Frag) (a : Addr) : It :=
  ⟨fun i H => ∃ (xs : List V) (x : V), SqT K H a xs ∧ xs[i]? = some x, fun i H v H' => ∃ T x, v = .ref T ∧ H T = none ∧ H' = upd H T (.tup [.int (i : Nat), x]) ∧ ∀ xs, SqT K H a xs → xs[i]? = some x, fun i H => ∃ xs : List V, SqT K H a xs ∧ xs.length = i⟩
theorem turn_enumT {P : Program} {w : World} {K : PySem.W.Frag} {elts : List Expr} {kk : Nat} {tpos : Pos} (a e it : Addr) :
    Turn P w K (.Tuple elts kk tpos) (IteT K a) [e, it] e (fun i h => (∃ old, IsEnum h e it ((i : Nat) : Int) old) ∧ h.IsTupleIter it a i ∧ e ≠ it) where
  mem := by simp
  obj := fun i h st b hb => by
    obtain ⟨⟨old, he⟩, ⟨o, ho, hc, hd⟩, _⟩ := st
    rcases List.mem_cons.mp hb with z | z
    · rw [z]; exact ⟨_, he, fun v q => nomatch q⟩
    · rw [List.mem_singleton.mp z]; exact ⟨o, ho, fun v q => by rw [hd] at q; cases q⟩
  keep := fun i h h' st k => by
    obtain ⟨⟨old, he⟩, hi, hne⟩ := st
    exact ⟨⟨old, k e (by simp) _ he⟩, hi.at fun o q => k it (by simp) o q, hne⟩
  item := by
    intro X hP hw hK hc i pn s σ H E I hf st hg
    subst hP hw hK
    obtain ⟨⟨old, he⟩, hit, hne⟩ := st
    obtain ⟨xs, x, hq, hx⟩ := hg
    obtain ⟨its, rv, p, hz⟩ := I.tuple hq
    obtain ⟨u, hu, ru⟩ := rv.get hx
    have hel : e < s.heap.objs.size := Heap.lt_size he
    have hil : it < s.heap.objs.size := by obtain ⟨_, q, _⟩ := hit; exact Heap.lt_size q
    have hai : a ≠ it := fun z => by
      obtain ⟨o, ho, hcl, _⟩ := p
      obtain ⟨o', ho', hcl', _⟩ := hit
      rw [z, ho'] at ho
      cases ho
      rw [hcl] at hcl'
      injection hcl' with z1
      exact absurd z1 (by decide)
    have hae : e ≠ a := fun z => by
      obtain ⟨o, ho, hcl, _⟩ := p
      rw [← z, he] at ho
      cases ho
      injection hcl with z1
      exact absurd z1 (by decide)
    have hlt : i < its.toArray.size := by
      obtain ⟨q, _⟩ := List.getElem?_eq_some_iff.mp hu
      rw [List.size_toArray]
      exact q
    refine wpAny_pyNext_enum_itemD (Draws.tuple (A := X.A.in1) (I.ok.hd hc) it a hai its.toArray) he ⟨hit, p⟩ hlt hne (by simp [hne, hae]) fun x' h' tk hPx ho hit' hT hsz hk => ?_
    have ex : x' = u := by
      have q : its.toArray[i]? = some u := by simpa using hu
      rw [q] at hPx
      exact (Option.some.inj hPx).symm
    subst ex
    refine ⟨_, rfl, wpAny_letOwnedTupleGo_enum (s := { s with heap := h', toks := tk + 1 }) ho fun h'' he' sb => ?_⟩
    have hT2 : h''.get? s.heap.objs.size = some { cls := .type "tuple", data := .seq #[.int i tk, x'] } := (sb.2 _ (Nat.ne_of_gt hel)).trans hT
    have new : ObjOk X.prog X.w (upd H s.heap.objs.size (.tup [.int (i : Nat), x])) h'' s.heap.objs.size (.tup [.int (i : Nat), x]) := ⟨by show 2 ≤ sizeLine; decide, [.int i tk, x'], .cons ⟨_, rfl⟩ (.cons ru .nil), ⟨_, hT2, rfl, _, rfl⟩⟩
    have I1 : L2.Inv X pn σ (upd H s.heap.objs.size (.tup [.int (i : Nat), x])) { s with heap := h'', toks := tk + 1 } :=
      I.turnedNew (ch := [e, it]) (fun b ob hb q => (sb.2 b (fun z => hb (by simp [z]))).trans (hk b ob (fun z => hb (by simp [z])) (fun z => hb (by simp [z])) q)) hf (Nat.le_refl _) new
    refine ⟨.ref s.heap.objs.size, _, I1, rfl, ⟨_, x, rfl, I.hok.fresh (Nat.le_refl _), rfl, fun ys hy => by rw [I.tuple_inj hy hq]; exact hx⟩, ⟨⟨x', ?_⟩, hit'.1.at fun o q => (sb.2 it (Ne.symm hne)).trans q, hne⟩, fun b hb => ?_⟩
    · have e1 : ((i + 1 : Nat) : Int) = (i : Int) + 1 := by omega
      rw [e1]
      exact he'
    · have hb' : b < s.heap.objs.size := by
        rcases List.mem_cons.mp hb with z | z
        · rw [z]; exact hel
        · rw [List.mem_singleton.mp z]; exact hil
      rw [upd_ne (Nat.ne_of_lt hb')]
      exact (hf b hb).1
  done := by
    intro X hP hw hK hc i pn s σ H E I hf st hg
    subst hP hw hK
    obtain ⟨⟨old, he⟩, hit, hne⟩ := st
    obtain ⟨xs, hq, hx⟩ := hg
    obtain ⟨its, rv, p, hz⟩ := I.tuple hq
    obtain ⟨f0, f1, f2, f3, f4, f5⟩ := hf it (by simp)
    have hl := rv.length
    have hai : a ≠ it := fun z => by
      obtain ⟨o, ho, hcl, _⟩ := p
      obtain ⟨o', ho', hcl', _⟩ := hit
      rw [z, ho'] at ho
      cases ho
      rw [hcl] at hcl'
      injection hcl' with z1
      exact absurd z1 (by decide)
    have ei : i = its.toArray.size := by rw [List.size_toArray, ← hl, hx]
    subst ei
    exact wpAny_pyNext_enum_endD (Draws.tuple (A := X.A.in1) (I.ok.hd hc) it a hai its.toArray) he ⟨hit, p⟩ fun h' eb => ⟨rfl, I.turned (t' := s.toks) (fun b o hb q => eb b o hb q) f0 f1 f3 f4 f5⟩
  self := fun A i s Q E st h => by
    obtain ⟨⟨_, he⟩, _⟩ := st
    exact wpAny_pyIter_enum he h

/-! ### how it begins, lists and tuples alike -/
section
variable {X : Cx} {tg : Expr}
def iSqA (K : PySem.W.Frag) (tl : TE) : TI := fun σ H R => tl σ H fun x H1 => ∃ a, x = .ref a ∧ (((∃ xs, SqL K H1 a xs) ∧ R (Itl K a) H1) ∨ ((∃ xs, SqT K H1 a xs) ∧ R (Itt K a) H1))
theorem pi_sqA {l : Expr} {tl : TE} (hl : PE X l tl) : PI X tg l (iSqA X.K tl) := by
  constructor
  intro pn s σ H R I h
  refine thn (hl.run pn s σ H _ I h) fun v s1 ⟨x, H1, I1, r1, q1⟩ => ?_
  obtain ⟨a, e, q1⟩ := q1
  subst e
  cases r1
  have one : ∀ b, b ∈ [s1.heap.objs.size] → FpOk X pn H1 b := fun b hb => by
    rw [List.mem_singleton.mp hb]
    exact I1.fpOk (Nat.le_refl _) (I1.hok.fresh (Nat.le_refl _))
  rcases q1 with ⟨⟨xs, hq⟩, q⟩ | ⟨⟨xs, hq⟩, q⟩
  · obtain ⟨its, rv, p, hz⟩ := I1.list hq
    refine wpAny_pyIter_list p.isList ?_
    exact ⟨s1.heap.objs.size, [s1.heap.objs.size], _, _, H1, rfl, I1.kept (t' := s1.toks) fun b o e => Heap.get?_push_of_some _ e, turn_list a _, ⟨_, Heap.get?_push_size _ rfl, rfl, rfl⟩, one, q⟩
  · obtain ⟨its, rv, p, hz⟩ := I1.tuple hq
    refine wpAny_pyIter_tuple (show s1.heap.IsTuple a its.toArray from p) ?_
    exact ⟨s1.heap.objs.size, [s1.heap.objs.size], _, _, H1, rfl, I1.kept (t' := s1.toks) fun b o e => Heap.get?_push_of_some _ e, turn_tuple a _, ⟨_, Heap.get?_push_size _ rfl, rfl, rfl⟩, one, q⟩
def iEnA (K : PySem.W.Frag) (ta : TA) : TI := fun σ H R => ta σ H fun vs H1 => ∃ a, vs = [.ref a] ∧ (((∃ xs, SqL K H1 a xs) ∧ R (Ite K a) H1) ∨ ((∃ xs, SqT K H1 a xs) ∧ R (IteT K a) H1))
theorem pi_enA {e : Expr} {ta : TA} {p pos tpos : Pos} {elts : List Expr} {kk : Nat} (hg : Gl X "enumerate") (hm : X.mg "enumerate" = none) (ha : PA X [e] ta) (hs : starEach [e] X.env = [(false, eval e X.env)] := by rfl) :
    PI X (.Tuple elts kk tpos) (.Call (.Name "enumerate" p) [e] [] pos) (iEnA X.K ta) := by
  constructor
  intro pn s σ H R I h
  refine Call_ (ld_blt I hg hm boot_enumerate (PyProof.Rows.callWith_type1 (thn (ha.run pos pn s σ H _ I h) fun us s1 ⟨vs, H1, I1, r1, q1⟩ => ?_) hs rfl))
  obtain ⟨a, ex, q1⟩ := q1
  subst ex
  cases r1 with
  | cons r rr =>
    cases rr
    cases r
    have two : ∀ b, b ∈ [s1.heap.objs.size + 1, s1.heap.objs.size] → FpOk X pn H1 b := fun b hb => by
      have hle : s1.heap.objs.size ≤ b := by
        rcases List.mem_cons.mp hb with z | z
        · rw [z]; exact Nat.le_add_right _ _
        · rw [List.mem_singleton.mp z]; exact Nat.le_refl _
      exact I1.fpOk hle (I1.hok.fresh hle)
    rcases q1 with ⟨⟨xs, hq⟩, q⟩ | ⟨⟨xs, hq⟩, q⟩
    · obtain ⟨its, rv, p', hz⟩ := I1.list hq
      refine call_enumV (begins_list a its.toArray) p'.isList fun h' he hit hsz hk => wpAny_pyIter_enum he ?_
      have I2 : L2.Inv X pn σ H1 { s1 with heap := h' } := I1.kept (t' := s1.toks) hk
      exact ⟨s1.heap.objs.size + 1, [s1.heap.objs.size + 1, s1.heap.objs.size], _, _, H1, rfl, I2, turn_enum a (s1.heap.objs.size + 1) s1.heap.objs.size, ⟨⟨.none, he⟩, ⟨_, hit, rfl, rfl⟩, Nat.succ_ne_self _⟩, two, q⟩
    · obtain ⟨its, rv, p', hz⟩ := I1.tuple hq
      refine call_enumV (begins_tuple a its.toArray) (show s1.heap.IsTuple a its.toArray from p') fun h' he hit hsz hk => wpAny_pyIter_enum he ?_
      have I2 : L2.Inv X pn σ H1 { s1 with heap := h' } := I1.kept (t' := s1.toks) hk
      exact ⟨s1.heap.objs.size + 1, [s1.heap.objs.size + 1, s1.heap.objs.size], _, _, H1, rfl, I2, turn_enumT a (s1.heap.objs.size + 1) s1.heap.objs.size, ⟨⟨.none, he⟩, ⟨_, hit, rfl, rfl⟩, Nat.succ_ne_self _⟩, two, q⟩
end

/-! ### the walks -/
def WB (G : Gd) (J : It) (xs : List D) (H2 : Hp) : Prop := (∀ (i : Nat) (x : D), xs[i]? = some x → J.go i H2 ∧ ∀ v H3, J.yld i H2 v H3 → Same H2 H3 ∧ Den G H3 x v) ∧ J.stop xs.length H2
section
variable {G : Gd} {H2 : Hp} {xs ys : List D} {a b : Addr} {vs ws : List V}
theorem wb_list (h : SqL G.K H2 a vs) (d : Dens G H2 xs vs) : WB G (Itl G.K a) xs H2 := by
  refine ⟨fun i x hx => ?_, vs, h, by rw [d.len]; exact Nat.le_refl _⟩
  obtain ⟨v, e1, d1⟩ := d.get hx
  refine ⟨⟨vs, v, h, e1⟩, fun u H3 ⟨e2, y⟩ => ?_⟩
  subst e2
  have := y vs h
  rw [e1] at this
  cases this
  exact ⟨Same.refl _, d1⟩
theorem wb_tup (h : SqT G.K H2 a vs) (d : Dens G H2 xs vs) : WB G (Itt G.K a) xs H2 := by
  refine ⟨fun i x hx => ?_, vs, h, by rw [d.len]; exact Nat.le_refl _⟩
  obtain ⟨v, e1, d1⟩ := d.get hx
  refine ⟨⟨vs, v, h, e1⟩, fun u H3 ⟨e2, y⟩ => ?_⟩
  subst e2
  have := y vs h
  rw [e1] at this
  cases this
  exact ⟨Same.refl _, d1⟩
theorem enumD_get : ∀ (xs : List D) (k i : Nat) (x : D), (enumD k xs)[i]? = some x → ∃ y, xs[i]? = some y ∧ x = .tuple [.int ((k + i : Nat) : Int), y]
  | [], _, _, _, h => by simp [enumD] at h
  | y :: ys, k, 0, x, h => ⟨y, rfl, by simpa [enumD] using h.symm⟩
  | y :: ys, k, i + 1, x, h => by
    obtain ⟨z, h1, h2⟩ := enumD_get ys (k + 1) i x (by simpa [enumD] using h)
    exact ⟨z, by simpa using h1, by rw [h2, show k + 1 + i = k + (i + 1) by omega]⟩
theorem enumD_length : ∀ (xs : List D) (k : Nat), (enumD k xs).length = xs.length
  | [], _ => rfl
  | _ :: ys, k => congrArg Nat.succ (enumD_length ys (k + 1))
theorem den_pair {H : Hp} {T : Addr} {x y : D} {u v : V} (n : H T = none) (d1 : Den G H x u) (d2 : Den G H y v) : Same H (upd H T (.tup [u, v])) ∧ Den G (upd H T (.tup [u, v])) (.tuple [x, y]) (.ref T) := by
  have s := FS.Same.upd (o := .tup [u, v]) n
  have st := FS.Same.stab s
  exact ⟨s, den_tup.mpr ⟨T, _, rfl, SqT.of upd_same, Dens.cons (d1.stab st) (Dens.one (d2.stab st))⟩⟩
theorem wb_enL (h : SqL G.K H2 a vs) (d : Dens G H2 xs vs) : WB G (Ite G.K a) (enumD 0 xs) H2 := by
  refine ⟨fun i x hx => ?_, vs, h, by rw [d.len, enumD_length]; exact Nat.le_refl _⟩
  obtain ⟨y, hy, e0⟩ := enumD_get _ _ _ _ hx
  obtain ⟨v, e1, d1⟩ := d.get hy
  refine ⟨⟨vs, v, h, e1⟩, fun u H3 ⟨T, z, e2, n, e3, f⟩ => ?_⟩
  have := f vs h
  rw [e1] at this
  cases this
  subst e2 e3 e0
  exact den_pair n (den_int.mpr (by rw [Nat.zero_add])) d1
theorem wb_enT (h : SqT G.K H2 a vs) (d : Dens G H2 xs vs) : WB G (IteT G.K a) (enumD 0 xs) H2 := by
  refine ⟨fun i x hx => ?_, vs, h, by rw [d.len, enumD_length]⟩
  obtain ⟨y, hy, e0⟩ := enumD_get _ _ _ _ hx
  obtain ⟨v, e1, d1⟩ := d.get hy
  refine ⟨⟨vs, v, h, e1⟩, fun u H3 ⟨T, z, e2, n, e3, f⟩ => ?_⟩
  have := f vs h
  rw [e1] at this
  cases this
  subst e2 e3 e0
  exact den_pair n (den_int.mpr (by rw [Nat.zero_add])) d1
theorem zipD_get : ∀ (xs ys : List D) (i : Nat) (x : D), (zipD xs ys)[i]? = some x → ∃ y z, xs[i]? = some y ∧ ys[i]? = some z ∧ x = .tuple [y, z]
  | [], _, _, _, h => by simp [zipD] at h
  | _ :: _, [], _, _, h => by simp [zipD] at h
  | y :: xs, z :: ys, 0, x, h => ⟨y, z, rfl, rfl, by simpa [zipD] using h.symm⟩
  | y :: xs, z :: ys, i + 1, x, h => by
    obtain ⟨a, b, h1, h2, h3⟩ := zipD_get xs ys i x (by simpa [zipD] using h)
    exact ⟨a, b, by simpa using h1, by simpa using h2, h3⟩
theorem zipD_length : ∀ (xs ys : List D), (zipD xs ys).length = min xs.length ys.length
  | [], ys => by simp [zipD]
  | _ :: _, [] => by simp [zipD]
  | _ :: xs, _ :: ys => by
    rw [zipD, List.length_cons, List.length_cons, List.length_cons, zipD_length xs ys]
    omega
theorem wb_zipL (h : SqL G.K H2 a vs) (d : Dens G H2 xs vs) (h' : SqL G.K H2 b ws) (d' : Dens G H2 ys ws) : WB G (Itz G.K a b) (zipD xs ys) H2 := by
  refine ⟨fun i x hx => ?_, vs, ws, h, h', by rw [d.len, d'.len, zipD_length]; omega⟩
  obtain ⟨y, z, hy, hz, e0⟩ := zipD_get _ _ _ _ hx
  obtain ⟨v, e1, d1⟩ := d.get hy
  obtain ⟨v', e1', d1'⟩ := d'.get hz
  refine ⟨⟨vs, ws, v, v', h, h', e1, e1'⟩, fun u H3 ⟨T, p, q, e2, n, e3, f, f'⟩ => ?_⟩
  have g := f vs h
  have g' := f' ws h'
  rw [e1] at g
  rw [e1'] at g'
  cases g
  cases g'
  subst e2 e3 e0
  exact den_pair n d1 d1'
theorem wb_zipT (h : SqT G.K H2 a vs) (d : Dens G H2 xs vs) (h' : SqT G.K H2 b ws) (d' : Dens G H2 ys ws) : WB G (RZ.ItzT G.K a b) (zipD xs ys) H2 := by
  refine ⟨fun i x hx => ?_, vs, ws, h, h', by rw [d.len, d'.len, zipD_length]; omega⟩
  obtain ⟨y, z, hy, hz, e0⟩ := zipD_get _ _ _ _ hx
  obtain ⟨v, e1, d1⟩ := d.get hy
  obtain ⟨v', e1', d1'⟩ := d'.get hz
  refine ⟨⟨vs, ws, v, v', h, h', e1, e1'⟩, fun u H3 ⟨T, p, q, e2, n, e3, f, f'⟩ => ?_⟩
  have g := f vs h
  have g' := f' ws h'
  rw [e1] at g
  rw [e1'] at g'
  cases g
  cases g'
  subst e2 e3 e0
  exact den_pair n d1 d1'
theorem upTo_length (lo : Int) (n : Nat) : (upTo lo n).length = n := by unfold upTo; rw [List.length_map, List.length_range]
theorem wb_range (lo : Int) (n : Nat) : WB G (Itr lo n) (upTo lo n) H2 := by
  refine ⟨fun i x hx => ?_, by rw [upTo_length]; exact Nat.le_refl _⟩
  have hi : i < n := by
    have := (List.getElem?_eq_some_iff.mp hx).1
    rwa [upTo_length] at this
  refine ⟨hi, fun v H3 ⟨e1, e2⟩ => ?_⟩
  subst e1 e2
  refine ⟨Same.refl _, ?_⟩
  unfold upTo at hx
  rw [List.getElem?_map, List.getElem?_range hi] at hx
  cases hx
  exact den_int.mpr rfl
end

/-! ### the rules -/
section
variable {X : Cx} {C : Addr} {H0 : Hp} {a b tg : Expr} {fa fb : EF} {za zb : ZF} {p pos tpos : Pos} {elts : List Expr} {kk : Nat}
/-- a sequence that stays readable while what is fixed stays -/
def Stays (G : Gd) (H0 H1 : Hp) (v : V) (xs : List D) : Prop :=
  (∃ l vs, v = .ref l ∧ ∀ H2, Stab H1 H2 → Same H0 H2 → SqL G.K H2 l vs ∧ Dens G H2 xs vs) ∨ (∃ l vs, v = .ref l ∧ ∀ H2, Stab H1 H2 → Same H0 H2 → SqT G.K H2 l vs ∧ Dens G H2 xs vs)
theorem Res.stays {G : Gd} {Ha H1 : Hp} {r : RV} {v : V} {xs : List D} (h : Res G H0 Ha H1 r v) (e : r.fix = some xs) : Stays G H0 H1 v xs := by
  cases r with
  | d x =>
    cases x with
    | tuple ys => cases e; obtain ⟨l, vs, e1, k, d⟩ := r_tup h; exact .inr ⟨l, vs, e1, fun H2 s _ => ⟨s.sqT k, d.stab s⟩⟩
    | list ys => cases e; obtain ⟨l, vs, o, e1, k, d⟩ := r_list h; exact .inl ⟨l, vs, e1, fun H2 s _ => ⟨sq_frz (s _ _ k trivial), d.stab s⟩⟩
    | none => cases e
    | bool b => cases e
    | int i => cases e
    | str x => cases e
    | dict ks => cases e
  | brw ys => cases e; obtain ⟨l, vs, e1, w, k, d⟩ := h; exact .inl ⟨l, vs, e1, fun H2 s s0 => ⟨s0.seq k, d.stab s⟩⟩
  | cur ys => cases e
  | new ys => cases e
  | curd ks => cases e
  | brwd ks => cases e
  | newd ks => cases e
  | obj fs => cases e
/-- a sequence that stays readable while nothing that is tracked changes -/
def StaysC (G : Gd) (H1 : Hp) (v : V) (xs : List D) : Prop :=
  (∃ l vs, v = .ref l ∧ ∀ H2, Same H1 H2 → SqL G.K H2 l vs ∧ Dens G H2 xs vs) ∨ (∃ l vs, v = .ref l ∧ ∀ H2, Same H1 H2 → SqT G.K H2 l vs ∧ Dens G H2 xs vs)
theorem Res.staysC {G : Gd} {Ha H1 : Hp} {r : RV} {v : V} {xs : List D} (h : Res G H0 Ha H1 r v) (e : r.seq = some xs) : StaysC G H1 v xs := by
  obtain ⟨l, vs, e1, k, d⟩ := h.sq e
  rcases k with k | k
  · exact .inl ⟨l, vs, e1, fun H2 s => ⟨s.seq k, d.stab (FS.Same.stab s)⟩⟩
  · exact .inr ⟨l, vs, e1, fun H2 s => ⟨FS.Same.sqT s k, d.stab (FS.Same.stab s)⟩⟩
theorem fix_seq {r : RV} {xs : List D} (h : r.fix = some xs) : r.seq = some xs := by
  cases r with
  | d x => cases x <;> first | exact h | cases h
  | brw ys => exact h
  | cur ys => cases h
  | new ys => cases h
  | curd ks => cases h
  | brwd ks => cases h
  | newd ks => cases h
  | obj fs => cases h
theorem ji_seq (ha : JE X C H0 a fa) : JI X C H0 tg a (iSeq fa) := PI.weak (pi_sqA ha) fun σ H Rr ⟨e, xs, R, hz, q⟩ => by
  unfold iSeq at hz
  split at hz
  · rename_i r hr
    refine ⟨e, r, R, hr, fun v H1 s1 r1 => ?_⟩
    rcases r1.stays hz with ⟨l, vs, e1, k⟩ | ⟨l, vs, e1, k⟩
    · exact ⟨l, e1, .inl ⟨⟨vs, (k H1 (Stab.refl _) (R.same.trans s1)).1⟩, q _ H1 s1 fun H2 s2 s0 => wb_list (k H2 s2 s0).1 (k H2 s2 s0).2⟩⟩
    · exact ⟨l, e1, .inr ⟨⟨vs, (k H1 (Stab.refl _) (R.same.trans s1)).1⟩, q _ H1 s1 fun H2 s2 s0 => wb_tup (k H2 s2 s0).1 (k H2 s2 s0).2⟩⟩
  · cases hz
theorem jc_seq (ha : JE X C H0 a fa) : JC X C H0 tg a (iAny fa) := PI.weak (pi_sqA ha) fun σ H Rr ⟨e, xs, R, hz, q⟩ => by
  unfold iAny at hz
  split at hz
  · rename_i r hr
    refine ⟨e, r, R, hr, fun v H1 s1 r1 => ?_⟩
    rcases r1.staysC hz with ⟨l, vs, e1, k⟩ | ⟨l, vs, e1, k⟩
    · exact ⟨l, e1, .inl ⟨⟨vs, (k H1 (Same.refl _)).1⟩, q _ H1 s1 fun H2 s2 => wb_list (k H2 s2).1 (k H2 s2).2⟩⟩
    · exact ⟨l, e1, .inr ⟨⟨vs, (k H1 (Same.refl _)).1⟩, q _ H1 s1 fun H2 s2 => wb_tup (k H2 s2).1 (k H2 s2).2⟩⟩
  · cases hz
theorem ji_enum (hg : Gl X "enumerate") (hm : X.mg "enumerate" = none) (ha : JE X C H0 a fa) (hs : starEach [a] X.env = [(false, eval a X.env)] := by rfl) : JI X C H0 (.Tuple elts kk tpos) (.Call (.Name "enumerate" p) [a] [] pos) (iEnum (iSeq fa)) :=
  PI.weak (pi_enA hg hm (pa_cons ha pa_nil hs) hs) fun σ H Rr ⟨e, xs, R, hz, q⟩ => by
    unfold iEnum iSeq at hz
    split at hz
    · rename_i ys hy
      cases hz
      split at hy
      · rename_i r hr
        refine ⟨e, r, R, hr, fun v H1 s1 r1 => ?_⟩
        rcases r1.stays hy with ⟨l, vs, e1, k⟩ | ⟨l, vs, e1, k⟩
        · exact ⟨l, by rw [e1], .inl ⟨⟨vs, (k H1 (Stab.refl _) (R.same.trans s1)).1⟩, q _ H1 s1 fun H2 s2 s0 => wb_enL (k H2 s2 s0).1 (k H2 s2 s0).2⟩⟩
        · exact ⟨l, by rw [e1], .inr ⟨⟨vs, (k H1 (Stab.refl _) (R.same.trans s1)).1⟩, q _ H1 s1 fun H2 s2 s0 => wb_enT (k H2 s2 s0).1 (k H2 s2 s0).2⟩⟩
      · cases hy
    · cases hz
theorem jc_enum (hg : Gl X "enumerate") (hm : X.mg "enumerate" = none) (ha : JE X C H0 a fa) (hs : starEach [a] X.env = [(false, eval a X.env)] := by rfl) : JC X C H0 (.Tuple elts kk tpos) (.Call (.Name "enumerate" p) [a] [] pos) (iEnum (iAny fa)) :=
  PI.weak (pi_enA hg hm (pa_cons ha pa_nil hs) hs) fun σ H Rr ⟨e, xs, R, hz, q⟩ => by
    unfold iEnum iAny at hz
    split at hz
    · rename_i ys hy
      cases hz
      split at hy
      · rename_i r hr
        refine ⟨e, r, R, hr, fun v H1 s1 r1 => ?_⟩
        rcases r1.staysC hy with ⟨l, vs, e1, k⟩ | ⟨l, vs, e1, k⟩
        · exact ⟨l, by rw [e1], .inl ⟨⟨vs, (k H1 (Same.refl _)).1⟩, q _ H1 s1 fun H2 s2 => wb_enL (k H2 s2).1 (k H2 s2).2⟩⟩
        · exact ⟨l, by rw [e1], .inr ⟨⟨vs, (k H1 (Same.refl _)).1⟩, q _ H1 s1 fun H2 s2 => wb_enT (k H2 s2).1 (k H2 s2).2⟩⟩
      · cases hy
    · cases hz
/-- range(n) -/
theorem ji_range (hg : Gl X "range") (hm : X.mg "range" = none) (ha : JE X C H0 a fa) (hs : starEach [a] X.env = [(false, eval a X.env)] := by rfl) : JI X C H0 tg (.Call (.Name "range" p) [a] [] pos) (iRange fa) :=
  PI.weak (pi_range1 hg hm (pa_cons ha pa_nil hs) hs) fun σ H Rr ⟨e, xs, R, hz, q⟩ => by
    unfold iRange at hz
    split at hz
    · rename_i j hj
      split at hz
      · rename_i hok
        cases hz
        have h1 : -1000000 ≤ j := hok.1
        have h2 : j ≤ 1000000 := hok.2
        exact ⟨e, _, R, hj, fun v H1 s1 r1 => ⟨j, by rw [r_int r1], by omega, by omega, q _ H1 s1 fun H2 _ _ => wb_range 0 j.toNat⟩⟩
      · cases hz
    · cases hz
theorem ji_range2 (hg : Gl X "range") (hm : X.mg "range" = none) (ha : JE X C H0 a fa) (hb : JE X C H0 b fb) (h2 : starEach [a, b] X.env = [(false, eval a X.env), (false, eval b X.env)] := by rfl) (h1 : starEach [b] X.env = [(false, eval b X.env)] := by rfl)
    (h3 : starEach [a, b] X.env = (false, eval a X.env) :: starEach [b] X.env := by rfl) : JI X C H0 tg (.Call (.Name "range" p) [a, b] [] pos) (iRange2 fa fb) :=
  PI.weak (pi_range2 hg hm (pa_cons ha (pa_cons hb pa_nil h1) h3) h2 h1) fun σ H Rr ⟨e, xs, R, hz, q⟩ => by
    unfold iRange2 at hz
    split at hz
    · rename_i i hi
      split at hz
      · rename_i j hj
        split at hz
        · rename_i hok
          cases hz
          obtain ⟨⟨k1, k2⟩, k3, k4⟩ := hok
          refine ⟨e, _, R, hi, fun v H1 s1 r1 => ⟨e, _, R.go s1, hj, fun u H2 s2 r2 => ⟨i, j, by rw [r_int r1, r_int r2], ⟨by omega, by omega, by omega, by omega⟩, q _ H2 (s1.trans s2) fun H3 _ _ => wb_range i _⟩⟩⟩
        · cases hz
      · cases hz
    · cases hz
theorem Res.staysT {G : Gd} {Ha H1 : Hp} {r : RV} {v : V} {xs : List D} (h : Res G H0 Ha H1 r v) (e : r.fix = some xs) (t : RV.isT r = true) : ∃ l vs, v = .ref l ∧ ∀ H2, Stab H1 H2 → Same H0 H2 → SqT G.K H2 l vs ∧ Dens G H2 xs vs := by
  cases r with
  | d x =>
    cases x with
    | tuple ys => cases e; obtain ⟨l, vs, e1, k, d⟩ := r_tup h; exact ⟨l, vs, e1, fun H2 s _ => ⟨s.sqT k, d.stab s⟩⟩
    | list ys => cases t
    | none => cases e
    | bool b => cases e
    | int i => cases e
    | str x => cases e
    | dict ks => cases e
  | _ => cases t
theorem Res.staysL {G : Gd} {Ha H1 : Hp} {r : RV} {v : V} {xs : List D} (h : Res G H0 Ha H1 r v) (e : r.fix = some xs) (t : RV.isT r = false) : ∃ l vs, v = .ref l ∧ ∀ H2, Stab H1 H2 → Same H0 H2 → SqL G.K H2 l vs ∧ Dens G H2 xs vs := by
  cases r with
  | d x =>
    cases x with
    | tuple ys => cases t
    | list ys => cases e; obtain ⟨l, vs, o, e1, k, d⟩ := r_list h; exact ⟨l, vs, e1, fun H2 s _ => ⟨sq_frz (s _ _ k trivial), d.stab s⟩⟩
    | none => cases e
    | bool b => cases e
    | int i => cases e
    | str x => cases e
    | dict ks => cases e
  | brw ys => cases e; obtain ⟨l, vs, e1, w, k, d⟩ := h; exact ⟨l, vs, e1, fun H2 s s0 => ⟨s0.seq k, d.stab s⟩⟩
  | cur ys => cases e
  | new ys => cases e
  | curd ks => cases e
  | brwd ks => cases e
  | newd ks => cases e
  | obj fs => cases e
theorem ji_zip (hg : Gl X "zip") (hm : X.mg "zip" = none) (ha : JE X C H0 a fa) (hb : JE X C H0 b fb) (hs : starEach [a, b] X.env = (false, eval a X.env) :: starEach [b] X.env := by rfl) (h1 : starEach [b] X.env = (false, eval b X.env) :: starEach [] X.env := by rfl) :
    JI X C H0 (.Tuple elts kk tpos) (.Call (.Name "zip" p) [a, b] [] pos) (iZipA fa fb) :=
  PI.weak (RZ.pi_zipA hg hm (pa_cons ha (pa_cons hb pa_nil h1) hs) hs (by rw [h1]; rfl)) fun σ H Rr ⟨e, xs, R, hz, q⟩ => by
    unfold iZipA at hz
    split at hz
    · rename_i r hr
      split at hz
      · rename_i s hs'
        unfold zipF at hz
        split at hz
        · rename_i ys zs hy hz'
          split at hz
          · rename_i ht
            cases hz
            refine ⟨e, r, R, hr, fun v H1 s1 r1 => ⟨e, s, R.go s1, hs', fun u H2 s2 r2 => ?_⟩⟩
            have r1' := r1.same s2
            have s12 := s1.trans s2
            have s0 := R.same.trans s12
            cases hT : RV.isT r with
            | true =>
              obtain ⟨l, vs, e1, k⟩ := r1'.staysT hy hT
              obtain ⟨l', ws, e2, k'⟩ := r2.staysT hz' (by rw [← ht]; exact hT)
              refine ⟨l, l', vs, ws, by rw [e1, e2], .inr ⟨(k H2 (Stab.refl _) s0).1, (k' H2 (Stab.refl _) s0).1, q _ H2 s12 fun H3 s3 s03 => wb_zipT (k H3 s3 s03).1 (k H3 s3 s03).2 (k' H3 s3 s03).1 (k' H3 s3 s03).2⟩⟩
            | false =>
              obtain ⟨l, vs, e1, k⟩ := r1'.staysL hy hT
              obtain ⟨l', ws, e2, k'⟩ := r2.staysL hz' (by rw [← ht]; exact hT)
              refine ⟨l, l', vs, ws, by rw [e1, e2], .inl ⟨(k H2 (Stab.refl _) s0).1, (k' H2 (Stab.refl _) s0).1, q _ H2 s12 fun H3 s3 s03 => wb_zipL (k H3 s3 s03).1 (k H3 s3 s03).2 (k' H3 s3 s03).1 (k' H3 s3 s03).2⟩⟩
          · cases hz
        · cases hz
      · cases hz
    · cases hz
end
end FS
set_option Elab.async false
set_option linter.all false
set_option maxRecDepth 100000
set_option maxHeartbeats 4000000
set_option autoImplicit false
/-! sorted of a tuple of pairs; range as an argument. -/
namespace FS
open PySem L2 PyProof.Rows PySem.Spec

section
variable {prog : Program} {w : World} {A : Around} {E : Value → Shared → Prop} {s : Shared}
theorem collect_tup {l : Addr} {vs : List Value} {Q : List Value → Shared → Prop} (hl : IsTup s.heap l vs.toArray)
    (h : Q vs { s with heap := (s.heap.push (seqObj "list" #[] 0)).update s.heap.objs.size (Obj.mapSeq (· ++ vs.toArray)) }) (hsz : vs.length ≤ sizeLine) : wpAny (model prog w) A (collect (.ref l)) Q E s := by
  obtain ⟨o, ho, hc, n, hd⟩ := id hl
  unfold collect
  refine wpAny_bind (wpAny_runValue (codeAny_builtin entry_proto_collect' ?_))
  show wpAny _ _ (do again (.builtin "list.__iadd__" ⟨[← newList [], .ref l], []⟩)) _ _ s
  refine wpAny_bind (wpAny_newList (wpAny_pure ⟨Code.quiet_builtin _ (by decide +kernel), codeAny_builtin entry_list_iadd' ?_⟩))
  show wpAny _ _ (Builtin.List.listExtendWith (.ref s.heap.objs.size) (.ref l) (.ref s.heap.objs.size)) _ _ { s with heap := s.heap.push (seqObj "list" #[] 0) }
  unfold Builtin.List.listExtendWith
  have ho' : (s.heap.push (seqObj "list" #[] 0)).get? l = some o := Heap.get?_push_of_some _ ho
  refine wpAny_bind (wpAny_typeOf (T := "tuple") ⟨o, ho', hc⟩ ?_)
  have ht : (Value.type "tuple" == Value.type "tuple") = true := by rfl
  rw [if_pos (by rw [ht]; simp)]
  refine wpAny_bind (listItems_at ho' hd ?_)
  refine wpAny_bind (listItems_at (xs := #[]) (n := 0) (Heap.get?_push_size _ rfl) rfl ?_)
  rw [if_neg (by simp)]
  refine wpAny_bind (listUpdate_at (xs := #[]) (n := 0) (Heap.get?_push_size _ rfl) rfl ?_ (Nat.zero_le _) (by show (#[] ++ vs.toArray).size ≤ sizeLine + 1; simp only [Array.size_append, List.size_toArray, List.length_nil]; omega))
  refine wpAny_pure ?_
  show wpAny (model prog w) A (do
      let o ← load s.heap.objs.size
      match o.data with
      | .seq xs _ => pure xs.toList
      | _ => unsupported "internal:collect") Q E { s with heap := (s.heap.push (seqObj "list" #[] 0)).update s.heap.objs.size (Obj.mapSeq (· ++ vs.toArray)) }
  refine wpAny_bind (wpAny_load (get?_update_seq (Heap.get?_push_size _ rfl) _) ?_)
  show wpAny _ _ (pure ((#[] : Array Value) ++ vs.toArray).toList) Q E _
  rw [show ((#[] : Array Value) ++ vs.toArray).toList = vs by simp]
  exact wpAny_pure h
open SrtO Srt in
theorem sorted_ordT {l : Addr} {vs : List Value} {ltv : Value → Value → Bool} {Q : Value → Shared → Prop} (O : SrtO.Swo ltv) (hl : IsTup s.heap l vs.toArray) (hz : vs.length ≤ sizeLine)
    (hS : 2 ≤ vs.length → ∀ (h₁ : Heap) (a : Addr), h₁.get? a = some (seqObj "list" vs.toArray 0) → (∀ b o, s.heap.get? b = some o → b ≠ a ∧ h₁.get? b = some o) → SortableO prog w A.in1.in1 { s with heap := h₁ } a vs ltv)
    (h : ∀ out : List Value, SrtO.Srtd ltv out → SrtO.Stb ltv out vs → Q (.ref (s.heap.objs.size + 1)) { s with heap := sortedAll s.heap vs out.toArray }) : wpAny (model prog w) A (call (.builtin "sorted") [.ref l]) Q E s := by
  refine Calls.call_function_entry kind_sorted plain_sorted entry_sorted (args_sorted1 _) ?_
  unfold Builtin.«sorted»
  refine wpAny_bind (m := checkCount "sorted" 1 1 _) (wpAny_pure ?_)
  refine wpAny_bind (collect_tup hl ?_ hz)
  refine wpAny_bind (wpAny_newList ?_ hz)
  have hsz : ((s.heap.push (seqObj "list" #[] 0)).update s.heap.objs.size (Obj.mapSeq (· ++ vs.toArray))).objs.size = s.heap.objs.size + 1 := by
    rw [Heap.size_update, size_push']
  have hoL : (((s.heap.push (seqObj "list" #[] 0)).update s.heap.objs.size (Obj.mapSeq (· ++ vs.toArray))).push (seqObj "list" vs.toArray 0)).get? (s.heap.objs.size + 1) = some (seqObj "list" vs.toArray 0) := by
    rw [← hsz]
    exact Heap.get?_push_size _ rfl
  have keep : ∀ b o, s.heap.get? b = some o → b ≠ s.heap.objs.size + 1 ∧ (((s.heap.push (seqObj "list" #[] 0)).update s.heap.objs.size (Obj.mapSeq (· ++ vs.toArray))).push (seqObj "list" vs.toArray 0)).get? b = some o := fun b o q => by
    have hlt : b < s.heap.objs.size := Heap.lt_size q
    refine ⟨Nat.ne_of_lt (Nat.lt_succ_of_lt hlt), Heap.get?_push_of_some _ ?_⟩
    rw [Heap.get?_update_ne _ _ _ _ (Nat.ne_of_lt hlt)]
    exact Heap.get?_push_of_some _ q
  show wpAny _ _ _ _ _ { s with heap := ((s.heap.push (seqObj "list" #[] 0)).update s.heap.objs.size (Obj.mapSeq (· ++ vs.toArray))).push (seqObj "list" vs.toArray 0) }
  rw [hsz]
  refine wpAny_bind (wpAny_holding (wpAny_call_entry slot_list_sort ⟨_, hoL, rfl⟩ entry_list_sort (list_sort_ord O hoL hz (fun h2 => hS h2 _ _ hoL keep) fun out hs hb => ⟨_, rfl, ?_⟩) (args_list_sort _)))
  exact wpAny_pure ⟨_, rfl, h out hs hb⟩
open SrtO Srt in
theorem sorted_pairsT {l : Addr} {vs : List Value} {k : Value → Int × Int} {Q : Value → Shared → Prop} (hl : IsTup s.heap l vs.toArray) (hz : vs.length ≤ sizeLine) (hp : ∀ v ∈ vs, Srt.IsPair s.heap v (k v).1 (k v).2)
    (h : ∀ (h' : Heap) (d : Addr) (out : List Value), SrtO.Srtd (fun v u => SrtO.lexB (k v) (k u)) out → SrtO.Stb (fun v u => SrtO.lexB (k v) (k u)) out vs → (∀ b o, s.heap.get? b = some o → h'.get? b = some o) → s.heap.objs.size ≤ d → (∃ n, h'.get? d = some (seqObj "list" out.toArray n)) → Q (.ref d) { s with heap := h' }) :
    wpAny (model prog w) A (call (.builtin "sorted") [.ref l]) Q E s := by
  refine sorted_ordT (swo_lex k) hl hz (fun h2 h₁ a ha kk => ?_) fun out hs hb => ?_
  · refine pairs_sortableO (s := { s with heap := h₁ }) (by omega) (fun v hm => (hp v hm).keeps fun b o e _ => (kk b o e).2) fun o e => ?_
    have e' : some o = some (seqObj "list" vs.toArray 0) := e.symm.trans ha
    cases e'
    intro c
    exact absurd (Value.type.inj c) (by decide)
  · exact h _ _ out hs hb (fun b o e => sortedAll_old e) (Nat.le_succ _) (sortedAll_at s.heap vs out.toArray)
end

/-! ### the sorted list is one -/
theorem lexP_refl (p : Int × Int) : lexP p p = true := by unfold lexP; simp
theorem lexP_iff {p q : Int × Int} : lexP p q = true ↔ p.1 < q.1 ∨ (p.1 = q.1 ∧ p.2 ≤ q.2) := by
  unfold lexP
  by_cases h : p.1 = q.1
  · rw [if_pos h, decide_eq_true_eq]; omega
  · rw [if_neg h, decide_eq_true_eq]; omega
theorem lexP_tot {p q : Int × Int} (h : lexP p q = false) : lexP q p = true := by
  have h' : ¬ lexP p q = true := by rw [h]; decide
  rw [lexP_iff] at h' ⊢
  omega
theorem lexP_anti {p q : Int × Int} (h1 : lexP p q = true) (h2 : lexP q p = true) : p = q := by
  rw [lexP_iff] at h1 h2
  exact Prod.ext (by omega) (by omega)
theorem insP_perm (p : Int × Int) : ∀ l : List (Int × Int), (insP p l).Perm (p :: l)
  | [] => List.Perm.refl _
  | q :: r => by
    unfold insP
    split
    · exact List.Perm.refl _
    · exact ((insP_perm p r).cons q).trans (List.Perm.swap p q r)
theorem sortP_perm : ∀ l : List (Int × Int), (sortP l).Perm l
  | [] => List.Perm.refl _
  | p :: r => (insP_perm p (sortP r)).trans ((sortP_perm r).cons p)
theorem lexP_trans {p q r : Int × Int} (h1 : lexP p q = true) (h2 : lexP q r = true) : lexP p r = true := by
  rw [lexP_iff] at h1 h2 ⊢
  omega
theorem insP_sorted (p : Int × Int) : ∀ l : List (Int × Int), l.Pairwise (fun a b => lexP a b = true) → (insP p l).Pairwise (fun a b => lexP a b = true)
  | [], _ => List.pairwise_singleton _ _
  | q :: r, h => by
    unfold insP
    obtain ⟨h1, h2⟩ := List.pairwise_cons.mp h
    split
    · rename_i hp
      refine List.pairwise_cons.mpr ⟨fun b hb => ?_, h⟩
      rcases List.mem_cons.mp hb with z | z
      · rw [z]; exact hp
      · exact lexP_trans hp (h1 b z)
    · rename_i hp
      refine List.pairwise_cons.mpr ⟨fun b hb => ?_, insP_sorted p r h2⟩
      rcases List.mem_cons.mp ((insP_perm p r).mem_iff.mp hb) with z | z
      · rw [z]; exact lexP_tot (by simpa using hp)
      · exact h1 b z
theorem sortP_sorted : ∀ l : List (Int × Int), (sortP l).Pairwise (fun a b => lexP a b = true)
  | [] => List.Pairwise.nil
  | p :: r => insP_sorted p _ (sortP_sorted r)
theorem sorted_one : ∀ {l m : List (Int × Int)}, l.Perm m → l.Pairwise (fun a b => lexP a b = true) → m.Pairwise (fun a b => lexP a b = true) → l = m
  | [], m, h, _, _ => (List.Perm.eq_nil h.symm).symm
  | x :: l, [], h, _, _ => absurd h.length_eq (by simp)
  | x :: l, y :: m, h, h1, h2 => by
    obtain ⟨a1, a2⟩ := List.pairwise_cons.mp h1
    obtain ⟨b1, b2⟩ := List.pairwise_cons.mp h2
    have e : x = y := by
      have i1 : x ∈ y :: m := h.mem_iff.mp List.mem_cons_self
      have i2 : y ∈ x :: l := h.mem_iff.mpr List.mem_cons_self
      rcases List.mem_cons.mp i1 with z | z
      · exact z
      · rcases List.mem_cons.mp i2 with z2 | z2
        · exact z2.symm
        · exact lexP_anti (a1 y z2) (b1 x z)
    subst e
    rw [sorted_one (List.Perm.cons_inv h) a2 b2]
theorem pairsOfD_map : ∀ {xs : List D} {ps : List (Int × Int)}, pairsOfD xs = some ps → xs = ps.map pairD
  | [], ps, h => by cases h; rfl
  | x :: xs, ps, h => by
    unfold pairsOfD at h
    split at h
    · rename_i p hp
      split at h
      · rename_i qs hq
        cases h
        rw [List.map_cons, ← pairsOfD_map hq]
        unfold pairOf at hp
        split at hp
        · cases hp; rfl
        · cases hp
      · cases h
    · cases h

section
variable {X : Cx} {C : Addr} {H0 : Hp} {a b : Expr} {fa fb : EF} {p pos pr po : Pos} {x : Str}
/-- the pair that stands at a place -/
noncomputable def keyAt (h : Heap) (v : Value) : Int × Int := open Classical in if hx : ∃ z : Int × Int, Srt.IsPair h v z.1 z.2 then hx.choose else (0, 0)
theorem keyAt_is {h : Heap} {v : Value} {i j : Int} (hp : Srt.IsPair h v i j) : keyAt h v = (i, j) ∧ Srt.IsPair h v (keyAt h v).1 (keyAt h v).2 := by
  have hx : ∃ z : Int × Int, Srt.IsPair h v z.1 z.2 := ⟨(i, j), hp⟩
  have e : keyAt h v = hx.choose := by unfold keyAt; rw [dif_pos hx]
  have q := hx.choose_spec
  rw [e]
  refine ⟨?_, q⟩
  obtain ⟨a, o, t, u, n, e1, ho, hc, hd⟩ := q
  obtain ⟨a', o', t', u', n', e1', ho', hc', hd'⟩ := hp
  rw [e1] at e1'
  cases e1'
  rw [ho] at ho'
  cases ho'
  rw [hd] at hd'
  injection hd' with z _
  have z' : [Value.int hx.choose.1 t, Value.int hx.choose.2 u] = [Value.int i t', Value.int j u'] := by simpa using congrArg Array.toList z
  injection z' with z1 z2
  injection z2 with z3 _
  injection z1 with z4 _
  injection z3 with z5 _
  exact Prod.ext z4 z5
theorem den_isPair {G : Gd} {pn : List (Addr × Obj)} {σ : L2.St} {H : Hp} {s : Shared} {q : Int × Int} {v : V} {u : Value} (I : L2.Inv X pn σ H s) (hG : G.K = X.K) (d : Den G H (pairD q) v) (r : RelV v u) : Srt.IsPair s.heap u q.1 q.2 := by
  obtain ⟨l, vs, e, k, ds⟩ := den_tup.mp d
  subst e
  rw [hG] at k
  obtain ⟨its, rv, ⟨o, ho, hc, n, hd⟩, _⟩ := I.tuple k
  obtain ⟨v1, r1, e1, d1, ds1⟩ := dens_cons.mp ds
  obtain ⟨v2, r2, e2, d2, ds2⟩ := dens_cons.mp ds1
  rw [dens_nil.mp ds2] at e2
  subst e2
  subst e1
  rw [den_int.mp d1, den_int.mp d2] at rv
  obtain ⟨t, t', e3⟩ := Vals.int2 rv
  subst e3
  exact ⟨l, o, t, t', n, r, ho, hc, hd⟩
def rSortT (G : Gd) : List V → Hp → VK → Prop := fun vs H Q => ∃ (l : Addr) (us : List V) (ps : List (Int × Int)), vs = [.ref l] ∧ SqT G.K H l us ∧ Dens G H (ps.map pairD) us ∧
  ∀ ws q, Dens G H ((sortP ps).map pairD) ws → H q = none → Q (.ref q) (upd H q (.lst ws))
theorem cr_sortT : CallR X (.builtin "sorted") (rSortT (gd X C)) := by
  intro pn s σ H vs us Q I r h
  obtain ⟨l, ws, ps, e, hs, ds, q⟩ := h
  subst e
  obtain ⟨u, e, ru⟩ := vals1 r
  subst e
  obtain rfl : u = Value.ref l := ru
  obtain ⟨its, rv, ht, hz⟩ := I.tuple hs
  have get : ∀ (i : Nat) (v : Value), its[i]? = some v → ∃ pq w, ps[i]? = some pq ∧ ws[i]? = some w ∧ RelV w v ∧ Den (gd X C) H (pairD pq) w ∧ Srt.IsPair s.heap v pq.1 pq.2 := fun i v hv => by
    have hi : i < its.length := (List.getElem?_eq_some_iff.mp hv).1
    have hw : i < ws.length := by rw [rv.length]; exact hi
    obtain ⟨v', hv', rr⟩ := rv.get (List.getElem?_eq_getElem hw)
    rw [hv] at hv'
    cases hv'
    obtain ⟨d, hd, dd⟩ := ds.at (List.getElem?_eq_getElem hw)
    rw [List.getElem?_map] at hd
    obtain ⟨pq, h1, h2⟩ := Option.map_eq_some_iff.mp hd
    subst h2
    exact ⟨pq, _, h1, List.getElem?_eq_getElem hw, rr, dd, den_isPair I rfl dd rr⟩
  have keys : its.map (keyAt s.heap) = ps := by
    apply List.ext_getElem?
    intro i
    rw [List.getElem?_map]
    cases hv : its[i]? with
    | none =>
      have : its.length ≤ i := List.getElem?_eq_none_iff.mp hv
      have l1 := rv.length
      have l2 := ds.len
      rw [List.length_map] at l2
      rw [List.getElem?_eq_none (show ps.length ≤ i by omega)]
      rfl
    | some v =>
      obtain ⟨pq, _, h1, _, _, _, h2⟩ := get i v hv
      rw [h1]
      show some (keyAt s.heap v) = some pq
      rw [(keyAt_is h2).1]
  have mem : ∀ v ∈ its, ∃ pq w, RelV w v ∧ Den (gd X C) H (pairD pq) w ∧ Srt.IsPair s.heap v pq.1 pq.2 := fun v hv => by
    obtain ⟨i, hi, e⟩ := List.getElem_of_mem hv
    obtain ⟨pq, w, _, _, h3, h4, h5⟩ := get i v (by rw [List.getElem?_eq_getElem hi, e])
    exact ⟨pq, w, h3, h4, h5⟩
  refine sorted_pairsT (k := keyAt s.heap) ht (by rw [← rv.length]; exact hz) (fun v hv => ?_) fun h' d out h1 h2 kp hd hn => ?_
  · obtain ⟨pq, w, _, _, h5⟩ := mem v hv
    exact (keyAt_is h5).2
  · obtain ⟨n, hn⟩ := hn
    have hout : out.map (keyAt s.heap) = sortP ps := by
      refine sorted_one ?_ ?_ (sortP_sorted ps)
      · refine ((h2.perm).map (keyAt s.heap)).trans ?_
        rw [keys]
        exact (sortP_perm ps).symm
      · rw [List.pairwise_map]
        refine List.Pairwise.imp ?_ h1
        intro x y hxy
        have hxy' : SrtO.lexB (keyAt s.heap y) (keyAt s.heap x) = false := hxy
        have := SrtO.lexB_no.mp hxy'
        rw [lexP_iff]
        omega
    have rel : ∀ out : List Value, (∀ v ∈ out, v ∈ its) → ∃ zs, Vals zs out ∧ Dens (gd X C) H ((out.map (keyAt s.heap)).map pairD) zs := by
      intro out
      induction out with
      | nil => intro _; exact ⟨[], .nil, dens_nil.mpr rfl⟩
      | cons v r ih =>
        intro hv
        obtain ⟨zs, z1, z2⟩ := ih fun x hx => hv x (List.mem_cons_of_mem _ hx)
        obtain ⟨pq, w, h3, h4, h5⟩ := mem v (hv v List.mem_cons_self)
        refine ⟨w :: zs, .cons h3 z1, Dens.cons ?_ z2⟩
        rw [(keyAt_is h5).1]
        exact h4
    obtain ⟨zs, z1, z2⟩ := rel out fun v hv => h2.perm.mem_iff.mp hv
    rw [hout] at z2
    refine ⟨.ref d, upd H d (.lst zs), I.laid (t' := s.toks) kp hd ⟨?_, out, n, z1, hn⟩, rfl, q _ d z2 (I.hok.fresh hd)⟩
    rw [z1.length, h2.len, ← rv.length]
    exact hz
theorem c_sortT : Cal1 (gd X C) (rSortT (gd X C)) fSortP := by
  intro H0 Ha H x z v r h Q q
  unfold fSortP at h
  split at h
  · split at h
    · rename_i ps hps
      cases h
      obtain ⟨l, vs, e1, k, ds⟩ := r_tup r
      rw [pairsOfD_map hps] at ds
      refine ⟨l, vs, ps, by rw [e1], k, ds, fun ws l' dw nl => ?_⟩
      have s4 := FS.Same.upd (o := .lst ws) nl
      exact q _ _ s4 ⟨l', _, rfl, nl, upd_same, dw.stab (FS.Same.stab s4)⟩
    · cases h
  · cases h
theorem je_sortP (hg : Gl X "sorted") (hm : X.mg "sorted" = none) (ha : JE X C H0 a fa) (h1 : St1 X a := by rfl) : JE X C H0 (.Call (.Name "sorted" p) [a] [] pos) (eUn fSortP fa) := je_b1 (cr_sortT (C := C)) (c_sortT (C := C)) hg hm (by decide +kernel) ha h1

/-! ### tuple(range(..)), list(range(..)) -/
theorem dens_rgV {G : Gd} {H : Hp} (i j : Int) : Dens G H (upTo i (j - i).toNat) (rgV i j) := by
  unfold upTo rgV
  generalize List.range (j - i).toNat = l
  induction l with
  | nil => exact dens_nil.mpr rfl
  | cons x r ih => exact Dens.cons (den_int.mpr rfl) ih
theorem rg_ok {i : Int} (h : rngOk i) : -1000000 ≤ i ∧ i ≤ 1000000 := h
theorem je_tupleRg (hc : X.calm = true) (hg : Gl X "tuple") (hm : X.mg "tuple" = none) (hg2 : Gl X "range") (hm2 : X.mg "range" = none) (ha : JE X C H0 a fa) (h1 : St1 X a := by rfl) (h2 : St1 X (.Call (.Name "range" pr) [a] [] p) := by rfl) :
    JE X C H0 (.Call (.Name "tuple" pos) [.Call (.Name "range" pr) [a] [] p] [] po) (eUn fTupleRg fa) := PE.weak (pe_tupRg hc hg hm (prg_1 hg2 hm2 ha h1) h2) fun σ H Q ⟨e, z, R, h, q⟩ => by
  unfold eUn at h
  split at h
  · rename_i r hr
    unfold fTupleRg at h
    split at h
    · rename_i j
      split at h
      · rename_i hok
        cases h
        obtain ⟨k1, k2⟩ := rg_ok hok
        refine ⟨e, _, R, hr, fun v H1 s1 r1 => ⟨j, r_int r1, ⟨by omega, by omega, by omega, by omega, by omega⟩, fun l nl => ?_⟩⟩
        have s2 := FS.Same.upd (o := .tup (rgV 0 j)) nl
        have dd := dens_rgV (G := gd X C) (H := H1) 0 j
        rw [Int.sub_zero] at dd
        exact q _ _ (s1.trans s2) (q_tup (SqT.of upd_same) (dd.stab (FS.Same.stab s2)))
      · cases h
    · cases h
  · cases h
theorem je_listRg (hc : X.calm = true) (hg : Gl X "list") (hm : X.mg "list" = none) (hg2 : Gl X "range") (hm2 : X.mg "range" = none) (ha : JE X C H0 a fa) (h1 : St1 X a := by rfl) (h2 : St1 X (.Call (.Name "range" pr) [a] [] p) := by rfl) :
    JE X C H0 (.Call (.Name "list" pos) [.Call (.Name "range" pr) [a] [] p] [] po) (eUn fListRg fa) := PE.weak (pe_listRg hc hg hm (prg_1 hg2 hm2 ha h1) h2) fun σ H Q ⟨e, z, R, h, q⟩ => by
  unfold eUn at h
  split at h
  · rename_i r hr
    unfold fListRg at h
    split at h
    · rename_i j
      split at h
      · rename_i hok
        cases h
        obtain ⟨k1, k2⟩ := rg_ok hok
        refine ⟨e, _, R, hr, fun v H1 s1 r1 => ⟨j, r_int r1, ⟨by omega, by omega, by omega, by omega, by omega⟩, fun l nl => ?_⟩⟩
        have s2 := FS.Same.upd (o := .lst (rgV 0 j)) nl
        have dd := dens_rgV (G := gd X C) (H := H1) 0 j
        rw [Int.sub_zero] at dd
        exact q _ _ (s1.trans s2) ⟨l, _, rfl, s1.free nl, upd_same, dd.stab (FS.Same.stab s2)⟩
      · cases h
    · cases h
  · cases h
theorem je_tupleRg2 (hc : X.calm = true) (hg : Gl X "tuple") (hm : X.mg "tuple" = none) (hg2 : Gl X "range") (hm2 : X.mg "range" = none) (ha : JE X C H0 a fa) (hb : JE X C H0 b fb) (h1 : St2 X a b := by rfl) (h3 : St1 X b := by rfl) (h2 : St1 X (.Call (.Name "range" pr) [a, b] [] p) := by rfl) :
    JE X C H0 (.Call (.Name "tuple" pos) [.Call (.Name "range" pr) [a, b] [] p] [] po) (eBin fTupleRg2 fa fb) := PE.weak (pe_tupRg hc hg hm (prg_2 hg2 hm2 ha hb h1 h3 (by rw [h3]; rfl)) h2) fun σ H Q ⟨e, z, R, h, q⟩ => by
  unfold eBin at h
  split at h
  · rename_i r hr
    split at h
    · rename_i r' hr'
      unfold fTupleRg2 at h
      split at h
      · rename_i i j
        split at h
        · rename_i hok
          cases h
          obtain ⟨k1, k2⟩ := rg_ok hok.1
          obtain ⟨k3, k4⟩ := rg_ok hok.2
          refine ⟨e, _, R, hr, fun v H1 s1 r1 => ⟨e, _, R.go s1, hr', fun u H2 s2 r2 => ⟨i, j, r_int r1, r_int r2, ⟨by omega, by omega, by omega, by omega, by omega⟩, fun l nl => ?_⟩⟩⟩
          have s3 := FS.Same.upd (o := .tup (rgV i j)) nl
          exact q _ _ ((s1.trans s2).trans s3) (q_tup (SqT.of upd_same) ((dens_rgV i j).stab (FS.Same.stab s3)))
        · cases h
      · cases h
    · cases h
  · cases h
end
end FS
set_option Elab.async false
set_option linter.all false
set_option maxRecDepth 100000
set_option maxHeartbeats 4000000
set_option autoImplicit false
namespace FS
open PySem L2 PyProof.Rows PySem.Spec

/-! ### keys -/
mutual
theorem key_eqv : ∀ (n : Nat) (x : D) (m : Nat) (y : D), keyOk n x = true → keyOk m y = true → (PyData.eqv x y = true ↔ toKey x = toKey y)
  | n, .int i, m, y, _, h => by
    cases y with
    | int j => simp [PyData.eqv, toKey]
    | tuple ys => simp [PyData.eqv, toKey]
    | _ => cases m <;> simp [keyOk] at h
  | n + 1, .tuple xs, m, y, hx, h => by
    cases y with
    | int j => simp [PyData.eqv, toKey]
    | tuple ys => cases m with
      | zero => simp [keyOk] at h
      | succ m =>
        have := keys_eqv n xs m ys (by simpa [keyOk] using hx) (by simpa [keyOk] using h)
        simp [PyData.eqv, toKey, this]
    | _ => cases m <;> simp [keyOk] at h
  | 0, .tuple xs, m, y, h, _ => by simp [keyOk] at h
  | n, .list _, m, y, h, _ => by cases n <;> simp [keyOk] at h
  | n, .none, m, y, h, _ => by cases n <;> simp [keyOk] at h
  | n, .bool _, m, y, h, _ => by cases n <;> simp [keyOk] at h
  | n, .str _, m, y, h, _ => by cases n <;> simp [keyOk] at h
  | n, .dict _, m, y, h, _ => by cases n <;> simp [keyOk] at h
theorem keys_eqv : ∀ (n : Nat) (xs : List D) (m : Nat) (ys : List D), keyOks n xs = true → keyOks m ys = true → (PyData.eqvAll xs ys = true ↔ toKeys xs = toKeys ys)
  | n, [], m, ys, _, _ => by cases ys <;> simp [PyData.eqvAll, toKeys]
  | n, x :: xs, m, [], _, _ => by simp [PyData.eqvAll, toKeys]
  | n, x :: xs, m, y :: ys, hx, hy => by
    simp only [keyOks, Bool.and_eq_true] at hx hy
    have h1 := key_eqv n x m y hx.1 hy.1
    have h2 := keys_eqv n xs m ys hx.2 hy.2
    simp [PyData.eqvAll, toKeys, h1, h2]
end
theorem isKey_ok {x : D} (h : isKey x = true) : keyOk 6 x = true := by
  unfold isKey at h
  split at h
  · simpa [keyOk] using h
  · cases h
theorem isKey_eqv {x y : D} (h : isKey x = true) (k : isKey y = true) : PyData.eqv x y = true ↔ toKey x = toKey y := key_eqv 6 x 6 y (isKey_ok h) (isKey_ok k)
section
variable {X : Cx} {C : Addr} {pins : List (Addr × Obj)} {σ : L2.St} {H : Hp} {s : Shared}
mutual
theorem key_is (I : Inv X pins σ H s) : ∀ (n : Nat) (x : D) (v : V) (u : Value), keyOk n x = true → Den (gd X C) H x v → RelV v u → NestedIs s.heap (toKey x) u ∧ (toKey x).depth ≤ n
  | n, .int i, v, u, _, d, r => by
    rw [den_int.mp d] at r
    obtain ⟨t, rfl⟩ := r
    refine ⟨.int i t, ?_⟩
    simp [toKey, NestedKey.depth]
  | n + 1, .tuple xs, v, u, h, d, r => by
    obtain ⟨a, vs, rfl, hq, hd⟩ := den_tup.mp d
    cases r
    obtain ⟨its, hv, pl, _⟩ := I.tuple hq
    obtain ⟨o, e1, e2, m, e3⟩ := pl
    have := keys_are I n xs vs its (by simpa [keyOk] using h) hd hv
    refine ⟨.tup e1 e2 e3 (by simpa using this.1), ?_⟩
    have := this.2
    simp only [toKey, NestedKey.depth]
    omega
  | 0, .tuple xs, v, u, h, _, _ => by simp [keyOk] at h
  | n, .list _, _, _, h, _, _ => by cases n <;> simp [keyOk] at h
  | n, .none, _, _, h, _, _ => by cases n <;> simp [keyOk] at h
  | n, .bool _, _, _, h, _, _ => by cases n <;> simp [keyOk] at h
  | n, .str _, _, _, h, _, _ => by cases n <;> simp [keyOk] at h
  | n, .dict _, _, _, h, _, _ => by cases n <;> simp [keyOk] at h
theorem keys_are (I : Inv X pins σ H s) : ∀ (n : Nat) (xs : List D) (vs : List V) (us : List Value), keyOks n xs = true → Dens (gd X C) H xs vs → Vals vs us → NestedAll s.heap (toKeys xs) us ∧ NestedKey.depthAll (toKeys xs) ≤ n
  | n, [], vs, us, _, d, r => by
    rw [dens_nil.mp d] at r
    cases r
    exact ⟨.nil, by simp [toKeys, NestedKey.depthAll]⟩
  | n, x :: xs, vs, us, h, d, r => by
    obtain ⟨v, w, rfl, d1, d2⟩ := dens_cons.mp d
    cases r with
    | cons r1 r2 =>
      simp only [keyOks, Bool.and_eq_true] at h
      have h1 := key_is I n x v _ h.1 d1 r1
      have h2 := keys_are I n xs w _ h.2 d2 r2
      refine ⟨.cons h1.1 h2.1, ?_⟩
      have := h1.2
      have := h2.2
      simp only [toKeys, NestedKey.depthAll]
      omega
end
theorem key_here (I : Inv X pins σ H s) {x : D} {a : Addr} (h : isKey x = true) (d : Den (gd X C) H x (.ref a)) : (nestedKind X.prog X.w).is s.heap (toKey x) a := by
  have := key_is I 6 x (.ref a) (.ref a) (isKey_ok h) d rfl
  exact ⟨this.1, by omega⟩

/-! ### entries -/
theorem ents_nil {G : Gd} {raw : List (NestedKey × Addr × Value)} : Ents G H [] raw ↔ raw = [] := by simp [Ents]
theorem ents_cons {G : Gd} {p : D × D} {ks : List (D × D)} {raw : List (NestedKey × Addr × Value)} : Ents G H (p :: ks) raw ↔ ∃ a u x r, raw = (toKey p.1, a, u) :: r ∧ isKey p.1 = true ∧ Den G H p.1 (.ref a) ∧ RelV x u ∧ Den G H p.2 x ∧ Ents G H ks r := by
  constructor <;> intro h
  · unfold Ents at h; exact h
  · unfold Ents; exact h
theorem ents_is (I : Inv X pins σ H s) : ∀ {ks : List (D × D)} {raw : List (NestedKey × Addr × Value)}, Ents (gd X C) H ks raw → ∀ x ∈ raw, (nestedKind X.prog X.w).is s.heap x.1 x.2.1
  | [], raw, h, x, hx => by
    rw [ents_nil.mp h] at hx
    cases hx
  | p :: ks, raw, h, x, hx => by
    obtain ⟨a, u, y, r, rfl, k, d1, _, _, q⟩ := ents_cons.mp h
    rcases List.mem_cons.mp hx with e | e
    · rw [e]
      exact key_here I k d1
    · exact ents_is I q x e
theorem ents_len {G : Gd} : ∀ {ks : List (D × D)} {raw : List (NestedKey × Addr × Value)}, Ents G H ks raw → raw.length = ks.length
  | [], raw, h => by rw [ents_nil.mp h]; rfl
  | p :: ks, raw, h => by
    obtain ⟨a, u, y, r, rfl, _, _, _, _, q⟩ := ents_cons.mp h
    rw [List.length_cons, List.length_cons, ents_len q]
theorem atKey_cons {k j : NestedKey} {p : Addr × Value} {r : List (NestedKey × Addr × Value)} : atKey ((k, p) :: r) j = if k = j then some p else atKey r j := by
  unfold atKey
  rw [List.find?_cons]
  by_cases e : k = j
  · simp [e]
  · simp [e]
theorem ents_look {G : Gd} {x : D} (hx : isKey x = true) : ∀ {ks : List (D × D)} {raw : List (NestedKey × Addr × Value)}, Ents G H ks raw →
    (lookD ks x = none ∧ atKey raw (toKey x) = none) ∨ ∃ y p v, lookD ks x = some y ∧ atKey raw (toKey x) = some p ∧ RelV v p.2 ∧ Den G H y v
  | [], raw, h => by
    rw [ents_nil.mp h]
    exact .inl ⟨rfl, rfl⟩
  | p :: ks, raw, h => by
    obtain ⟨a, u, y, r, rfl, k, d1, d2, d3, q⟩ := ents_cons.mp h
    obtain ⟨p1, p2⟩ := p
    rw [atKey_cons]
    unfold lookD
    have e := isKey_eqv k hx
    by_cases hk : toKey p1 = toKey x
    · rw [if_pos hk, if_pos (e.mpr hk)]
      exact .inr ⟨p2, (a, u), y, rfl, rfl, d2, d3⟩
    · rw [if_neg hk, if_neg (fun z => hk (e.mp z))]
      exact ents_look hx q
theorem putAt_map {k : NestedKey} {v : Value} : ∀ {r : List (NestedKey × Addr × Value)}, k ∉ r.map (·.1) → r.map (putAt k v) = r
  | [], _ => rfl
  | x :: r, h => by
    simp only [List.map_cons, List.mem_cons, not_or] at h
    rw [List.map_cons, putAt_map h.2]
    unfold putAt
    rw [if_neg (Ne.symm h.1)]
theorem ents_put {G : Gd} {x y : D} {a : Addr} {w : Value} {v : V} (hx : isKey x = true) (dx : Den G H x (.ref a)) (rw' : RelV v w) (dy : Den G H y v) : ∀ {ks : List (D × D)} {raw : List (NestedKey × Addr × Value)}, Ents G H ks raw → (raw.map (·.1)).Nodup →
    Ents G H (putD ks x y) (storedH raw (toKey x) a w)
  | [], raw, h, _ => by
    rw [ents_nil.mp h]
    exact ents_cons.mpr ⟨a, w, v, [], rfl, hx, dx, rw', dy, ents_nil.mpr rfl⟩
  | p :: ks, raw, h, nd => by
    obtain ⟨b, u, z, r, rfl, k, d1, d2, d3, q⟩ := ents_cons.mp h
    obtain ⟨p1, p2⟩ := p
    rw [List.map_cons, List.nodup_cons] at nd
    have e := isKey_eqv k hx
    by_cases hk : toKey p1 = toKey x
    · have e1 : storedH ((toKey p1, b, u) :: r) (toKey x) a w = (toKey p1, b, w) :: r := by
        unfold storedH
        rw [atKey_cons, if_pos hk]
        simp only [Option.isSome_some, if_true, List.map_cons]
        rw [putAt_map (by rw [← hk]; exact nd.1)]
        unfold putAt
        rw [if_pos hk]
      rw [e1]
      unfold putD
      rw [if_pos (e.mpr hk)]
      exact ents_cons.mpr ⟨b, w, v, r, rfl, k, d1, rw', dy, q⟩
    · have e1 : storedH ((toKey p1, b, u) :: r) (toKey x) a w = (toKey p1, b, u) :: storedH r (toKey x) a w := by
        unfold storedH
        rw [atKey_cons, if_neg hk]
        split
        · rw [List.map_cons]
          congr 1
          unfold putAt
          rw [if_neg hk]
        · rfl
      rw [e1]
      unfold putD
      rw [if_neg (fun z => hk (e.mp z))]
      exact ents_cons.mpr ⟨b, u, z, _, rfl, k, d1, d2, d3, ents_put hx dx rw' dy q nd.2⟩
theorem raw_of (I : Inv X pins σ H s) {a : Addr} {ks : List (D × D)} {raw : Raw} (e : Rd H a (dicH (gd X C) a raw)) (en : Ents (gd X C) H ks raw.1) : raw.1.length ≤ sizeLine ∧ (a == sysModules) = false ∧ s.heap.DictOfH (nestedKind X.prog X.w) a raw.1 := by
  obtain ⟨⟨h0, h1, o, es, h2, h3, h4, h5, h6⟩, _⟩ := e.ok I.hok
  exact ⟨h0, h1, o, es, raw.2, h2, h3, h4, h5, ents_is I en, h6⟩

/-! ### d[k], k in d -/
def rGetN (G : Gd) : R2 := fun x y H Q => ∃ a b raw ks k d, x = .ref a ∧ y = .ref b ∧ Rd H a (dicH G a raw) ∧ Ents G H ks raw.1 ∧ isKey k = true ∧ Den G H k (.ref b) ∧ lookD ks k = some d ∧ ∀ v, Den G H d v → Q v H
theorem ix_dict (hu : X.A.units + 64 < cLine) : IxR X (rGetN (gd X C)) := by
  intro value slice pins s σ H x y v u Q I rx ry h hs
  obtain ⟨a, b, raw, ks, k, d, rfl, rfl, hr, he, hk, dk, hl, q⟩ := h
  cases rx
  cases ry
  obtain ⟨h0, h1, h2⟩ := raw_of I hr he
  rcases ents_look (G := gd X C) hk he with ⟨e, _⟩ | ⟨y, p, w, e1, e2, e3, e4⟩
  · rw [hl] at e
    cases e
  · rw [hl] at e1
    cases e1
    refine tail_any h2.typeIs PySem.F.slot_dict_getitem.lookup (wpAny_getItem_heap (show X.A.units + 1 + 8 < cLine by omega) (key_here I hk dk) h2 e2 ?_) hs
    exact ⟨w, H, I.tok _, e3, q w e4⟩
def rInN (G : Gd) (neg : Bool) : R2 := fun y x H Q => ∃ a b raw ks k, x = .ref a ∧ y = .ref b ∧ Rd H a (dicH G a raw) ∧ Ents G H ks raw.1 ∧ isKey k = true ∧ Den G H k (.ref b) ∧ Q (.bl (if neg then !(lookD ks k).isSome else (lookD ks k).isSome)) H
theorem op_inN (hu : X.A.units + 64 < cLine) : OpR X (compareOp .In) (rInN (gd X C) false) := by
  intro pins s σ H x y v u Q I rx ry h
  obtain ⟨a, b, raw, ks, k, rfl, rfl, hr, he, hk, dk, q⟩ := h
  cases rx
  cases ry
  obtain ⟨h0, h1, h2⟩ := raw_of I hr he
  refine wpAny_in_heap (show X.A.units + 1 + 8 < cLine by omega) (key_here I hk dk) h1 h2 ⟨.bl (atKey raw.1 (toKey k)).isSome, H, I.tok _, rfl, ?_⟩
  rcases ents_look (G := gd X C) hk he with ⟨e1, e2⟩ | ⟨y, p, w, e1, e2, e3, e4⟩
  · rw [e1] at q; rw [e2]; exact q
  · rw [e1] at q; rw [e2]; exact q
theorem op_notInN (hu : X.A.units + 64 < cLine) : OpR X (compareOp .NotIn) (rInN (gd X C) true) := by
  intro pins s σ H x y v u Q I rx ry h
  obtain ⟨a, b, raw, ks, k, rfl, rfl, hr, he, hk, dk, q⟩ := h
  cases rx
  cases ry
  obtain ⟨h0, h1, h2⟩ := raw_of I hr he
  refine wpAny_notIn_heap (show X.A.units + 1 + 8 < cLine by omega) (key_here I hk dk) h1 h2 ⟨.bl (!(atKey raw.1 (toKey k)).isSome), H, I.tok _, rfl, ?_⟩
  rcases ents_look (G := gd X C) hk he with ⟨e1, e2⟩ | ⟨y, p, w, e1, e2, e3, e4⟩
  · rw [e1] at q; rw [e2]; exact q
  · rw [e1] at q; rw [e2]; exact q
section
variable {H0 : Hp} {a b : Expr} {fa fb : EF} {pos : Pos}
/-- a dict that is looked at -/
theorem r_dic {G : Gd} {Ha Hb : Hp} {r : RV} {v : V} {ks : List (D × D)} (h : Res G H0 Ha Hb r v) (e : r.dic = some ks) : ∃ a raw, v = .ref a ∧ Rd Hb a (dicH G a raw) ∧ Ents G Hb ks raw.1 := by
  cases r with
  | d x =>
    cases x with
    | dict k2 =>
      cases e
      obtain ⟨a, raw, o, e1, h1, h2⟩ := r_dict h
      exact ⟨a, raw, e1, .inr ⟨o, h1⟩, h2⟩
    | _ => cases e
  | curd k2 =>
    cases e
    obtain ⟨a, raw, e1, h1, h2⟩ := h
    exact ⟨a, raw, e1, .inl h1, h2⟩
  | brwd k2 =>
    cases e
    obtain ⟨a, raw, e1, s, h1, h2⟩ := h
    exact ⟨a, raw, e1, Rd.stay s h1, h2⟩
  | _ => cases e
theorem key_ref {G : Gd} {Hb : Hp} {x : D} {v : V} (hk : isKey x = true) (h : Den G Hb x v) : ∃ b, v = .ref b := by
  unfold isKey at hk
  split at hk
  · obtain ⟨a, _, e, _⟩ := den_tup.mp h
    exact ⟨a, e⟩
  · cases hk
theorem o_ixD {G : Gd} : Op2 G (rGetN G) opIxD := by
  intro H0 Ha Hb H x y z vx vy rx ry h Q q
  unfold opIxD at h
  split at h
  · rename_i ks k hd
    split at h
    · rename_i hk
      obtain ⟨d, hl, hz⟩ := Option.map_eq_some_iff.mp h
      subst hz
      obtain ⟨a, raw, e1, h1, h2⟩ := r_dic rx hd
      have dk : Den G H k vy := ry
      obtain ⟨b, e2⟩ := key_ref hk dk
      subst e2
      exact ⟨a, b, raw, ks, k, d, e1, rfl, h1, h2, hk, dk, hl, fun v hv => q v H (Same.refl H) hv⟩
    · cases h
  · cases h
theorem je_ixD (hu : X.A.units + 64 < cLine) (ha : JE X C H0 a fa) (hb : JE X C H0 b fb) (hs : PlainIx b := by exact fun _ _ => rfl) : JE X C H0 (.Subscript a b pos) (eBin opIxD fa fb) :=
  PE.weak (pe_ix (ix_dict hu) ha hb hs) fun _ _ _ q => op2_run (o_ixD (G := gd X C)) q
theorem o_inD {G : Gd} : Op2 G (rInN G false) cmpInD := by
  intro H0 Ha Hb H x y z vx vy rx ry h Q q
  unfold cmpInD at h
  split at h
  · rename_i ks k hd
    split at h
    · rename_i hk
      cases h
      obtain ⟨a, raw, e1, h1, h2⟩ := r_dic ry hd
      have dk : Den G H k vx := rx
      obtain ⟨b, e2⟩ := key_ref hk dk
      subst e2
      exact ⟨a, b, raw, ks, k, e1, rfl, h1, h2, hk, dk, q (.bl (lookD ks k).isSome) H (Same.refl H) (show Den G H (.bool _) _ from den_bool.mpr rfl)⟩
    · cases h
  · cases h
theorem o_notInD {G : Gd} : Op2 G (rInN G true) cmpNotInD := by
  intro H0 Ha Hb H x y z vx vy rx ry h Q q
  unfold cmpNotInD at h
  split at h
  · rename_i ks k hd
    split at h
    · rename_i hk
      cases h
      obtain ⟨a, raw, e1, h1, h2⟩ := r_dic ry hd
      have dk : Den G H k vx := rx
      obtain ⟨b, e2⟩ := key_ref hk dk
      subst e2
      exact ⟨a, b, raw, ks, k, e1, rfl, h1, h2, hk, dk, q (.bl (!(lookD ks k).isSome)) H (Same.refl H) (show Den G H (.bool _) _ from den_bool.mpr rfl)⟩
    · cases h
  · cases h

/-! ### {}, d[k] = v, len(d) -/
theorem raw_empty {G : Gd} (h : Heap) (hb : sysModules < h.objs.size) : ObjOk G.P G.w H (h.push { cls := .type "dict", data := .dict #[] }) h.objs.size (dicH G h.objs.size ([], 0)) := by
  refine ⟨⟨Nat.zero_le _, beq_eq_false_iff_ne.mpr (Ne.symm (Nat.ne_of_lt hb)), _, #[], Heap.get?_push_size _ rfl, ⟨rfl, rfl, rfl⟩, rfl, rfl, List.nodup_nil⟩, ⟨_, Heap.get?_push_size _ rfl⟩, ?_⟩
  rintro h1 h2 ⟨a0, a1, o, es, a2, a3, a4, a5, a6⟩ k
  exact ⟨a0, a1, o, es, k _ a2, a3, a4, a5, a6⟩
def tDNewN (G : Gd) : TE := fun _ H Q => ∀ p, H p = none → Q (.ref p) (upd H p (dicH G p ([], 0)))
theorem pe_dnewN : PE X (.Dict [] [] pos) (tDNewN (gd X C)) := ⟨fun pins s σ H Q I h =>
  wpAny_Dict_empty ⟨.ref s.heap.objs.size, _, I.laid (a := s.heap.objs.size) (o := dicH (gd X C) s.heap.objs.size ([], 0)) (t' := s.toks) (fun _ _ q => Heap.get?_push_of_some _ q) (Nat.le_refl _) (raw_empty (G := gd X C) s.heap I.big), rfl, h _ (I.hok.fresh (Nat.le_refl _))⟩⟩
theorem je_newD : JE X C H0 (.Dict [] [] pos) eNewD := PE.weak pe_dnewN fun σ H Q ⟨en, z, R, h, q⟩ => by
  cases h
  intro p np
  exact q _ _ (FS.Same.upd np) ⟨p, ([], 0), rfl, np, upd_same, ents_nil.mpr rfl⟩
/-- d[k] = v -/
def rSetN (G : Gd) : TSet := fun o i v H Q => ∃ a b raw ks k y, o = .ref a ∧ i = .ref b ∧ H a = some (dicH G a raw) ∧ Ents G H ks raw.1 ∧ isKey k = true ∧ Den G H k (.ref b) ∧ Den G H y v ∧ ks.length < lim ∧
  ∀ raw' : Raw, Ents G H (putD ks k y) raw'.1 → Q (upd H a (dicH G a raw'))
theorem putD_len {ks : List (D × D)} {x y : D} : (putD ks x y).length ≤ ks.length + 1 := by
  induction ks with
  | nil => simp [putD]
  | cons p ks ih =>
    obtain ⟨k, v⟩ := p
    unfold putD
    split
    · simp
    · simp only [List.length_cons]
      omega
theorem set_dict (hu : X.A.units + 64 < cLine) : PSet X (rSetN (gd X C)) := by
  intro pins s σ H o i v ov iv u Q I ro ri rv h
  obtain ⟨a, b, raw, ks, k, y, rfl, rfl, hp, he, hk, dk, dy, hl, q⟩ := h
  cases ro
  cases ri
  obtain ⟨h0, h1, h2⟩ := raw_of I (.inl hp) he
  refine wpAny_setItem_heap (hsz := h0) (show X.A.units + 1 + 8 < cLine by omega) (key_here I hk dk) h2 fun h' dd' hs => ?_
  obtain ⟨_, o, es, ep, _, _, _, _, _, nd⟩ := (⟨trivial, h2⟩ : True ∧ _)
  obtain ⟨ob, es2, ep2, g1, g2, g3, g4, g5, g6⟩ := dd'
  have e1 := ents_put hk dk rv dy he nd
  have hz : (storedH raw.1 (toKey k) b u).length ≤ sizeLine := by
    rw [ents_len e1]
    have := putD_len (ks := ks) (x := k) (y := y)
    rw [sizeLine_eq]
    rw [lim] at hl
    omega
  refine ⟨_, d_write I (by rw [hp]; exact True.intro) hs ⟨ob, g1⟩ ?_, q (storedH raw.1 (toKey k) b u, ep2) e1⟩
  refine ⟨⟨hz, h1, ob, es2, g1, g2, g3, g4, g6⟩, ⟨ob, g1⟩, ?_⟩
  rintro h1 h2 ⟨a0, a1, o, es, a2, a3, a4, a5, a6⟩ k
  exact ⟨a0, a1, o, es, k _ a2, a3, a4, a5, a6⟩
theorem js_putD {i : Nat} {st : Stmt} (h : PS X st (tAsg (tJ (gd X C) H0 (eFrz fb)) (gSub (tVar i) (tJ (gd X C) H0 fa) (rSetN (gd X C))))) : JS X C H0 [] st (sPutD i fa fb) := PS.weak h fun D σ H ⟨e, o, R, h, q⟩ => by
  unfold sPutD at h
  split at h
  · rename_i r hr
    split at h
    · rename_i y hy
      split at h
      · rename_i x hx
        split at h
        · rename_i ks hks
          split at h
          · rename_i hc
            cases h
            refine ⟨e, .d y, R, by unfold eFrz; rw [hr]; show r.frz.map RV.d = _; rw [hy]; rfl, fun v H1 s1 r1 => ?_⟩
            obtain ⟨l, raw, h1, h2, h3, h4⟩ := R.owdAt hks
            refine ⟨_, h1, e, _, R.go s1, hx, fun u H2 s2 r2 => ?_⟩
            have k2 := s2 _ _ (s1 _ _ h3)
            have dk : Den (gd X C) H2 x u := r2
            obtain ⟨b, rfl⟩ := key_ref hc.1 dk
            have s12 := FS.Same.stab (s1.trans s2)
            have dy : Den (gd X C) H2 y v := Den.stab (FS.Same.stab s2) _ _ r1
            refine ⟨l, b, raw, ks, x, y, rfl, rfl, k2, h4.stab s12, hc.1, dk, dy, hc.2, fun raw' en => ?_⟩
            have st := Stab.updX (o := dicH (gd X C) l raw') k2
            exact q σ _ (((R.go s1).go s2).chg hks rfl h1 h2 st ⟨l, raw', rfl, h2, upd_same, en.stab st⟩) (Far.refl _ _) (s12.trans st)
          · cases h
        · cases h
      · cases h
    · cases h
  · cases h
end
end
end FS
set_option Elab.async false
set_option linter.all false
set_option maxRecDepth 100000
set_option maxHeartbeats 4000000
set_option autoImplicit false
namespace FS
open PySem L2 PyProof.Rows PySem.Spec

/-! ### for k in d -/
def ItN (G : Gd) (d : Addr) (raw : Raw) : It :=
  ⟨fun i H => Rd H d (dicH G d raw) ∧ i < raw.1.length, fun i H x H' => H' = H ∧ ∃ k a u, raw.1[i]? = some (k, a, u) ∧ x = .ref a, fun i H => Rd H d (dicH G d raw) ∧ raw.1.length ≤ i⟩
section
variable {X : Cx} {C : Addr} {pins : List (Addr × Obj)} {σ : L2.St} {H : Hp} {s : Shared}
theorem raw_obj (I : Inv X pins σ H s) {a : Addr} {raw : Raw} (e : Rd H a (dicH (gd X C) a raw)) : (a == sysModules) = false ∧ ∃ o es, s.heap.get? a = some o ∧ o.ExactDict ∧ o.data = .dict es raw.2 ∧ es.size = raw.1.length ∧
    ∀ (i : Nat) (k : NestedKey) (q : Addr) (u : Value), raw.1[i]? = some (k, q, u) → ∃ en : DictEntry, es[i]? = some en ∧ en.key = .ref q := by
  obtain ⟨⟨h0, h1, o, es, h2, h3, h4, h5, h6⟩, _⟩ := e.ok I.hok
  refine ⟨h1, o, es, h2, h3, h4, size_of_entries h5, fun i k q u e => ?_⟩
  have z := entry_at h5 i
  rw [e] at z
  exact ⟨_, z, rfl⟩
end
theorem turn_keysN {P : Program} {w : World} {K : PySem.W.Frag} {tg : Expr} {G : Gd} (hGP : G.P = P) (hGw : G.w = w) (it d : Addr) (raw : Raw) : Turn P w K tg (ItN G d raw) [it] it (fun i h => h.IsKeyIter it d i raw.1.length raw.2) where
  mem := by simp
  obj := fun i h st b hb => by
    have e : b = it := by simpa using hb
    subst e
    obtain ⟨oi, e, c, dd⟩ := st
    exact ⟨oi, e, fun v z => by rw [dd] at z; cases z⟩
  keep := fun i h h' st k => st.at fun oi e => k it (by simp) oi e
  item := by
    intro X hP hw hK hc i pins s σ H E I hf st hg
    subst hP hw hK
    obtain ⟨hd, hi⟩ := hg
    obtain ⟨f0, f1, f2, f3, f4, f5⟩ := hf it (by simp)
    have hd' : Rd H d (dicH (gd X G.C) d raw) := by
      have : dicH G d raw = dicH (gd X G.C) d raw := by
        unfold dicH RawD
        rw [hGP, hGw]
      rw [← this]
      exact hd
    obtain ⟨hs, o, es, hgd, hx, hdt, hsz, ent⟩ := raw_obj I hd'
    obtain ⟨⟨k, q, u⟩, hkv⟩ : ∃ p, raw.1[i]? = some p := ⟨raw.1[i], List.getElem?_eq_getElem hi⟩
    obtain ⟨en, hen, hkey⟩ := ent i k q u hkv
    refine next_key_item st hgd hdt hsz hen fun h' st' sb => ?_
    have I1 : Inv X pins σ H { s with heap := h' } := I.turned (t' := s.toks) (fun b ob hb e => (sb.2 b hb).trans e) f0 f1 f3 f4 f5
    obtain ⟨oi, e, c, dd⟩ := id st'
    exact ⟨en.key, rfl, go_of (s := { s with heap := h' }) e c dd (by decide) ⟨.ref q, H, I1, hkey, ⟨rfl, k, q, u, hkv, rfl⟩, st', fun b hb => (hf b hb).1⟩⟩
  done := by
    intro X hP hw hK hc i pins s σ H E I hf st hg
    subst hP hw hK
    obtain ⟨hd, hi⟩ := hg
    obtain ⟨f0, f1, f2, f3, f4, f5⟩ := hf it (by simp)
    have hd' : Rd H d (dicH (gd X G.C) d raw) := by
      have : dicH G d raw = dicH (gd X G.C) d raw := by
        unfold dicH RawD
        rw [hGP, hGw]
      rw [← this]
      exact hd
    obtain ⟨hs, o, es, hgd, hx, hdt, hsz, ent⟩ := raw_obj I hd'
    exact next_key_end (I.ok.hd hc) st hgd hdt hsz hi fun h' eb => ⟨rfl, I.turned (t' := s.toks) (fun b ob hb e => eb b ob hb e) f0 f1 f3 f4 f5⟩
  self := fun A i s Q E st h => by
    refine wpAny_pyIter_slot st.typeIs F.slot_dict_keyiterator_iter (wpAny_call_entry F.slot_dict_keyiterator_iter st.typeIs F.entry_dict_keyiterator_iter ?_ (F.args_dict_keyiterator_iter_1 _))
    show wpAny _ _ (ret (.ref it)) _ _ s
    exact wpAny_pure ⟨_, rfl, "dict_keyiterator", _, st.typeIs, F.slot_dict_keyiterator_next.lookup, h⟩
def iKeysN (G : Gd) (td : TE) : TI := fun σ H R => td σ H fun x H1 => ∃ d raw, x = .ref d ∧ Rd H1 d (dicH G d raw) ∧ R (ItN G d raw) H1
section
variable {X : Cx} {C : Addr} {H0 : Hp} {tg a : Expr} {td : TE} {fa : EF}
theorem pi_keysN (he : PE X a td) : PI X tg a (iKeysN (gd X C) td) := by
  refine ⟨fun pins s σ H R I h => ?_⟩
  refine thn (he.run pins s σ H _ I h) fun u s1 ⟨x, H1, I1, rx, d, raw, ex, hd, q⟩ => ?_
  subst ex
  obtain rfl : u = Value.ref d := rx
  obtain ⟨hs, o, es, hgd, hx, hdt, hsz, ent⟩ := raw_obj I1 hd
  refine iter_keys hs hgd hx hdt (pi_one (tk := s1.toks) I1 _ (turn_keysN (G := gd X C) rfl rfl _ d raw) ⟨_, Heap.get?_push_size _ rfl, rfl, ?_⟩ q)
  rw [hsz] <;> rfl
theorem ents_get {G : Gd} {H : Hp} : ∀ {ks : List (D × D)} {raw : List (NestedKey × Addr × Value)} {i : Nat} {p : D × D}, Ents G H ks raw → ks[i]? = some p → ∃ a u, raw[i]? = some (toKey p.1, a, u) ∧ Den G H p.1 (.ref a)
  | [], raw, i, p, _, e => by simp at e
  | x :: ks, raw, 0, p, h, e => by
    obtain ⟨a, u, y, r, rfl, k, d1, _, _, q⟩ := ents_cons.mp h
    have e2 : x = p := by simpa using e
    subst e2
    exact ⟨a, u, rfl, d1⟩
  | x :: ks, raw, i + 1, p, h, e => by
    obtain ⟨a, u, y, r, rfl, k, d1, _, _, q⟩ := ents_cons.mp h
    obtain ⟨b, w, h1, h2⟩ := ents_get (i := i) (p := p) q (by simpa using e)
    exact ⟨b, w, by simpa using h1, h2⟩
theorem wb_keys {G : Gd} {H2 : Hp} {d : Addr} {raw : Raw} {ks : List (D × D)} (h : Rd H2 d (dicH G d raw)) (en : Ents G H2 ks raw.1) : WB G (ItN G d raw) (ks.map (·.1)) H2 := by
  have hl := ents_len en
  refine ⟨fun i x hx => ?_, h, by rw [List.length_map, hl]; exact Nat.le_refl _⟩
  rw [List.getElem?_map] at hx
  obtain ⟨p, hp, rfl⟩ := Option.map_eq_some_iff.mp hx
  obtain ⟨b, u, h1, h2⟩ := ents_get en hp
  refine ⟨⟨h, (List.getElem?_eq_some_iff.mp h1).1⟩, fun v H3 ⟨e2, k, q, w, y, z⟩ => ?_⟩
  subst e2 z
  rw [h1] at y
  cases y
  exact ⟨Same.refl _, h2⟩
theorem ji_keys (ha : JE X C H0 a fa) : JI X C H0 tg a (iKeys fa) := PI.weak (pi_keysN (C := C) ha) fun σ H Rr ⟨e, xs, R, hz, q⟩ => by
  unfold iKeys at hz
  split at hz
  · rename_i ks hr
    cases hz
    refine ⟨e, _, R, hr, fun v H1 s1 r1 => ?_⟩
    obtain ⟨l, raw, o, e1, h1, h2⟩ := r_dict r1
    exact ⟨l, raw, e1, .inr ⟨o, h1⟩, q _ H1 s1 fun H2 s2 s0 => wb_keys (.inr ⟨o, s2 _ _ h1 trivial⟩) (h2.stab s2)⟩
  · rename_i ks hr
    cases hz
    refine ⟨e, _, R, hr, fun v H1 s1 r1 => ?_⟩
    obtain ⟨l, raw, e1, w, h1, h2⟩ := r1
    exact ⟨l, raw, e1, Rd.stay w h1, q _ H1 s1 fun H2 s2 s0 => wb_keys (Rd.stay s0 h1) (h2.stab s2)⟩
  · cases hz
theorem jc_keys (ha : JE X C H0 a fa) : JC X C H0 tg a (iKeysC fa) := PI.weak (pi_keysN (C := C) ha) fun σ H Rr ⟨e, xs, R, hz, q⟩ => by
  have key : ∀ {r : RV} {ks : List (D × D)}, fa e = some r → r.dic = some ks → xs = ks.map (·.1) → tJ (gd X C) H0 fa σ H fun x H1 => ∃ d raw, x = .ref d ∧ Rd H1 d (dicH (gd X C) d raw) ∧ Rr (ItN (gd X C) d raw) H1 := by
    intro r ks hr hd hxs
    subst hxs
    refine ⟨e, r, R, hr, fun v H1 s1 r1 => ?_⟩
    obtain ⟨l, raw, e1, h1, h2⟩ := r_dic r1 hd
    exact ⟨l, raw, e1, h1, q _ H1 s1 fun H2 s2 => wb_keys (Rd.stay s2 h1) (h2.stab (FS.Same.stab s2))⟩
  unfold iKeysC at hz
  split at hz
  · rename_i ks hr
    exact key hr rfl (Option.some.inj hz).symm
  · rename_i ks hr
    exact key hr rfl (Option.some.inj hz).symm
  · rename_i ks hr
    exact key hr rfl (Option.some.inj hz).symm
  · cases hz

/-! ### len(d) -/
def rLenN (G : Gd) : List V → Hp → VK → Prop := fun xs H Q => ∃ a raw, xs = [.ref a] ∧ Rd H a (dicH G a raw) ∧ (∃ ks, Ents G H ks raw.1) ∧ Q (.int raw.1.length) H
theorem call_lenN : CallR X (.builtin "len") (rLenN (gd X C)) := by
  intro pn s σ H xs us Q I r h
  obtain ⟨a, raw, e, hr, ⟨ks, en⟩, q⟩ := h
  subst e
  obtain ⟨u, e, ru⟩ := vals1 r
  subst e
  cases ru
  obtain ⟨h0, h1, h2⟩ := raw_of I hr en
  have hk : s.heap.DictKeyed (nestedKind X.prog X.w) a (pairsH raw.1) := ⟨raw.1, h2, rfl⟩
  refine PyProof.Rows.call_len_slot (n := (pairsH raw.1).length) hk.typeIs F.slot_dict_len (fun Q' hq => len_keyed h1 hk hq) (by omega) (by rw [pairsH_length]; rw [sizeLine_eq] at h0; omega) ?_
  rw [pairsH_length]
  exact ⟨.int raw.1.length, H, I.tok _, ⟨_, rfl⟩, q⟩
theorem c_lenN {G : Gd} : Cal1 G (rLenN G) fLenD := by
  intro H0 Ha H x z v r h Q q
  unfold fLenD at h
  split at h
  · rename_i ks hd
    cases h
    obtain ⟨a, raw, e1, h1, h2⟩ := r_dic r hd
    exact ⟨a, raw, by rw [e1], h1, ⟨ks, h2⟩, by rw [ents_len h2]; exact q _ H (Same.refl H) q_int⟩
  · cases h
theorem je_lenD {p pos : Pos} (hg : Gl X "len") (hm : X.mg "len" = none) (ha : JE X C H0 a fa) (h1 : St1 X a := by rfl) : JE X C H0 (.Call (.Name "len" p) [a] [] pos) (eUn fLenD fa) := je_b1 (call_lenN (C := C)) (c_lenN (G := gd X C)) hg hm PySem.boot_len ha h1
end
end FS
set_option Elab.async false
set_option linter.all false
set_option maxRecDepth 100000
set_option maxHeartbeats 4000000
set_option autoImplicit false
namespace FS
open PySem L2 PyProof.Rows PySem.Spec

section
variable {X : Cx} {C : Addr} {H0 : Hp} {a : Expr} {fa : EF} {pos : Pos}
/-- x.f, a field that stays -/
theorem je_fld {f : Str} (hc : Cls X.K C) (hn : NoAttr X.K C f) (ha : JE X C H0 a fa) (hb : attributeBase a f X.env (eval a X.env) = eval a X.env := by rfl) : JE X C H0 (.Attribute a f pos) (eFld fa f) :=
  PE.weak (pe_fld ha hb) fun σ H Q ⟨en, z, R, h, q⟩ => by
    unfold eFld at h
    split at h
    · rename_i fs hr
      obtain ⟨d, hl, hz⟩ := Option.map_eq_some_iff.mp h
      subst hz
      refine ⟨en, .obj fs, R, hr, fun v H1 s1 r1 => ?_⟩
      obtain ⟨l, dx, gs, e1, k, hf⟩ := r1
      obtain ⟨x, hx, dd⟩ := hf.2 f d hl
      exact ⟨l, C, dx, gs, x, e1, k, hc, hn, hx, q x H1 s1 dd⟩
    · cases h
variable {o e : Expr} {es : List Expr} {fo : EF} {ra : AF} {apos : Pos}
/-- self.m(..) -/
theorem je_meth {CX : CXT} {k n : Nat} {f : Addr} {fd : FuncData} {ps : List Str} {F : FF} {E : XK} {m : Str} {pl : Sem Bool} (hc : Cls X.K C) (hm : Meth X.K C m f) (G : FnOk X.prog X.w X.K X.mg X.base CX k f fd ps (spF (gd X C) n F)) (hr : Room k X.A)
    (hb : Binds X.K fd ps []) (hx : Passes CX X E) (hA : Ar n F) (ho : JE X C H0 o fo) (ha : JA X C H0 (e :: es) ra) (hmf : m ∉ carryF := by decide)
    (hst : starEach (e :: es) X.env = (false, eval e X.env) :: starEach es X.env := by rfl) (hpl : (backTo pos (starEach es X.env)).any (·.1) = false := by rfl)
    (ht : eval (.Call (.Attribute o m apos) (e :: es) [] pos) X.env = (do
      let ov ← eval o X.env
      standAt apos.atName
      let (f, first) ← holding [ov] (getMethod ov m pl)
      callWith pos f first (backTo pos (starEach (e :: es) X.env)) (backToKw pos (keywordEach [] X.env))) := by rfl) :
    JE X C H0 (.Call (.Attribute o m apos) (e :: es) [] pos) (eMeth F fo ra) :=
  PE.weak (pe_meth (dvs := []) ho hc hm G hr hb .nil hx ha hst hpl ht) fun σ H Q ⟨en, z, R, h, q⟩ => by
    unfold eMeth at h
    split at h
    · rename_i fs hfo
      split at h
      · rename_i rs hrs
        split at h
        · rename_i as has
          refine ⟨en, .obj fs, R, hfo, fun v H1 s1 r1 => ?_⟩
          obtain ⟨l, dx, gs, e1, k1, hf⟩ := id r1
          refine ⟨l, dx, gs, e1, k1, hf.1 m hmf, en, rs, R.go s1, hrs, fun vs H2 s2 r2 => ?_⟩
          have z1 := (hA _ z h).1
          refine ⟨?_, .obj fs :: as, z, ⟨v, vs ++ [], rfl, ⟨r1.same s2, rfl⟩, by rw [List.append_nil]; exact argsOk_of has r2⟩, h, fun w H3 s3 r3 => q w H3 ((s1.trans s2).trans s3) (isRet_move (hA _ z h).2 (r3.back (s1.trans s2)))⟩
          rw [List.append_nil, List.length_cons, resL_len r2, ← argsOf_len has]
          exact z1
        · cases h
      · cases h
    · cases h
end

/-! ### a block whose end is proved by hand -/
def tJK (G : Gd) (H0 : Hp) (W : List Nat) (f : SF) (T : TS) : TS := fun D σ H => ∃ e e', Rel G H0 e σ H ∧ f e = some (.nx e') ∧ ∀ σ' H', Rel G H0 e' σ' H' → Far W σ σ' → Stab H H' → T D σ' H'
abbrev JK (X : Cx) (C : Addr) (H0 : Hp) (W : List Nat) (b : List Stmt) (f : SF) (T : TS) : Prop := PSs X b (tJK (gd X C) H0 W f T)
section
variable {X : Cx} {C : Addr} {H0 : Hp} {W W1 W2 : List Nat} {st : Stmt} {sts : List Stmt} {f g : SF} {T : TS}
theorem jk_end (h : PSs X sts T) : JK X C H0 [] sts sNil T := PSs.weak h fun D σ H ⟨e, e', R, h, q⟩ => by
  cases h
  exact q σ H R (Far.refl _ _) (Stab.refl H)
theorem jk_cons (h1 : JS X C H0 W1 st f) (h2 : JK X C H0 W2 sts g T) : JK X C H0 (W1 ++ W2) (st :: sts) (sSeq f g) T := PSs.weak (pss_cons h1 h2) fun D σ H ⟨e, e', R, h, q⟩ => by
  unfold sSeq at h
  split at h
  · rename_i e1 he
    refine ⟨e, .nx e1, R, he, fun σ1 H1 R1 fr s => ⟨e1, e', R1, h, fun σ2 H2 R2 fr2 s2 => q σ2 H2 R2 (fr.trans fr2) (s.trans s2)⟩⟩
  · rename_i hn
    exact absurd h (hn e')
end

section
variable {X : Cx} {C : Addr} {H0 : Hp} {W : List Nat} {sts : List Stmt} {f : SF} {T : TS}
theorem jk_lock (i : Nat) (h : JK X C H0 W sts f T) : JK X C H0 W sts (sLock i f) T := by
  constructor
  intro pn s σ H D I ⟨e, o, R, hf, q⟩
  unfold sLock at hf
  split at hf
  · rename_i xs hx
    obtain ⟨l, vs, h1, h2, h3, h4⟩ := R.ownAt hx
    obtain ⟨od, I2⟩ := I.lock h3 trivial
    have st := Stab.upd (o := .frz od (.lst vs)) h3
    exact h.run pn s σ _ D I2 ⟨_, o, R.chg (c' := .d (.list xs)) hx rfl h1 h2 st (den_lstF upd_same (h4.stab st)), hf, fun σ' H' R' fr s' => q σ' H' R' fr (st.trans s')⟩
  · rename_i ks hx
    obtain ⟨l, raw, h1, h2, h3, h4⟩ := R.owdAt hx
    obtain ⟨od, I2⟩ := I.lock h3 trivial
    have st := Stab.updX (o := .frz od (dicH (gd X C) l raw)) h3
    exact h.run pn s σ _ D I2 ⟨_, o, R.chg (c' := .d (.dict ks)) hx rfl h1 h2 st (den_dict.mpr ⟨l, raw, od, rfl, upd_same, h4.stab st⟩), hf, fun σ' H' R' fr s' => q σ' H' R' fr (st.trans s')⟩
  · cases hf
end
/-- x.f.append(y), x in slot i, y in slot j -/
def tFApp (K : PySem.W.Frag) (i j : Nat) (f : Str) : TS := tDrop (tBM K "list" rAppend (tFld K (tVar i) f) (tCons (tVar j) tNil))
theorem fapp_run {K : PySem.W.Frag} {C x dx l : Addr} {gs : List (Str × V)} {i j : Nat} {f : Str} {vs : List V} {v : V} {D : Ends} {σ : L2.St} {H : Hp} (hc : Cls K C) (hn : NoAttr K C f) (h0 : σ[i]? = some (some (.ref x))) (hx : H x = some (.ins C dx gs))
    (hl : gs.lookup f = some (.ref l)) (hls : H l = some (.lst vs)) (hz : vs.length < sizeLine) (hj : σ[j]? = some (some v)) (q : D.nx σ (upd H l (.lst (vs ++ [v])))) : tFApp K i j f D σ H :=
  ⟨_, h0, x, C, dx, gs, _, rfl, hx, hc, hn, hl, ty_own hls, v, hj, l, vs, v, rfl, rfl, hls, hz, q⟩
end FS
set_option Elab.async false
set_option linter.all false
set_option maxRecDepth 100000
set_option maxHeartbeats 4000000
set_option autoImplicit false
namespace FS
open PySem L2 PyProof.Rows PySem.Spec

/-- the instance at x while it is filled: what stays, and its two lists -/
structure Filled (G : Gd) (H : Hp) (x : Addr) (fs : List (Str × D)) (lf ln : Addr) (vs ws : List V) : Prop where
  ins : ∃ dx gs, H x = some (.ins G.C dx gs) ∧ ObjF G H fs gs ∧ gs.lookup ("firsts" : Str) = some (.ref lf) ∧ gs.lookup ("numbers" : Str) = some (.ref ln)
  ne : lf ≠ ln
  f : H lf = some (.lst vs)
  n : H ln = some (.lst ws)
def spLay (G : Gd) (lay : List (Str × D) → D → Option (D × D)) : Sp := fun args H Q _ => ∃ x kv kd fs lf ln vs ws p, args = [.ref x, kv] ∧ Filled G H x fs lf ln vs ws ∧ Den G H kd kv ∧ vs.length ≤ 1000 ∧ ws.length ≤ 1000 ∧ lay fs kd = some p ∧
  ∀ v1 v2 H', (∀ a o, a ≠ lf → a ≠ ln → H a = some o → H' a = some o) → Filled G H' x fs lf ln (vs ++ [v1]) (ws ++ [v2]) → Den G H' p.1 v1 → Den G H' p.2 v2 → Q .non H'
theorem stab_but {H H' : Hp} {lf ln : Addr} {vs ws : List V} (hf : H lf = some (.lst vs)) (hn : H ln = some (.lst ws)) (h : ∀ a o, a ≠ lf → a ≠ ln → H a = some o → H' a = some o) : Stab H H' := fun a o e k => by
  refine h a o ?_ ?_ e
  · intro z; subst z; rw [hf] at e; cases e; exact k
  · intro z; subst z; rw [hn] at e; cases e; exact k
theorem start_0 {N : List Str} {v : V} {vs : List V} : (L2.start N (v :: vs))[0]? = some (some v) := by
  unfold L2.start
  rfl
theorem lay_ok {P : Program} {w : World} {K : PySem.W.Frag} {mg : Str → Option Value} {base : Heap} {x qual : Str} {st : Stmt} {f : Addr} {fd : FuncData} {N ps : List Str} {k : Nat} {C : Addr} {W : List Nat} {b : SF} {m i j : Nat} (F : Fun K x qual st f fd) (S : FnScope N ps (defScope st)) (hm : N.length = m) (hn : ps.length = 2)
    (hc : Cls K C) (n1 : NoAttr K C "firsts") (n2 : NoAttr K C "numbers") (h0 : 0 ∉ W)
    (hb : ∀ (cdv : Value) (A : Around) (outer : List PySem.Env) (s : Shared) (H : Hp) (E : XK), Room k (A.deeper (envOfC qual (defScope st) s.heap.objs.size f cdv)) →
      JK (cxOf CX0 P w K mg base N qual (defScope st) f cdv A outer s H E).nox C H W (defBody st) b (tSeq (tFApp K 0 i "firsts") (tSeq (tFApp K 0 j "numbers") tNext))) :
    FnOk P w K mg base CX0 (k + 1) f fd ps (spLay ⟨P, w, K, C⟩ (layF m i j b)) := by
  refine F.ok S (fun args H Q E h => by obtain ⟨x, kv, _, _, _, _, _, _, _, e, _⟩ := h; rw [hn, e]; rfl) fun cdv A outer s H args Q E hr h => ?_
  obtain ⟨x, kv, kd, fs, lf, ln, vs, ws, p, rfl, hF, dk, hv, hw, hl, q⟩ := h
  refine ⟨_, hb cdv A outer s H E hr, ?_⟩
  obtain ⟨dx, gs, g1, g2, g3, g4⟩ := hF.ins
  have hA : ArgsOk ⟨P, w, K, C⟩ H [.obj fs, .d kd] [.ref x, kv] := ⟨_, _, rfl, ⟨⟨x, dx, gs, rfl, g1, g2⟩, rfl⟩, _, _, rfl, ⟨dk, rfl⟩, rfl⟩
  have R := rel_start (N := N) hA
  unfold layF at hl
  rw [← hm] at hl
  split at hl
  · rename_i e' he'
    split at hl
    · rename_i y1 hy1
      split at hl
      · rename_i y2 hy2
        cases hl
        refine ⟨_, e', R, he', fun σ' H' R' fr st' => ?_⟩
        obtain ⟨v1, s1, d1⟩ := R'.read hy1
        obtain ⟨v2, s2, d2⟩ := R'.read hy2
        have d1 : Den ⟨P, w, K, C⟩ H' y1 v1 := d1
        have d2 : Den ⟨P, w, K, C⟩ H' y2 v2 := d2
        have z0 : σ'[0]? = some (some (.ref x)) := by
          rw [fr 0 h0]
          exact start_0
        have hx' := R'.same _ _ g1
        have kf := R'.same _ _ hF.f
        have kn := R'.same _ _ hF.n
        have hsz : ∀ {l : List V}, l.length ≤ 1000 → l.length < sizeLine := fun h => by rw [sizeLine_eq]; omega
        have xf : x ≠ lf := fun z => by rw [z, hF.f] at g1; cases g1
        have xn : x ≠ ln := fun z => by rw [z, hF.n] at g1; cases g1
        refine fapp_run hc n1 z0 hx' g3 kf (hsz hv) s1 ?_
        refine fapp_run hc n2 z0 (by rw [upd_ne xf]; exact hx') g4 (by rw [upd_ne (Ne.symm hF.ne)]; exact kn) (hsz hw) s2 ?_
        have but : ∀ a o, a ≠ lf → a ≠ ln → H' a = some o → upd (upd H' lf (.lst (vs ++ [v1]))) ln (.lst (ws ++ [v2])) a = some o := fun a o ha hb e => by
          rw [upd_ne hb, upd_ne ha]
          exact e
        have st2 := stab_but kf kn but
        refine q v1 v2 _ (fun a o ha hb e => but a o ha hb (R'.same a o e)) ?_ (d1.stab st2) (d2.stab st2)
        refine ⟨⟨dx, gs, but _ _ xf xn hx', objs_stab (st'.trans st2) g2, g3, g4⟩, hF.ne, ?_, upd_same⟩
        rw [upd_ne hF.ne]
        exact upd_same
      · cases hl
    · cases hl
  · cases hl

/-! ### data stays, whatever becomes of instances -/
def Keep (H H' : Hp) : Prop := ∀ a o, H a = some o → (match o with | .tup _ => True | .frz _ _ => True | _ => False) → H' a = some o
theorem Stab.keep {H H' : Hp} (s : Stab H H') : Keep H H' := fun a o e k => s a o e (by cases o <;> first | trivial | exact k)
theorem Keep.trans {H H1 H2 : Hp} (a : Keep H H1) (b : Keep H1 H2) : Keep H H2 := fun c o e f => b c o (a c o e f) f
theorem Keep.sqT {K : PySem.W.Frag} {H H' : Hp} {a : Addr} {xs : List V} (s : Keep H H') (h : SqT K H a xs) : SqT K H' a xs := by
  rcases h with (h | ⟨o, h⟩) | h
  · exact .inl (.inl (s _ _ h trivial))
  · exact .inl (.inr ⟨o, s _ _ h trivial⟩)
  · exact .inr h
mutual
theorem Den.keep {G : Gd} {H H' : Hp} (s : Keep H H') : ∀ (d : D) (v : V), Den G H d v → Den G H' d v
  | .none, _, h => by simpa [Den] using h
  | .bool _, _, h => by simpa [Den] using h
  | .int _, _, h => by simpa [Den] using h
  | .str _, _, h => by simpa [Den] using h
  | .tuple ds, v, h => by
    unfold Den at h ⊢
    obtain ⟨a, vs, e, q, r⟩ := h
    exact ⟨a, vs, e, s.sqT q, Dens.keep s ds vs r⟩
  | .list ds, v, h => by
    unfold Den at h ⊢
    obtain ⟨a, vs, o, e, q, r⟩ := h
    exact ⟨a, vs, o, e, s _ _ q trivial, Dens.keep s ds vs r⟩
  | .dict ks, v, h => by
    unfold Den at h ⊢
    obtain ⟨a, raw, o, e, q, r⟩ := h
    exact ⟨a, raw, o, e, s _ _ q trivial, Ents.keep s ks raw.1 r⟩
theorem Dens.keep {G : Gd} {H H' : Hp} (s : Keep H H') : ∀ (ds : List D) (vs : List V), Dens G H ds vs → Dens G H' ds vs
  | [], _, h => by simpa [Dens] using h
  | d :: ds, vs, h => by
    unfold Dens at h ⊢
    obtain ⟨v, r, e, q1, q2⟩ := h
    exact ⟨v, r, e, Den.keep s d v q1, Dens.keep s ds r q2⟩
theorem Ents.keep {G : Gd} {H H' : Hp} (s : Keep H H') : ∀ (ks : List (D × D)) (raw : List (NestedKey × Addr × Value)), Ents G H ks raw → Ents G H' ks raw
  | [], _, h => by simpa [Ents] using h
  | p :: ks, raw, h => by
    unfold Ents at h ⊢
    obtain ⟨a, u, x, r, e, k, q1, q2, q3, q4⟩ := h
    exact ⟨a, u, x, r, e, k, Den.keep s p.1 _ q1, q2, Den.keep s p.2 x q3, Ents.keep s ks r q4⟩
end
theorem laysF_at {lay : D → Option (D × D)} : ∀ {ks : List D} {p : List D × List D}, laysF lay ks = some p → p.1.length = ks.length ∧ p.2.length = ks.length ∧ ∀ (i : Nat) (k : D), ks[i]? = some k → ∃ y z, lay k = some (y, z) ∧ p.1[i]? = some y ∧ p.2[i]? = some z
  | [], p, h => by cases h; exact ⟨rfl, rfl, fun i k e => by simp at e⟩
  | k :: ks, p, h => by
    unfold laysF at h
    split at h
    · rename_i u hu
      split at h
      · rename_i q hq
        cases h
        obtain ⟨l1, l2, l3⟩ := laysF_at hq
        refine ⟨by simp [l1], by simp [l2], fun i x e => ?_⟩
        cases i with
        | zero =>
          have e : k = x := by simpa using e
          subst e
          exact ⟨u.1, u.2, hu, rfl, rfl⟩
        | succ i =>
          obtain ⟨y, z, a, b, c⟩ := l3 i x (by simpa using e)
          exact ⟨y, z, a, by simpa using b, by simpa using c⟩
      · cases h
    · cases h
theorem take_one {α : Type} {l : List α} {i : Nat} {x : α} (h : l[i]? = some x) : l.take (i + 1) = l.take i ++ [x] := by
  rw [List.take_add_one, h]
  rfl
/-- what __init__ promises -/
def spInit (G : Gd) (lay : List (Str × D) → D → Option (D × D)) : Sp := fun args H Q _ => ∃ x va vb vc vd a n bs c d p dx, args = [.ref x, va, vb, vc, vd] ∧ H x = some (.ins G.C dx []) ∧
  Den G H a va ∧ Den G H (.tuple (.int n :: bs)) vb ∧ Den G H c vc ∧ Den G H d vd ∧ 0 ≤ n ∧ n ≤ 1000 ∧ laysF (lay (fs4 a (.tuple (.int n :: bs)) c d)) (upTo 0 n.toNat) = some p ∧
  ∀ lf ln vs ws H', H lf = none → H ln = none → (∀ a o, a ≠ x → H a = some o → H' a = some o) → Filled G H' x (fs4 a (.tuple (.int n :: bs)) c d) lf ln vs ws → Dens G H' p.1 vs → Dens G H' p.2 ws → Q .non H'
def fV (va vb vc vd l1 l2 : V) : List (Str × V) := putF "numbers" l2 (putF "firsts" l1 (putF "book" vd (putF "shift" vc (putF "target" vb (putF "source" va [])))))
theorem fV_look (va vb vc vd l1 l2 : V) (g : Str) : (fV va vb vc vd l1 l2).lookup g = if g = "numbers" then some l2 else if g = "firsts" then some l1 else if g = "book" then some vd else if g = "shift" then some vc else if g = "target" then some vb else if g = "source" then some va else none := by
  unfold fV
  rw [lookup_putF, lookup_putF, lookup_putF, lookup_putF, lookup_putF, lookup_putF]
  rfl
theorem putF_len {f : Str} {v : V} : ∀ {fs : List (Str × V)}, (putF f v fs).length ≤ fs.length + 1
  | [] => Nat.le_refl _
  | (g, x) :: r => by
    unfold putF
    split
    · exact Nat.le_succ _
    · exact Nat.succ_le_succ (putF_len (fs := r))
theorem fs_len {fs : List (Str × V)} {n : Nat} (h : fs.length ≤ n) (hn : n < 1000) : fs.length < 1000 := Nat.lt_of_le_of_lt h hn
theorem lookup_pair {α : Type} {g f : Str} {x : α} {r : List (Str × α)} : List.lookup g ((f, x) :: r) = if g = f then some x else r.lookup g := by
  rw [List.lookup_cons]
  by_cases h : g = f
  · subst h; simp
  · have : (g == f) = false := by simpa using h
    rw [this, if_neg h]
theorem objF_fV {G : Gd} {H : Hp} {a b c d : D} {va vb vc vd l1 l2 : V} (da : Den G H a va) (db : Den G H b vb) (dc : Den G H c vc) (dd : Den G H d vd) : ObjF G H (fs4 a b c d) (fV va vb vc vd l1 l2) := by
  refine ⟨fun f hf => ?_, fun f x hx => ?_⟩
  · unfold carryF at hf
    simp only [List.mem_cons, List.not_mem_nil, or_false, not_or] at hf
    obtain ⟨h1, h2, h3, h4, h5, h6⟩ := hf
    rw [fV_look, if_neg h6, if_neg h5, if_neg h4, if_neg h3, if_neg h2, if_neg h1]
  · rw [fV_look]
    unfold fs4 at hx
    simp only [lookup_pair, List.lookup_nil] at hx
    split at hx
    · rename_i h; subst h; cases hx
      rw [if_neg (by decide +kernel), if_neg (by decide +kernel), if_neg (by decide +kernel), if_neg (by decide +kernel), if_neg (by decide +kernel), if_pos rfl]
      exact ⟨_, rfl, da⟩
    · split at hx
      · rename_i h; subst h; cases hx
        rw [if_neg (by decide +kernel), if_neg (by decide +kernel), if_neg (by decide +kernel), if_neg (by decide +kernel), if_pos rfl]
        exact ⟨_, rfl, db⟩
      · split at hx
        · rename_i h; subst h; cases hx
          rw [if_neg (by decide +kernel), if_neg (by decide +kernel), if_neg (by decide +kernel), if_pos rfl]
          exact ⟨_, rfl, dc⟩
        · split at hx
          · rename_i h; subst h; cases hx
            rw [if_neg (by decide +kernel), if_neg (by decide +kernel), if_pos rfl]
            exact ⟨_, rfl, dd⟩
          · cases hx
theorem objF_six {G : Gd} {H : Hp} {a b c d y z : D} {gs : List (Str × V)} {l1 l2 : V} (h : ObjF G H (fs4 a b c d) gs) (h1 : gs.lookup ("firsts" : Str) = some l1) (h2 : gs.lookup ("numbers" : Str) = some l2) (dy : Den G H y l1) (dz : Den G H z l2) : ObjF G H (fs6 a b c d y z) gs := by
  refine ⟨h.1, fun f x hx => ?_⟩
  have h4 := h.2 f
  unfold fs4 at h4
  unfold fs6 at hx
  simp only [lookup_pair, List.lookup_nil] at hx h4
  by_cases e1 : f = "source"
  · rw [if_pos e1] at hx h4; exact h4 x hx
  · rw [if_neg e1] at hx h4
    by_cases e2 : f = "target"
    · rw [if_pos e2] at hx h4; exact h4 x hx
    · rw [if_neg e2] at hx h4
      by_cases e3 : f = "shift"
      · rw [if_pos e3] at hx h4; exact h4 x hx
      · rw [if_neg e3] at hx h4
        by_cases e4 : f = "book"
        · rw [if_pos e4] at hx h4; exact h4 x hx
        · rw [if_neg e4] at hx
          by_cases e5 : f = "firsts"
          · rw [if_pos e5] at hx; cases hx; subst e5; exact ⟨_, h1, dy⟩
          · rw [if_neg e5] at hx
            by_cases e6 : f = "numbers"
            · rw [if_pos e6] at hx; cases hx; subst e6; exact ⟨_, h2, dz⟩
            · rw [if_neg e6] at hx; cases hx
theorem upTo_get {n i : Nat} {k : D} (h : (upTo 0 n)[i]? = some k) : i < n := by
  have := (List.getElem?_eq_some_iff.mp h).1
  simpa [upTo] using this
theorem upTo_at {n i : Nat} (h : i < n) : (upTo 0 n)[i]? = some (.int (i : Int)) := by
  simp [upTo, h]
theorem upTo_len {n : Nat} : (upTo 0 n).length = n := by simp [upTo]
abbrev initArgs : List Str := ["self", "source", "target", "shift", "book"]
/-- the body of __init__ -/
theorem init_ok {P : Program} {w : World} {K : PySem.W.Frag} {mg : Str → Option Value} {base : Heap} {x qual : Str} {st : Stmt} {f : Addr} {fd : FuncData} {N : List Str} {k : Nat} {C : Addr} {lay : List (Str × D) → D → Option (D × D)}
    (F : Fun K x qual st f fd) (S : FnScope N initArgs (defScope st)) (hN : N.length = 6) (hc : Cls K C) (n1 : NoAttr K C "source") (n2 : NoAttr K C "target") (n3 : NoAttr K C "shift") (n4 : NoAttr K C "book") (n5 : NoAttr K C "firsts") (n6 : NoAttr K C "numbers")
    (hb : ∀ (cdv : Value) (A : Around) (outer : List PySem.Env) (s : Shared) (H : Hp) (E : XK), Room k (A.deeper (envOfC qual (defScope st) s.heap.objs.size f cdv)) →
      PSs (cxOf CX0 P w K mg base N qual (defScope st) f cdv A outer s H E).nox (defBody st)
        (tSeq (sFld K (tVar 0) (tVar 1) "source") (tSeq (sFld K (tVar 0) (tVar 2) "target") (tSeq (sFld K (tVar 0) (tVar 3) "shift") (tSeq (sFld K (tVar 0) (tVar 4) "book") (tSeq (sFld K (tVar 0) (tLst tNil) "firsts") (tSeq (sFld K (tVar 0) (tLst tNil) "numbers")
          (tFor (tJI ⟨P, w, K, C⟩ (fun _ => none) (iRange (eBin opIx (eVar 2) (eC (.int 0))))) (gName 5) (tDrop (tMeth C "lay" (spLay ⟨P, w, K, C⟩ lay) [] E (tVar 0) (tCons (tVar 5) tNil))))))))))) :
    FnOk P w K mg base CX0 (k + 1) f fd initArgs (spInit ⟨P, w, K, C⟩ lay) := by
  refine F.ok S (fun args H Q E h => by obtain ⟨x, va, vb, vc, vd, _, _, _, _, _, _, _, e, _⟩ := h; rw [e]; rfl) fun cdv A outer s H args Q E hr h => ?_
  obtain ⟨x, va, vb, vc, vd, a, n, bs, c, d, p, dx, rfl, hx, da, db, dc, dd, hn0, hn1, hl, q⟩ := h
  refine ⟨_, hb cdv A outer s H E hr, ?_⟩
  obtain ⟨N6, hN6⟩ : ∃ r : List (Option V), L2.start N [.ref x, va, vb, vc, vd] = some (.ref x) :: some va :: some vb :: some vc :: some vd :: r := ⟨_, rfl⟩
  have hr6 : N6.length = 1 := by
    have := congrArg List.length hN6
    unfold L2.start at this
    simp [hN] at this
    omega
  obtain ⟨r6, rfl⟩ : ∃ z, N6 = [z] := List.length_eq_one_iff.mp hr6
  rw [hN6]
  have l1 := putF_len (f := "source") (v := va) (fs := [])
  have l2 := putF_len (f := "target") (v := vb) (fs := putF "source" va [])
  have l3 := putF_len (f := "shift") (v := vc) (fs := putF "target" vb (putF "source" va []))
  have l4 := putF_len (f := "book") (v := vd) (fs := putF "shift" vc (putF "target" vb (putF "source" va [])))
  simp only [List.length_nil] at l1
  refine ⟨va, rfl, _, rfl, x, C, dx, [], rfl, hx, hc, n1, (by show 0 < 1000; decide), ?_⟩
  refine ⟨vb, rfl, _, rfl, x, C, dx, _, rfl, upd_same, hc, n2, (by omega), ?_⟩
  refine ⟨vc, rfl, _, rfl, x, C, dx, _, rfl, upd_same, hc, n3, (by omega), ?_⟩
  refine ⟨vd, rfl, _, rfl, x, C, dx, _, rfl, upd_same, hc, n4, (by omega), ?_⟩
  generalize hg4 : putF "book" vd (putF "shift" vc (putF "target" vb (putF "source" va []))) = g4 at *
  have k4 : ∀ b o, b ≠ x → H b = o → upd (upd (upd (upd H x (.ins C dx (putF "source" va []))) x (.ins C dx (putF "target" vb (putF "source" va [])))) x (.ins C dx (putF "shift" vc (putF "target" vb (putF "source" va []))))) x (.ins C dx g4) b = o := fun b o hb e => by
    rw [upd_ne hb, upd_ne hb, upd_ne hb, upd_ne hb]
    exact e
  have x4 : upd (upd (upd (upd H x (.ins C dx (putF "source" va []))) x (.ins C dx (putF "target" vb (putF "source" va [])))) x (.ins C dx (putF "shift" vc (putF "target" vb (putF "source" va []))))) x (.ins C dx g4) x = some (.ins C dx g4) := upd_same
  generalize upd (upd (upd (upd H x (.ins C dx (putF "source" va []))) x (.ins C dx (putF "target" vb (putF "source" va [])))) x (.ins C dx (putF "shift" vc (putF "target" vb (putF "source" va []))))) x (.ins C dx g4) = H4 at *
  refine ⟨Nat.zero_le _, fun lf hlf => ?_⟩
  have xlf : x ≠ lf := ne_of_none x4 hlf
  refine ⟨_, rfl, x, C, dx, g4, rfl, (by rw [upd_ne xlf]; exact x4), hc, n5, (by omega), ?_⟩
  have l5 := putF_len (f := "firsts") (v := V.ref lf) (fs := g4)
  refine ⟨Nat.zero_le _, fun ln hln => ?_⟩
  have xln : x ≠ ln := ne_of_none upd_same hln
  have fln : lf ≠ ln := ne_of_none (by rw [upd_ne (Ne.symm xlf)]; exact upd_same) hln
  refine ⟨_, rfl, x, C, dx, putF "firsts" (.ref lf) g4, rfl, (by rw [upd_ne xln]; exact upd_same), hc, n6, (by omega), ?_⟩
  have e6 : putF "numbers" (.ref ln) (putF "firsts" (.ref lf) g4) = fV va vb vc vd (.ref lf) (.ref ln) := by rw [← hg4]; rfl
  rw [e6]
  have Hlf : H lf = none := by
    cases h : H lf with
    | none => rfl
    | some o => rw [k4 lf (some o) (Ne.symm xlf) h] at hlf; cases hlf
  have Hln : H ln = none := by
    cases h : H ln with
    | none => rfl
    | some o =>
      rw [upd_ne (Ne.symm xln), upd_ne (Ne.symm fln), k4 ln (some o) (Ne.symm xln) h] at hln
      cases hln
  have k6 : ∀ b o, b ≠ x → H b = some o → upd (upd (upd (upd H4 lf (.lst [])) x (.ins C dx (putF "firsts" (.ref lf) g4))) ln (.lst [])) x (.ins C dx (fV va vb vc vd (.ref lf) (.ref ln))) b = some o := fun b o hb e => by
    rw [upd_ne hb, upd_ne (ne_of_none e Hln), upd_ne hb, upd_ne (ne_of_none e Hlf)]
    exact k4 b _ hb e
  have f6 : upd (upd (upd (upd H4 lf (.lst [])) x (.ins C dx (putF "firsts" (.ref lf) g4))) ln (.lst [])) x (.ins C dx (fV va vb vc vd (.ref lf) (.ref ln))) lf = some (.lst []) := by
    rw [upd_ne (Ne.symm xlf), upd_ne fln, upd_ne (Ne.symm xlf)]
    exact upd_same
  have n6' : upd (upd (upd (upd H4 lf (.lst [])) x (.ins C dx (putF "firsts" (.ref lf) g4))) ln (.lst [])) x (.ins C dx (fV va vb vc vd (.ref lf) (.ref ln))) ln = some (.lst []) := by
    rw [upd_ne (Ne.symm xln)]
    exact upd_same
  have x6 : upd (upd (upd (upd H4 lf (.lst [])) x (.ins C dx (putF "firsts" (.ref lf) g4))) ln (.lst [])) x (.ins C dx (fV va vb vc vd (.ref lf) (.ref ln))) x = some (.ins C dx (fV va vb vc vd (.ref lf) (.ref ln))) := upd_same
  generalize upd (upd (upd (upd H4 lf (.lst [])) x (.ins C dx (putF "firsts" (.ref lf) g4))) ln (.lst [])) x (.ins C dx (fV va vb vc vd (.ref lf) (.ref ln))) = H6 at *
  have kp6 : Keep H H6 := fun b o e k => k6 b o (fun z => by rw [z, hx] at e; cases e; exact k) e
  have da6 := Den.keep kp6 _ _ da
  have db6 := Den.keep kp6 _ _ db
  have dc6 := Den.keep kp6 _ _ dc
  have dd6 := Den.keep kp6 _ _ dd
  have hat : atD (PyData.int n :: bs) 0 = some (.int n) := by
    unfold atD
    have : ixN (PyData.int n :: bs).length 0 = some 0 := by
      unfold ixN
      rw [if_pos (by omega), if_pos (by rw [List.length_cons]; omega)]
      rfl
    rw [this]
    rfl
  have hrng : rngOk n := ⟨by omega, by omega⟩
  have R6 : Rel ⟨P, w, K, C⟩ (fun _ => none) [none, none, some (.d (.tuple (.int n :: bs))), none, none, none] [some (.ref x), some va, some vb, some vc, some vd, r6] H6 := by
    refine ⟨(fun b o e => by cases e), rfl, fun i u e => ?_, fun i j u u' v _ e _ o1 _ _ _ => ?_⟩
    · rcases i with _ | _ | _ | _ | _ | _ | i <;> simp at e
      subst e
      exact ⟨vb, rfl, db6⟩
    · rcases i with _ | _ | _ | _ | _ | _ | i <;> simp at e
      subst e
      cases o1
  obtain ⟨p1, p2⟩ := p
  obtain ⟨pl1, pl2, pl3⟩ := laysF_at hl
  rw [upTo_len] at pl1 pl2
  have pl1 : p1.length = n.toNat := pl1
  have pl2 : p2.length = n.toNat := pl2
  refine ⟨_, upTo 0 n.toNat, R6, (by simp [opIx, hat, hrng]), fun J H7 s7 wk => ?_⟩
  have F7 : Filled ⟨P, w, K, C⟩ H7 x (fs4 a (.tuple (.int n :: bs)) c d) lf ln [] [] := by
    refine ⟨⟨dx, _, s7 _ _ x6, objs_stab (FS.Same.stab s7) (objF_fV da6 db6 dc6 dd6), ?_, ?_⟩, fln, s7 _ _ f6, s7 _ _ n6'⟩
    · rw [fV_look, if_neg (by decide +kernel), if_pos rfl]
    · rw [fV_look, if_pos rfl]
  refine ⟨fun i m σ' H' => m = n.toNat - i ∧ i ≤ n.toNat ∧ ∃ vs ws, Filled ⟨P, w, K, C⟩ H' x (fs4 a (.tuple (.int n :: bs)) c d) lf ln vs ws ∧ vs.length = i ∧ ws.length = i ∧ Dens ⟨P, w, K, C⟩ H' (p1.take i) vs ∧ Dens ⟨P, w, K, C⟩ H' (p2.take i) ws ∧
    σ'[0]? = some (some (.ref x)) ∧ σ'.length = 6 ∧ Stab H7 H' ∧ ∀ b o, b ≠ x → H b = some o → H' b = some o,
    ⟨n.toNat, by simp, Nat.zero_le _, [], [], F7, rfl, rfl, dens_nil.mpr rfl, dens_nil.mpr rfl, rfl, rfl, Stab.refl _, fun b o hb e => s7 _ _ (k6 b o hb e)⟩, ?_⟩
  rintro i m σ' H' ⟨rfl, hi, vs, ws, hF, hv, hw, dv, dw, h0, hl6, st', kp⟩
  obtain ⟨w1, w2⟩ := wk H' st' (fun b o e => by cases e)
  by_cases hlt : i < n.toNat
  · obtain ⟨g1, g2⟩ := w1 i _ (upTo_at hlt)
    refine .inr ⟨g1, fun σ3 H3 => ∃ vs ws, Filled ⟨P, w, K, C⟩ H3 x (fs4 a (.tuple (.int n :: bs)) c d) lf ln vs ws ∧ vs.length = i + 1 ∧ ws.length = i + 1 ∧ Dens ⟨P, w, K, C⟩ H3 (p1.take (i + 1)) vs ∧ Dens ⟨P, w, K, C⟩ H3 (p2.take (i + 1)) ws ∧
      σ3[0]? = some (some (.ref x)) ∧ σ3.length = 6 ∧ Stab H7 H3 ∧ ∀ b o, b ≠ x → H b = some o → H3 b = some o, fun σ3 H3 h => ⟨n.toNat - (i + 1), by omega, rfl, hlt, h⟩, fun v H3 hy => ?_⟩
    obtain ⟨s3, dv3⟩ := g2 v H3 hy
    obtain ⟨y, z, hlay, hy1, hz1⟩ := pl3 i _ (upTo_at hlt)
    obtain ⟨dx', gs, i1, i2, i3, i4⟩ := id hF.ins
    have sl0 : (σ'.set 5 (some v))[0]? = some (some (.ref x)) := by
      rw [List.getElem?_set_ne (by decide)]
      exact h0
    refine ⟨.ref x, sl0, x, dx', gs, rfl, s3 _ _ i1, i2.1 "lay" (by decide +kernel), v, List.getElem?_set_self (by omega), ?_⟩
    have F3 : Filled ⟨P, w, K, C⟩ H3 x (fs4 a (.tuple (.int n :: bs)) c d) lf ln vs ws := ⟨⟨dx', gs, s3 _ _ i1, objs_stab (FS.Same.stab s3) i2, i3, i4⟩, fln, s3 _ _ hF.f, s3 _ _ hF.n⟩
    refine ⟨x, v, _, _, lf, ln, vs, ws, (y, z), rfl, F3, dv3, by omega, by omega, hlay, fun v1 v2 H4 k4' F4 d1 d2 => ?_⟩
    have s34 := (FS.Same.stab s3).trans (stab_but F3.f F3.n k4')
    refine ⟨vs ++ [v1], ws ++ [v2], F4, by simp [hv], by simp [hw], ?_, ?_, sl0, by rw [List.length_set]; exact hl6, st'.trans s34, fun b o hb e => k4' b o (ne_of_none e Hlf) (ne_of_none e Hln) (s3 _ _ (kp b o hb e))⟩
    · rw [take_one hy1]
      exact (dv.stab s34).app (Dens.one d1)
    · rw [take_one hz1]
      exact (dw.stab s34).app (Dens.one d2)
  · have hi' : i = n.toNat := by omega
    subst hi'
    rw [upTo_len] at w2
    refine .inl ⟨w2, ?_⟩
    rw [List.take_of_length_le (by omega)] at dv dw
    exact q lf ln vs ws H' Hlf Hln kp hF dv dw

/-- C(..) -/
theorem je_make {X : Cx} {H0 : Hp} {e : Expr} {es : List Expr} {ra : AF} {pos p : Pos} {x : Str} {CX : CXT} {k : Nat} {f C : Addr} {fd : FuncData} {ps : List Str} {E : XK} {lay : List (Str × D) → D → Option (D × D)} (M : Mk X.K C f) (F : FnOk X.prog X.w X.K X.mg X.base CX k f fd ps (spInit (gd X C) lay)) (hr : Room (k + 1) X.A) (hg : Gl X x)
    (hm : X.mg x = some (.ref C)) (hb : Binds X.K fd ps []) (hx : Passes CX X E) (ha : JA X C H0 (e :: es) ra) (hdb : (x == ("__debug__" : Str)) = false := by decide) (he : starEach (e :: es) X.env = (false, eval e X.env) :: starEach es X.env := by rfl)
    (hpl : (backTo pos (starEach es X.env)).any (·.1) = false := by rfl) : JE X C H0 (.Call (.Name x p) (e :: es) [] pos) (eCall (makeF lay) ra) := by
  constructor
  intro pn s σ H Q I ⟨en, z, R, h, q⟩
  unfold eCall at h
  split at h
  · rename_i rs hrs
    split at h
    · rename_i as has
      unfold makeF at h
      split at h
      · rename_i a n bs c d
        split at h
        · rename_i hn
          split at h
          · rename_i pr hl
            cases h
            refine thn ((pe_make (dvs := []) M F hr hg hm hb .nil hx ha hdb he hpl).run pn s σ H (fun v H' => ∃ l lf ln vs ws, v = .ref l ∧ Same H H' ∧ H lf = none ∧ H ln = none ∧ Filled (gd X C) H' l (fs4 a (.tuple (.int n :: bs)) c d) lf ln vs ws ∧ Dens (gd X C) H' pr.1 vs ∧ Dens (gd X C) H' pr.2 ws) I
              ⟨en, rs, R, hrs, fun vs H1 s1 r1 => ?_⟩) fun u s2 ⟨v, H2, I2, rv, l, lf, ln, vs, ws, e1, s02, hlf, hln, F2, d1, d2⟩ => ?_
            · intro l dx nl ndx nedx
              have ao := argsOk_of has r1
              obtain ⟨va, r2, rfl, ⟨da, _⟩, vb, r3, rfl, ⟨db, _⟩, vc, r4, rfl, ⟨dc, _⟩, vd, r5, rfl, ⟨dd, _⟩, rfl⟩ := ao
              have sm : Same H1 (upd (upd H1 dx (.own l)) l (.ins C dx [])) := fun b o e => by
                rw [upd_ne (ne_of_none e nl), upd_ne (ne_of_none e ndx)]
                exact e
              have st := FS.Same.stab sm
              refine ⟨l, va, vb, vc, vd, a, n, bs, c, d, pr, dx, rfl, upd_same, Den.stab st _ _ da, Den.stab st _ _ db, Den.stab st _ _ dc, Den.stab st _ _ dd, hn.1, hn.2, hl, fun lf ln vs ws H' hlf hln kp hF e1 e2 => ⟨rfl, l, lf, ln, vs, ws, rfl, ?_, s1.free (sm.free hlf), s1.free (sm.free hln), hF, e1, e2⟩⟩
              exact s1.trans fun b o e => kp b o (ne_of_none e nl) (sm b o e)
            · subst e1
              obtain ⟨od, I3⟩ := I2.lock F2.f trivial
              have nf : upd H2 lf (.frz od (.lst vs)) ln = some (.lst ws) := by
                rw [upd_ne (Ne.symm F2.ne)]
                exact F2.n
              obtain ⟨od2, I4⟩ := I3.lock nf trivial
              have st1 := Stab.upd (o := .frz od (.lst vs)) F2.f
              have st2 := Stab.upd (o := .frz od2 (.lst ws)) nf
              have st := st1.trans st2
              obtain ⟨dx, gs, g1, g2, g3, g4⟩ := F2.ins
              refine ⟨.ref l, _, I4, rv, q _ _ (FS.Same.put (FS.Same.put s02 hlf) hln) ⟨l, dx, gs, rfl, st _ _ g1 trivial, objF_six (objs_stab st g2) g3 g4 ?_ ?_⟩⟩
              · refine den_lstF (o := od) ?_ (d1.stab st)
                rw [upd_ne F2.ne]
                exact upd_same
              · exact den_lstF (o := od2) upd_same (d2.stab st)
          · cases h
        · cases h
      · cases h
    · cases h
  · cases h
end FS
set_option Elab.async false
set_option linter.all false
set_option maxRecDepth 100000
set_option maxHeartbeats 4000000
set_option autoImplicit false
/-! set(list of whole numbers), sorted of such a set however large, its length; list.index; sorted of a tuple of whole numbers. -/
namespace FS
open PySem L2 PyProof.Rows PySem.Spec

/-- an empty set as set() makes it -/
abbrev noneIn (w : World) : Obj := { cls := .type "set", dict := none, data := .set #[] 0 (.fresh 0 0 (!w.params.followText "set-order")) }
theorem wants_two {Q E : Value → Shared → Prop} {r : Result} {s : Shared} (h : wants Q E r s) : (∃ v, r = .ok (.ret v) ∧ Q v s) ∨ ∃ e, r = .error e ∧ E e s := by
  cases r with
  | error e => exact .inr ⟨e, rfl, h⟩
  | ok fl => cases fl with
    | ret v => exact .inl ⟨v, rfl, h⟩
    | _ => exact h.elim
section
variable {P : Program} {w : World} {A : Around} {E : Value → Shared → Prop} {s : Shared}
set_option maxHeartbeats 3200000 in
theorem set_of_list {l : Addr} {its : Array Value} (ns : List Int) {Q : Value → Shared → Prop} (calm : A.handled = none) (isL : s.heap.IsList l its) (nums : IntsAre its.toList ns) (room : ns.length + 1 < scanBound)
    (fin : ∀ (h1 : Heap) (tk c : Nat), SetR w h1 s.heap.objs.size (fun j => decide (j ∈ ns)) c → (∀ b o, s.heap.get? b = some o → h1.get? b = some o) → Q (.ref s.heap.objs.size) { s with heap := h1, toks := tk }) :
    wpAny (model P w) A (call (.type "set") [.ref l]) Q E s := by
  have size : its.size = ns.length := by simpa using IntsAre.length nums
  obtain ⟨c, tl, hmro⟩ := F.called_set.mro
  have made := F.called_set.made
  have sub := F.called_set.sub
  refine wpAny_call (codeAny_of_tree (?_ : wpAny _ _ (callAny (.type "set") _) _ _ _))
  refine wpAny_pure ⟨Code.quiet_builtin _ (by decide +kernel), codeAny_builtin F.entry_type_call ?_⟩
  rw [Around.under_plain (weight_type_call_type "set" [.ref l] []) rfl]
  have c1 := F.called_set.notType
  have c2 := F.called_set.canCreate
  have c3 := F.typeCall_set_1 (.ref l)
  repeat (any_goals (first | assumption | wp_step))
  refine codeAny_mono (code_set_led1 (.ref l) (E := E) (Q₁ := fun ob s1 => ob = .ref s.heap.objs.size ∧ s1 = { s with heap := s.heap.push (noneIn w) }) ⟨rfl, rfl⟩) fun r s1 hr => ?_
  rcases wants_two hr with ⟨ob, rfl, rfl, rfl⟩ | ⟨e, rfl, he⟩
  rotate_left
  · exact he
  have atS : (s.heap.push (noneIn w)).get? s.heap.objs.size = some (noneIn w) := Heap.get?_push_size _ rfl
  have tyS : Shared.TypeIs { s with heap := s.heap.push (noneIn w) } (.ref s.heap.objs.size) "set" := ⟨_, atS, rfl⟩
  have i1 := F.called_set.init.lookup
  have i2 := F.called_set.init.bind (.ref s.heap.objs.size)
  repeat (any_goals (first | assumption | wp_step))
  refine codeAny_mono (codeAny_call_builtin (R := wants (fun r s2 => r = .none ∧ ∃ h1 tk c, s2 = { s with heap := h1, toks := tk } ∧ SetR w h1 s.heap.objs.size (fun j => decide (j ∈ ns)) c ∧ ∀ b o, s.heap.get? b = some o → h1.get? b = some o) E)
    F.called_set.init.plain F.entry_set_init (check_set_init_1 tyS ?_)) fun r2 s2 hr2 => ?_
  · obtain ⟨⟨oc, od, odat, osl⟩, atL, e1, nl, e2⟩ := isL
    simp only at e1 e2
    subst e1 e2
    have atL1 : (s.heap.push (noneIn w)).get? l = some { cls := .type "list", dict := od, data := .seq its nl, slots := osl } := Heap.get?_push_of_some _ atL
    have t1 := F.sub_list_set
    have t2 := F.sub_list_frozenset
    have t3 : (Value.type "list" == Value.type "dict") = false := by decide
    have isL1 : (s.heap.push (noneIn w)).IsList l its := ⟨_, atL1, rfl, nl, rfl⟩
    unfold Builtin.«set.__init__» noKeywords Builtin.Frozenset.updateFrom
    generalize pin : pyIter = PI
    wp_walk
    subst pin
    refine wpAny_pyIter_list isL1 (wpAny_bind (wpAny_runValue ?_))
    have below : l < s.heap.objs.size := Heap.lt_size atL
    have calm3 : A.in1.in1.in1.handled = none := by simp [calm]
    have ni : l ≠ (s.heap.push (noneIn w)).objs.size := by
      rw [Heap.size_push]
      exact Nat.ne_of_lt (Nat.lt_succ_of_lt below)
    have nf : s.heap.objs.size ∉ [(s.heap.push (noneIn w)).objs.size, l] := by
      rw [Heap.size_push]
      simp only [List.mem_cons, List.not_mem_nil, or_false, not_or]
      exact ⟨Nat.ne_of_lt (Nat.lt_succ_self _), Nat.ne_of_gt below⟩
    have val : ∀ (i : Nat) (v : Value), its[i]? = some v → ∃ k t, ns[i]? = some k ∧ v = .int k t := fun i v hv => by
      have hi : i < ns.length := size ▸ (Array.getElem?_eq_some_iff.mp hv).1
      obtain ⟨t, e⟩ := PyProof.Rows.IntsAre.int_at nums i v (by simpa using hv)
      exact ⟨ns[i], t, List.getElem?_eq_getElem hi, by rw [e, List.getD_eq_getElem?_getD, List.getElem?_eq_getElem hi]; rfl⟩
    refine set_update_ints ((Walks.list calm3 _ l ni its).toS) s.heap.objs.size nf ns size room val (its.size - 0) 0 _ (by omega) (Nat.zero_le _) ⟨⟨_, Heap.get?_push_size _ rfl, rfl, rfl⟩, isL1.push _⟩ ⟨0, Nat.le_refl 0, setR_new_at (Heap.get?_push_of_some _ atS)⟩ ?_
    rintro ⟨h1, g1, d1, k1, o1⟩ c' mv _ hS1
    obtain rfl : g1 = s.gens := mv.gens
    obtain rfl : d1 = s.drawn := mv.drawn
    obtain rfl : o1 = s.os := mv.os
    refine wpAny_pure (wpAny_pure ⟨rfl, h1, k1, c', rfl, hS1, fun b o e => ?_⟩)
    have hb : b < s.heap.objs.size := Heap.lt_size e
    refine mv.heap b o ?_ (Heap.get?_push_of_some _ (Heap.get?_push_of_some _ e))
    rw [Heap.size_push]
    simp only [List.mem_cons, List.not_mem_nil, or_false, not_or]
    exact ⟨Nat.ne_of_lt hb, Nat.ne_of_lt (Nat.lt_succ_of_lt hb)⟩
  · rcases wants_two hr2 with ⟨ob, rfl, rfl, h1, tk, c', rfl, hS1, hk⟩ | ⟨e, rfl, he⟩
    rotate_left
    · exact he
    repeat (any_goals (first | assumption | wp_step))
    exact fin _ _ _ hS1 hk

/-- sorted(s), a set of whole numbers, any number of them -/
theorem sorted_any {a : Addr} {S : Int → Bool} {n : Nat} {Q : Value → Shared → Prop} (R : SetR w s.heap a S n) (calm : A.handled = none)
    (fin : ∀ s1 p (out : List Value) (c : Nat) (ns : List Int), (∀ b o, s.heap.get? b = some o → s1.heap.get? b = some o) → s1.gens = s.gens → s1.os = s.os → s.heap.objs.size ≤ p →
      s1.heap.get? p = some (seqObj "list" out.toArray c) → IntsAre out ns → ns.Pairwise (· < ·) → (∀ k, k ∈ ns ↔ S k = true) → Q (.ref p) s1) :
    wpAny (model P w) A (call (.builtin "sorted") [.ref a]) Q E s := by
  obtain ⟨o, es, ep, t, ho, hex, hd, g, nd, hm, hb, hf, hn, hr, hl⟩ := R
  refine Calls.call_function_entry kind_sorted plain_sorted entry_sorted (args_sorted1 _) ?_
  unfold Builtin.«sorted»
  refine wpAny_bind (m := checkCount "sorted" 1 1 _) (wpAny_pure (wpAny_bind (collect_set (A := A.in1) calm ⟨o, ho, hex.1, hd⟩ hf hb hr hl fun s1 vs old big gs os perm => ?_)))
  have few : vs.length ≤ sizeLine := by
    rw [perm.length_eq, List.length_map, Array.length_toList]
    exact fits_of_scanBound hb
  have nums : IntsAre vs (vs.map Builtin.Re.reRawOf) := L2.ints_of vs fun v hv => by
    obtain ⟨e, he, rfl⟩ := List.mem_map.mp (perm.mem_iff.mp hv)
    obtain ⟨k, tk, h1, _⟩ := g e he
    exact ⟨k, tk, h1⟩
  have keys : (vs.map Builtin.Re.reRawOf).Perm (es.toList.map keyOf) := by
    have q := perm.map Builtin.Re.reRawOf
    rwa [List.map_map] at q
  refine wpAny_bind (wpAny_newList ?_ few)
  have atL : (s1.heap.push (seqObj "list" vs.toArray 0)).get? s1.heap.objs.size = some (seqObj "list" vs.toArray 0) := Heap.get?_push_size _ rfl
  refine wpAny_bind (wpAny_holding (wpAny_call_entry slot_list_sort ⟨_, atL, rfl⟩ entry_list_sort
    (SrtO.list_sort_ord SrtO.swo_int atL few (fun h2 => SrtO.ints_sortable nums h2) fun out h1 h2 => ⟨_, rfl, ?_⟩) (args_list_sort _)))
  obtain ⟨k1, k2, k3⟩ := SrtO.ints_out nums h1 h2
  obtain ⟨c, atO⟩ := sortedHeap_at (vs := vs) (out := out.toArray) atL
  have pk := k2.trans keys
  refine wpAny_pure ⟨_, rfl, fin _ s1.heap.objs.size out c _ (fun b u e => ?_) gs os big atO k1 (lt_of_le_nodup _ k3 (pk.nodup_iff.mpr nd)) fun k => by rw [pk.mem_iff, ← hm k]⟩
  have lt := Heap.lt_size (old b u e)
  show (sortedHeap _ _ vs out.toArray).get? b = some u
  rw [sortedHeap_old (Nat.ne_of_lt lt) (by rw [size_push']; exact Nat.lt_succ_of_lt lt)]
  exact Heap.get?_push_of_some _ (old b u e)
end
end FS
set_option Elab.async false
set_option linter.all false
set_option maxRecDepth 100000
set_option maxHeartbeats 4000000
set_option autoImplicit false
namespace FS
open PySem L2 PyProof.Rows PySem.Spec

theorem intsOfD_map : ∀ {xs : List D} {ns : List Int}, intsOfD xs = some ns → xs = ns.map PyData.int
  | [], ns, h => by cases h; rfl
  | .int i :: r, ns, h => by
    obtain ⟨ms, h1, rfl⟩ := Option.map_eq_some_iff.mp (show (intsOfD r).map (i :: ·) = some ns from h)
    rw [intsOfD_map h1]
    rfl
  | .none :: r, ns, h => by cases h
  | .bool _ :: r, ns, h => by cases h
  | .str _ :: r, ns, h => by cases h
  | .tuple _ :: r, ns, h => by cases h
  | .list _ :: r, ns, h => by cases h
  | .dict _ :: r, ns, h => by cases h
theorem dsIns_len {x : Int} : ∀ {l : List Int}, (dsIns x l).length ≤ l.length + 1
  | [] => Nat.le_refl _
  | y :: l => by
    unfold dsIns
    split
    · exact Nat.le_refl _
    · split
      · exact Nat.le_succ _
      · exact Nat.succ_le_succ dsIns_len
theorem dsort_len : ∀ {l : List Int}, (dsort l).length ≤ l.length
  | [] => Nat.le_refl _
  | x :: l => Nat.le_trans dsIns_len (Nat.succ_le_succ dsort_len)
theorem dens_ints {G : Gd} {H : Hp} : ∀ {ns : List Int} {vs : List V}, Dens G H (ns.map PyData.int) vs → vs = ns.map V.int
  | [], vs, h => dens_nil.mp h
  | n :: ns, vs, h => by
    obtain ⟨v, r, e, q1, q2⟩ := dens_cons.mp h
    rw [e, den_int.mp q1, dens_ints q2]
    rfl
section
variable {X : Cx} {C : Addr} {H0 : Hp} {a b : Expr} {fa fb : EF} {p p2 q pos apos : Pos}
theorem je_sortSet (hc : X.calm = true) (hg : Gl X "sorted") (hm : X.mg "sorted" = none) (hg2 : Gl X "set") (hm2 : X.mg "set" = none) (ha : JE X C H0 a fa) (na : starEach [a] X.env = (false, eval a X.env) :: starEach [] X.env := by rfl) :
    JE X C H0 (.Call (.Name "sorted" p) [.Call (.Name "set" p2) [a] [] q] [] pos) (eUn fSortSet fa) := by
  refine ⟨fun pn s σ H Q I ⟨en, z, R, h, k⟩ => ?_⟩
  unfold eUn at h
  split at h
  · rename_i r hr
    refine Call_ (ld_blt I hg hm (show bootBuiltins ("sorted" : Str) = some (.builtin "sorted") by decide +kernel) (PyProof.Rows.callWith_builtin1 (PyProof.Rows.args_cons (Call_ (ld_blt I hg2 hm2 boot_set (PyProof.Rows.callWith_type1 (PyProof.Rows.args_cons
      (thn (ha.run pn s σ H (fun v H' => Same H H' ∧ Res (gd X C) H0 H H' r v) I ⟨en, r, R, hr, fun v H1 s1 r1 => ⟨s1, r1⟩⟩) fun u s1 ⟨v, H1, I1, rv, sm, r1⟩ => PyProof.Rows.args_nil ?_) na) na rfl))) rfl) rfl rfl))
    unfold fSortSet at h
    split at h
    · rename_i xs hxs
      split at h
      · rename_i ns hns
        split at h
        · rename_i few
          cases h
          obtain ⟨l, vs, rfl, hq, ds⟩ := r1.sqL hxs
          cases rv
          rw [intsOfD_map hns] at ds
          rw [dens_ints ds] at hq
          obtain ⟨its, rl, pl, hz⟩ := I1.list hq
          refine set_of_list ns (I1.ok.hd hc) pl.isList (by simpa using rl.ints) (by show ns.length + 1 < 4096; omega) fun h1 tk c hS keep => PyProof.Rows.args_nil ?_
          have I2 : Inv X pn σ H1 { s1 with heap := h1, toks := tk } := I1.kept keep
          refine sorted_any hS (I2.ok.hd hc) fun s3 l2 out c2 ms old gs os big at3 nums up mem => ?_
          have hms : ms = dsort ns := lt_uniq up lt_dsort fun k => by rw [mem, mem_dsort]; simp
          subst hms
          have free : H1 l2 = none := I2.hok.fresh big
          have len : ((dsort ns).map V.int).length ≤ sizeLine := by
            have hp := dsort_len (l := ns)
            rw [List.length_map, sizeLine_eq]
            omega
          have J : Inv X pn σ (upd H1 l2 (.lst ((dsort ns).map V.int))) { ({ s1 with heap := h1, toks := tk } : Shared) with heap := s3.heap, gens := s3.gens, drawn := s3.drawn, toks := s3.toks } :=
            I2.call (ch := []) (Un.laid old big free) (I2.hok.laid old big ⟨len, out, c2, vals_of_ints nums, at3⟩) (by rw [gs]; exact I2.bare) (fun _ z => nomatch z)
          have e : s3 = { s1 with heap := s3.heap, gens := s3.gens, drawn := s3.drawn, toks := s3.toks } := by
            cases s3
            cases s1
            cases os
            rfl
          rw [e]
          have st := FS.Same.upd (o := .lst ((dsort ns).map V.int)) free
          exact ⟨.ref l2, _, J, rfl, k _ _ (sm.trans st) ⟨l2, _, rfl, sm.free free, upd_same, Dens.ints _⟩⟩
        · cases h
      · cases h
    · cases h
  · cases h
theorem je_lenSet (hc : X.calm = true) (hg : Gl X "len") (hm : X.mg "len" = none) (hg2 : Gl X "set") (hm2 : X.mg "set" = none) (ha : JE X C H0 a fa) (na : starEach [a] X.env = (false, eval a X.env) :: starEach [] X.env := by rfl) :
    JE X C H0 (.Call (.Name "len" p) [.Call (.Name "set" p2) [a] [] q] [] pos) (eUn fLenSet fa) := by
  refine ⟨fun pn s σ H Q I ⟨en, z, R, h, k⟩ => ?_⟩
  unfold eUn at h
  split at h
  · rename_i r hr
    refine Call_ (ld_blt I hg hm boot_len (PyProof.Rows.callWith_builtin1 (PyProof.Rows.args_cons (Call_ (ld_blt I hg2 hm2 boot_set (PyProof.Rows.callWith_type1 (PyProof.Rows.args_cons
      (thn (ha.run pn s σ H (fun v H' => Same H H' ∧ Res (gd X C) H0 H H' r v) I ⟨en, r, R, hr, fun v H1 s1 r1 => ⟨s1, r1⟩⟩) fun u s1 ⟨v, H1, I1, rv, sm, r1⟩ => PyProof.Rows.args_nil ?_) na) na rfl))) rfl) rfl rfl))
    unfold fLenSet at h
    split at h
    · rename_i xs
      split at h
      · rename_i ns hns
        split at h
        · rename_i few
          cases h
          obtain ⟨l, vs, rfl, hq, ds⟩ := r_tup r1
          cases rv
          rw [intsOfD_map hns] at ds
          rw [dens_ints ds] at hq
          obtain ⟨its, rl, pl, hz⟩ := I1.tuple hq
          refine call_set_tupI ns (I1.ok.hd hc) pl (by simpa using rl.ints) (by show ns.length + 1 < 4096; omega) fun h1 tk c hS few2 keep => PyProof.Rows.args_nil ?_
          have I2 : Inv X pn σ H1 { s1 with heap := h1, toks := tk } := I1.kept keep
          obtain ⟨o, es, ep, t, ho, hex, hd, g, nd, mem, hb, hf, hn, hr', hl⟩ := hS
          have same : (es.toList.map keyOf).Perm (dsort ns) := (List.perm_ext_iff_of_nodup nd (lt_nodup lt_dsort)).mpr fun k => by rw [mem_dsort, ← mem k]; simp
          have size : es.size = (dsort ns).length := by
            have := same.length_eq
            simpa using this
          refine call_len_set ho hex hd hf (by rw [hn]; omega) ⟨.int (dsort ns).length, H1, I2.tok _, ⟨_, by rw [size]⟩, k _ _ sm q_int⟩
        · cases h
      · cases h
    · cases h
  · cases h

/-! ### sorted of a tuple of whole numbers -/
def rSortTI (K : PySem.W.Frag) : List V → Hp → VK → Prop := fun vs H Q => ∃ (l : Addr) (ns : List Int), vs = [.ref l] ∧ SqT K H l (ns.map V.int) ∧ ∀ q, H q = none → Q (.ref q) (upd H q (.lst ((isort ns).map V.int)))
theorem cr_sortTI : CallR X (.builtin "sorted") (rSortTI X.K) := by
  intro pins s σ H vs us Q I r h
  obtain ⟨a, ns, rfl, hs, q⟩ := h
  obtain ⟨its, rv, hl, hz⟩ := I.tuple hs
  rw [Vals.ref1 r]
  have hi := rv.ints
  refine sorted_ordT SrtO.swo_int hl (by rw [← rv.length]; exact hz) (fun h2 h₁ a' _ _ => SrtO.ints_sortable hi h2) fun out h1 h2 => ?_
  obtain ⟨k1, k2, k3⟩ := SrtO.ints_out hi h1 h2
  have e : out.map SrtO.iv = isort ns := le_uniq (k2.trans isort_perm.symm) k3 isort_le
  rw [e] at k1
  obtain ⟨ep, he'⟩ := PyProof.Rows.sortedAll_at s.heap its out.toArray
  have hlen : ((isort ns).map V.int).length ≤ sizeLine := by
    rw [List.length_map, isort_perm.length_eq]
    rw [List.length_map] at hz
    exact hz
  exact ⟨.ref _, upd H (s.heap.objs.size + 1) (.lst ((isort ns).map V.int)), I.laid (t' := s.toks) (fun _ _ => PyProof.Rows.sortedAll_old) (Nat.le_succ _) ⟨hlen, out, ep, vals_of_ints k1, he'⟩, rfl, q _ (I.hok.fresh (Nat.le_succ _))⟩
theorem c_sortTI {G : Gd} : Cal1 G (rSortTI G.K) fSortT := by
  intro H0 Ha H x z v r h Q q
  unfold fSortT at h
  split at h
  · split at h
    · rename_i ns hns
      cases h
      obtain ⟨l, vs, rfl, hq, ds⟩ := r_tup r
      rw [intsOfD_map hns] at ds
      rw [dens_ints ds] at hq
      refine ⟨l, ns, rfl, hq, fun q' nq => ?_⟩
      have st := FS.Same.upd (o := .lst ((isort ns).map V.int)) nq
      exact q _ _ st ⟨q', _, rfl, nq, upd_same, Dens.ints _⟩
    · cases h
  · cases h
theorem je_sortT (hg : Gl X "sorted") (hm : X.mg "sorted" = none) (ha : JE X C H0 a fa) (h1 : St1 X a := by rfl) : JE X C H0 (.Call (.Name "sorted" p) [a] [] pos) (eUn fSortT fa) := je_b1 cr_sortTI (c_sortTI (G := gd X C)) hg hm (by decide +kernel) ha h1

/-! ### l.index(x) -/
theorem findIdx_is {α : Type} {p : α → Bool} : ∀ {l : List α} {j : Nat}, l.findIdx? p = some j → (∃ z, l[j]? = some z ∧ p z = true) ∧ ∀ (m : Nat) (z : α), m < j → l[m]? = some z → p z = false
  | [], j, h => by simp at h
  | x :: l, j, h => by
    rw [List.findIdx?_cons] at h
    split at h
    · rename_i hp
      cases h
      exact ⟨⟨x, rfl, hp⟩, fun m z hm => by omega⟩
    · rename_i hp
      obtain ⟨k, hk, rfl⟩ := Option.map_eq_some_iff.mp h
      obtain ⟨⟨z, h1, h2⟩, h3⟩ := findIdx_is hk
      refine ⟨⟨z, by simpa using h1, h2⟩, fun m y hm e => ?_⟩
      cases m with
      | zero =>
        have : x = y := by simpa using e
        subst this
        simpa using hp
      | succ m => exact h3 m y (by omega) (by simpa using e)
theorem je_index {ps : Pos} (hu : X.A.units + 65 < cLine) (ha : JE X C H0 a fa) (hb : JE X C H0 b fb)
    (hbase : attributeBase a "index" X.env (eval a X.env) = eval a X.env := by rfl)
    (hfew : ((backTo ps (starEach [b] X.env)).all (fun x => !x.1) && (backToKw ps (keywordEach [] X.env)).all (fun x => x.1.isSome)
      && decide ([b].length + ([] : List Keyword).length + (if ([] : List Keyword).isEmpty then 0 else 1) < 30)) = true := by rfl)
    (hline : (apos.endLine == ps.line) = true := by rfl) (hs : starEach [b] X.env = (false, eval b X.env) :: starEach [] X.env := by rfl) (hplain : (backTo ps (starEach [] X.env)).any (·.1) = false := by rfl) :
    JE X C H0 (.Call (.Attribute a "index" apos) [b] [] ps) (eBin fIndex fa fb) :=
  PE.weak (pe_bm PySem.F.plainAttrs_list PySem.F.slot_list_index PySem.F.type_list_index (mt_indexD hu) ha (pa_cons hb pa_nil hs) hbase hfew hline hs hplain) fun σ H Q ⟨en, z, R, h, k⟩ => by
    unfold eBin at h
    split at h
    · rename_i x hx
      split at h
      · rename_i y hy
        unfold fIndex at h
        split at h
        · rename_i ds d hds
          split at h
          · rename_i sh
            split at h
            · rename_i j hj
              cases h
              obtain ⟨⟨zz, f1, f2⟩, f3⟩ := findIdx_is hj
              refine ⟨en, x, R, hx, fun v H1 s1 r1 => ?_⟩
              have d1 := r1.dp hds (lay_of_shaped sh.1)
              have ty : tyV X.K "list" v H1 := by
                cases x with
                | d x0 => cases hds; obtain ⟨l, vs, o, e1, k1, _⟩ := r_list r1; subst e1; exact .inl ⟨rfl, _, .inl (.inr ⟨o, k1⟩)⟩
                | cur xs => obtain ⟨l, vs, e1, k1, _⟩ := r1; subst e1; exact ty_own k1
                | brw xs => obtain ⟨l, vs, e1, w1, k1, _⟩ := r1; subst e1; exact .inl ⟨rfl, _, w1.seq k1⟩
                | new xs => obtain ⟨l, vs, e1, n1, k1, _⟩ := r1; subst e1; exact ty_own k1
                | curd _ => cases hds
                | brwd _ => cases hds
                | newd _ => cases hds
                | obj _ => cases hds
              refine ⟨ty, en, _, R.go s1, hy, fun u H2 s2 r2 => ?_⟩
              have d2 := (r1.same s2).dp hds (lay_of_shaped sh.1)
              have d3 : Dp (gd X C).K H2 u d := r2.dp rfl (lay_of_shaped sh.2)
              obtain ⟨l, rfl⟩ : ∃ l, v = .ref l := by
                cases d2 with
                | lst h1 h2 => exact ⟨_, rfl⟩
              exact ⟨l, u, d, ds, j, zz, rfl, rfl, d2, d3, sh.1, sh.2, f1, f2, f3, k _ _ (s1.trans s2) q_int⟩
            · cases h
          · cases h
        · cases h
      · cases h
    · cases h
end
end FS
set_option Elab.async false
set_option linter.all false
set_option maxRecDepth 100000
set_option autoImplicit false
namespace FS
open PySem
/-- end_of: 0 form, 1 kind, 2 path, 3 arrow -/
noncomputable def l_p_end_of_1 : SF :=
  (sSet 1 (eBin opIx (eBin opIx (eBin opIx (eVar 0) (eC (.int 1))) (eVar 3)) (eC (.int 1))))
noncomputable def b_p_end_of : SF :=
  (sSeq (sFor [3] (iSeq (eVar 2)) (tName 3)
  l_p_end_of_1)
  (sRet (eVar 1)))
noncomputable def F_p_end_of : FF := runF 4 3 b_p_end_of

/-- paths: 0 form, 1 kind, 2 other, 3 found, 4 layer, 5 more, 6 path, 7 at, 8 k, 9 arrow -/
noncomputable def l_p_paths_1 : SF :=
  (sIf (bVal (eBin cmpEq (eBin opIx (eVar 9) (eC (.int 0))) (eVar 7))) (sApp 5 (eBin opAdd (eVar 6) (eTup (zCons (eVar 8) zNil)))) sNil)
noncomputable def l_p_paths_2 : SF :=
  (sSeq (sSet 7 (eCall F_p_end_of (aCons (eVar 0) (aCons (eVar 1) (aCons (eVar 6) aNil)))))
  (sSeq (sIf (bVal (eBin cmpEq (eVar 7) (eVar 2))) (sApp 3 (eVar 6)) sNil)
  (sFor [8, 9] (iEnum (iSeq (eBin opIx (eVar 0) (eC (.int 1))))) (tTup [(tName 8), (tName 9)])
  l_p_paths_1)))
noncomputable def t_p_paths_1 : BF :=
  (bVal (eBin cmpNe (eVar 4) (eLst zNil)))
noncomputable def l_p_paths_3 : SF :=
  (sSeq (sSet 5 (eLst zNil))
  (sLock 4 (sSeq (sFor [6, 7, 8, 9] (iSeq (eVar 4)) (tName 6)
  l_p_paths_2)
  (sMove 4 5))))
noncomputable def b_p_paths : SF :=
  (sSeq (sSet 3 (eLst zNil))
  (sSeq (sSet 4 (eLst (zCons (eTup zNil) zNil)))
  (sSeq (sWhile [5, 6, 7, 8, 9] t_p_paths_1
  l_p_paths_3)
  (sRetOwn 3))))
noncomputable def F_p_paths : FF := runF 10 3 b_p_paths

/-- _law_stir: 0 cell, 1 found, 2 factor, 3 mixed -/
noncomputable def l_law_stir_1 : SF :=
  (sSeq (sSet 3 (eBin opMod (eBin opAdd (eBin opMul (eVar 0) (eVar 2)) (eC (.int 7919))) (eC (.int 2147483647))))
  (sSeq (sSet 3 (eBin opMod (eBin opMul (eBin opMod (eBin opMul (eVar 3) (eVar 3)) (eC (.int 2147483647))) (eC (.int 40692))) (eC (.int 2147483399))))
  (sSet 1 (eBin opAdd (eBin opMul (eVar 1) (eBin opPow (eC (.int 10)) (eC (.int 9)))) (eBin opFdiv (eVar 3) (eC (.int 7)))))))
noncomputable def b_law_stir : SF :=
  (sSeq (sSet 1 (eC (.int 0)))
  (sSeq (sFor [2, 3] (iSeq (eFrz (eLst (zCons (eC (.int 48271)) (zCons (eC (.int 69621)) (zCons (eC (.int 39373)) (zCons (eC (.int 44488)) zNil))))))) (tName 2)
  l_law_stir_1)
  (sRet (eVar 1))))
noncomputable def F_law_stir : FF := runF 4 1 b_law_stir

/-- _law_cell: 0 script, 1 k -/
noncomputable def b_law_cell : SF :=
  (sSeq (sIf (bVal (eBin cmpLt (eVar 1) (eUn fLen (eVar 0)))) (sRet (eCall F_law_stir (aCons (eBin opIx (eVar 0) (eVar 1)) aNil))) sNil)
  (sRet (eCall F_law_stir (aCons (eC (.int 0)) aNil))))
noncomputable def F_law_cell : FF := runF 2 2 b_law_cell

/-- _law_whole: 0 found -/
noncomputable def b_law_whole : SF :=
  (sRet (eAnd (eUn isIntD (eVar 0)) (eNot (eUn isBoolD (eVar 0)))))
noncomputable def F_law_whole : FF := runF 1 1 b_law_whole

/-- _law_draw: 0 cell, 1 k, 2 bound, 3 stir, 4 turn -/
noncomputable def l_law_draw_1 : SF :=
  (sSet 3 (eBin opMod (eBin opMul (eVar 3) (eC (.int 48271))) (eC (.int 2147483647))))
noncomputable def b_law_draw : SF :=
  (sSeq (sSet 3 (eBin opMod (eBin opAdd (eBin opAdd (eBin opMod (eVar 0) (eC (.int 2147483629))) (eC (.int 1))) (eBin opMul (eVar 1) (eC (.int 1000003)))) (eC (.int 2147483647))))
  (sSeq (sFor [4] (iRange (eC (.int 3))) (tName 4)
  l_law_draw_1)
  (sRet (eBin opMod (eBin opFdiv (eVar 3) (eC (.int 97))) (eVar 2)))))
noncomputable def F_law_draw : FF := runF 5 3 b_law_draw

/-- _law_form: 0 script, 1 first, 2 most, 3 many, 4 kinds, 5 arrows, 6 k, 7 a, 8 b -/
noncomputable def l_law_form_1 : SF :=
  (sSeq (sSet 7 (eCall F_law_draw (aCons (eCall F_law_cell (aCons (eVar 0) (aCons (eBin opAdd (eVar 1) (eC (.int 1))) aNil))) (aCons (eVar 6) (aCons (eBin opSub (eVar 4) (eC (.int 1))) aNil)))))
  (sSeq (sSet 8 (eBin opAdd (eBin opAdd (eVar 7) (eC (.int 1))) (eCall F_law_draw (aCons (eCall F_law_cell (aCons (eVar 0) (aCons (eBin opAdd (eVar 1) (eC (.int 2))) aNil))) (aCons (eVar 6) (aCons (eBin opSub (eBin opSub (eVar 4) (eC (.int 1))) (eVar 7)) aNil))))))
  (sApp 5 (eTup (zCons (eVar 7) (zCons (eVar 8) zNil))))))
noncomputable def b_law_form : SF :=
  (sSeq (sSet 4 (eBin opAdd (eC (.int 1)) (eBin opMod (eCall F_law_cell (aCons (eVar 0) (aCons (eVar 1) aNil))) (eVar 2))))
  (sSeq (sSet 5 (eLst zNil))
  (sSeq (sIf (bVal (eBin cmpGt (eVar 4) (eC (.int 1)))) (sFor [6, 7, 8] (iRange (eBin opMod (eBin opFdiv (eCall F_law_cell (aCons (eVar 0) (aCons (eVar 1) aNil))) (eVar 2)) (eBin opAdd (eVar 3) (eC (.int 1))))) (tName 6)
  l_law_form_1) sNil)
  (sRet (eTup (zCons (eVar 4) (zCons (eUn fTuple (eVar 5)) zNil)))))))
noncomputable def F_law_form : FF := runF 9 4 b_law_form

/-- _law_paths: 0 form, 1 kind, 2 other, 3 found, 4 layer, 5 more, 6 path, 7 at, 8 k, 9 arrow -/
noncomputable def l_law_paths_1 : SF :=
  (sIf (bVal (eBin cmpEq (eBin opIx (eVar 9) (eC (.int 0))) (eVar 7))) (sApp 5 (eTup (zCons (eBin opAdd (eVar 6) (eTup (zCons (eVar 8) zNil))) (zCons (eBin opIx (eVar 9) (eC (.int 1))) zNil)))) sNil)
noncomputable def l_law_paths_2 : SF :=
  (sSeq (sIf (bVal (eBin cmpEq (eVar 7) (eVar 2))) (sApp 3 (eVar 6)) sNil)
  (sFor [8, 9] (iEnum (iSeq (eBin opIx (eVar 0) (eC (.int 1))))) (tTup [(tName 8), (tName 9)])
  l_law_paths_1))
noncomputable def t_law_paths_1 : BF :=
  (bVal (eBin cmpNe (eVar 4) (eLst zNil)))
noncomputable def l_law_paths_3 : SF :=
  (sSeq (sSet 5 (eLst zNil))
  (sLock 4 (sSeq (sFor [6, 7, 8, 9] (iSeq (eVar 4)) (tTup [(tName 6), (tName 7)])
  l_law_paths_2)
  (sMove 4 5))))
noncomputable def b_law_paths : SF :=
  (sSeq (sSet 3 (eLst zNil))
  (sSeq (sSet 4 (eLst (zCons (eTup (zCons (eTup zNil) (zCons (eVar 1) zNil))) zNil)))
  (sSeq (sWhile [5, 6, 7, 8, 9] t_law_paths_1
  l_law_paths_3)
  (sRetOwn 3))))
noncomputable def F_law_paths : FF := runF 10 3 b_law_paths

/-- is_form: 0 form, 1 arrow -/
noncomputable def l_p_is_form_1 : SF :=
  (sIf (bOr (bVal (eBin cmpNe (eUn fLen (eVar 1)) (eC (.int 2)))) (bNot (bVal (eCh3 cmpLe cmpLt cmpLt (eC (.int 0)) (eBin opIx (eVar 1) (eC (.int 0))) (eBin opIx (eVar 1) (eC (.int 1))) (eBin opIx (eVar 0) (eC (.int 0))))))) (sRet (eC (.bool false))) sNil)
noncomputable def b_p_is_form : SF :=
  (sSeq (sIf (bOr (bVal (eBin cmpLt (eBin opIx (eVar 0) (eC (.int 0))) (eC (.int 1)))) (bOr (bVal (eBin cmpGt (eBin opIx (eVar 0) (eC (.int 0))) (eC (.int 4)))) (bVal (eBin cmpGt (eUn fLen (eBin opIx (eVar 0) (eC (.int 1)))) (eC (.int 5)))))) (sRet (eC (.bool false))) sNil)
  (sSeq (sFor [1] (iSeq (eBin opIx (eVar 0) (eC (.int 1)))) (tName 1)
  l_p_is_form_1)
  (sRet (eC (.bool true)))))
noncomputable def F_p_is_form : FF := runF 2 1 b_p_is_form

/-- is_book: 0 form, 1 book, 2 rows, 3 arrow, 4 step, 5 many, 6 row -/
noncomputable def c_p_is_book_1 : EF :=
  (eCh2 cmpLe cmpLe (eC (.int 0)) (eVar 5) (eC (.int 200)))
noncomputable def c_p_is_book_2 : EF :=
  (eCh2 cmpLe cmpLt (eC (.int 0)) (eVar 6) (eBin opIx (eVar 2) (eBin opIx (eVar 3) (eC (.int 1)))))
noncomputable def l_p_is_book_1 : SF :=
  (sIf (bOr (bVal (eBin cmpNe (eUn fLen (eVar 4)) (eBin opIx (eVar 2) (eBin opIx (eVar 3) (eC (.int 0)))))) (bNot (bVal (eUn fAll (eLc [6] (iAny (eVar 4)) (tName 6) bYes c_p_is_book_2))))) (sRet (eC (.bool false))) sNil)
noncomputable def b_p_is_book : SF :=
  (sSeq (sSet 2 (eBin opIx (eVar 1) (eC (.int 0))))
  (sSeq (sIf (bOr (bVal (eBin cmpNe (eUn fLen (eVar 2)) (eBin opIx (eVar 0) (eC (.int 0))))) (bNot (bVal (eUn fAll (eLc [5] (iAny (eVar 2)) (tName 5) bYes c_p_is_book_1))))) (sRet (eC (.bool false))) sNil)
  (sSeq (sIf (bVal (eBin cmpNe (eUn fLen (eBin opIx (eVar 1) (eC (.int 1)))) (eUn fLen (eBin opIx (eVar 0) (eC (.int 1)))))) (sRet (eC (.bool false))) sNil)
  (sSeq (sFor [3, 4] (iZipA (eBin opIx (eVar 0) (eC (.int 1))) (eBin opIx (eVar 1) (eC (.int 1)))) (tTup [(tName 3), (tName 4)])
  l_p_is_book_1)
  (sRet (eC (.bool true)))))))
noncomputable def F_p_is_book : FF := runF 7 2 b_p_is_book

/-- went: 0 book, 1 path, 2 row, 3 arrow -/
noncomputable def l_p_went_1 : SF :=
  (sSet 2 (eBin opIx (eBin opIx (eBin opIx (eVar 0) (eC (.int 1))) (eVar 3)) (eVar 2)))
noncomputable def b_p_went : SF :=
  (sSeq (sFor [3] (iSeq (eVar 1)) (tName 3)
  l_p_went_1)
  (sRet (eVar 2)))
noncomputable def F_p_went : FF := runF 4 3 b_p_went

/-- beside: 0 form, 1 one, 2 other, 3 rows, 4 steps, 5 k, 6 arrow, 7 kind, 8 row -/
noncomputable def c_p_beside_1 : EF :=
  (eBin opAdd (eBin opIx (eBin opIx (eVar 1) (eC (.int 0))) (eVar 7)) (eBin opIx (eBin opIx (eVar 2) (eC (.int 0))) (eVar 7)))
noncomputable def c_p_beside_2 : EF :=
  (eBin opAdd (eVar 8) (eBin opIx (eBin opIx (eVar 1) (eC (.int 0))) (eBin opIx (eVar 6) (eC (.int 1)))))
noncomputable def l_p_beside_1 : SF :=
  (sApp 4 (eBin opAdd (eBin opIx (eBin opIx (eVar 1) (eC (.int 1))) (eVar 5)) (eUn fTuple (eLc [8] (iAny (eBin opIx (eBin opIx (eVar 2) (eC (.int 1))) (eVar 5))) (tName 8) bYes c_p_beside_2))))
noncomputable def b_p_beside : SF :=
  (sSeq (sSet 3 (eUn fTuple (eLc [7] (iRange (eBin opIx (eVar 0) (eC (.int 0)))) (tName 7) bYes c_p_beside_1)))
  (sSeq (sSet 4 (eLst zNil))
  (sSeq (sFor [5, 6] (iEnum (iSeq (eBin opIx (eVar 0) (eC (.int 1))))) (tTup [(tName 5), (tName 6)])
  l_p_beside_1)
  (sRet (eTup (zCons (eVar 3) (zCons (eUn fTuple (eVar 4)) zNil)))))))
noncomputable def F_p_beside : FF := runF 9 3 b_p_beside

/-- _law_book: 0 script, 1 first, 2 form, 3 most, 4 rows, 5 a, 6 b, 7 steps, 8 k, 9 arrow, 10 cell, 11 kind, 12 x -/
noncomputable def c_law_book_1 : EF :=
  (eCall F_law_draw (aCons (eCall F_law_cell (aCons (eVar 0) (aCons (eVar 1) aNil))) (aCons (eVar 11) (aCons (eBin opAdd (eVar 3) (eC (.int 1))) aNil))))
noncomputable def l_law_book_1 : SF :=
  (sIf (bAnd (bVal (eBin cmpGt (eBin opIx (eVar 4) (eVar 5)) (eC (.int 0)))) (bVal (eBin cmpEq (eBin opIx (eVar 4) (eVar 6)) (eC (.int 0))))) (sPut 4 (eVar 6) (eC (.int 1))) sNil)
noncomputable def c_law_book_2 : EF :=
  (eCall F_law_draw (aCons (eVar 10) (aCons (eBin opAdd (eBin opMul (eC (.int 61)) (eVar 8)) (eVar 12)) (aCons (eBin opIx (eVar 4) (eBin opIx (eVar 9) (eC (.int 1)))) aNil))))
noncomputable def l_law_book_2 : SF :=
  (sSeq (sSet 10 (eCall F_law_cell (aCons (eVar 0) (aCons (eBin opAdd (eVar 1) (eC (.int 1))) aNil))))
  (sApp 7 (eUn fTuple (eLc [12] (iRange (eBin opIx (eVar 4) (eBin opIx (eVar 9) (eC (.int 0))))) (tName 12) bYes c_law_book_2))))
noncomputable def b_law_book : SF :=
  (sSeq (sSet 4 (eLc [11] (iRange (eBin opIx (eVar 2) (eC (.int 0)))) (tName 11) bYes c_law_book_1))
  (sSeq (sFor [5, 6] (iSeq (eFrz (eUn fSortP (eBin opIx (eVar 2) (eC (.int 1)))))) (tTup [(tName 5), (tName 6)])
  l_law_book_1)
  (sSeq (sSet 7 (eLst zNil))
  (sSeq (sFor [8, 9, 10] (iEnum (iSeq (eBin opIx (eVar 2) (eC (.int 1))))) (tTup [(tName 8), (tName 9)])
  l_law_book_2)
  (sRet (eTup (zCons (eUn fTuple (eVar 4)) (zCons (eUn fTuple (eVar 7)) zNil))))))))
noncomputable def F_law_book : FF := runF 13 4 b_law_book

/-- _law_went: 0 book, 1 path, 2 row, 3 arrow -/
noncomputable def l_law_went_1 : SF :=
  (sSet 2 (eBin opIx (eBin opIx (eBin opIx (eVar 0) (eC (.int 1))) (eVar 3)) (eVar 2)))
noncomputable def b_law_went : SF :=
  (sSeq (sFor [3] (iSeq (eVar 1)) (tName 3)
  l_law_went_1)
  (sRet (eVar 2)))
noncomputable def F_law_went : FF := runF 4 3 b_law_went

/-- _law_numbers: 0 found, 1 x -/
noncomputable def c_law_numbers_1 : EF :=
  (eCall F_law_whole (aCons (eVar 1) aNil))
noncomputable def b_law_numbers : SF :=
  (sRet (eAnd (eUn isTupleD (eVar 0)) (eUn fAll (eLc [1] (iAny (eVar 0)) (tName 1) bYes c_law_numbers_1))))
noncomputable def F_law_numbers : FF := runF 2 1 b_law_numbers

/-- _law_pair: 0 found, 1 due, 2 step -/
noncomputable def c_law_pair_1 : EF :=
  (eCall F_law_numbers (aCons (eVar 2) aNil))
noncomputable def b_law_pair : SF :=
  (sSeq (sIf (bOr (bNot (bVal (eUn isTupleD (eVar 0)))) (bOr (bVal (eBin cmpNe (eUn fLen (eVar 0)) (eC (.int 2)))) (bNot (bVal (eCall F_law_numbers (aCons (eBin opIx (eVar 0) (eC (.int 0))) aNil)))))) (sRet (eC (.bool false))) sNil)
  (sSeq (sIf (bOr (bNot (bVal (eUn isTupleD (eBin opIx (eVar 0) (eC (.int 1)))))) (bNot (bVal (eUn fAll (eLc [2] (iAny (eBin opIx (eVar 0) (eC (.int 1)))) (tName 2) bYes c_law_pair_1))))) (sRet (eC (.bool false))) sNil)
  (sRet (eBin cmpEq (eVar 0) (eVar 1)))))
noncomputable def F_law_pair : FF := runF 3 2 b_law_pair

/-- _law_chart: 0 found, 1 due, 2 row -/
noncomputable def c_law_chart_1 : EF :=
  (eCall F_law_numbers (aCons (eVar 2) aNil))
noncomputable def b_law_chart : SF :=
  (sRet (eAnd (eUn isTupleD (eVar 0)) (eAnd (eUn fAll (eLc [2] (iAny (eVar 0)) (tName 2) bYes c_law_chart_1)) (eBin cmpEq (eVar 0) (eVar 1)))))
noncomputable def F_law_chart : FF := runF 3 2 b_law_chart

/-- _law_beside: 0 form, 1 one, 2 other, 3 steps, 4 k, 5 arrow, 6 kind, 7 row -/
noncomputable def c_law_beside_1 : EF :=
  (eBin opAdd (eVar 7) (eBin opIx (eBin opIx (eVar 1) (eC (.int 0))) (eBin opIx (eVar 5) (eC (.int 1)))))
noncomputable def l_law_beside_1 : SF :=
  (sApp 3 (eBin opAdd (eBin opIx (eBin opIx (eVar 1) (eC (.int 1))) (eVar 4)) (eUn fTuple (eLc [7] (iAny (eBin opIx (eBin opIx (eVar 2) (eC (.int 1))) (eVar 4))) (tName 7) bYes c_law_beside_1))))
noncomputable def c_law_beside_2 : EF :=
  (eBin opAdd (eBin opIx (eBin opIx (eVar 1) (eC (.int 0))) (eVar 6)) (eBin opIx (eBin opIx (eVar 2) (eC (.int 0))) (eVar 6)))
noncomputable def b_law_beside : SF :=
  (sSeq (sSet 3 (eLst zNil))
  (sSeq (sFor [4, 5] (iEnum (iSeq (eBin opIx (eVar 0) (eC (.int 1))))) (tTup [(tName 4), (tName 5)])
  l_law_beside_1)
  (sRet (eTup (zCons (eUn fTuple (eLc [6] (iRange (eBin opIx (eVar 0) (eC (.int 0)))) (tName 6) bYes c_law_beside_2)) (zCons (eUn fTuple (eVar 3)) zNil))))))
noncomputable def F_law_beside : FF := runF 8 3 b_law_beside

/-- is_map: 0 form, 1 one, 2 other, 3 chart, 4 kind, 5 k, 6 arrow, 7 row -/
noncomputable def c_p_is_map_1 : EF :=
  (eCh2 cmpLe cmpLt (eC (.int 0)) (eVar 7) (eBin opIx (eBin opIx (eVar 2) (eC (.int 0))) (eVar 4)))
noncomputable def l_p_is_map_1 : SF :=
  (sIf (bOr (bVal (eBin cmpNe (eUn fLen (eBin opIx (eVar 3) (eVar 4))) (eBin opIx (eBin opIx (eVar 1) (eC (.int 0))) (eVar 4)))) (bNot (bVal (eUn fAll (eLc [7] (iAny (eBin opIx (eVar 3) (eVar 4))) (tName 7) bYes c_p_is_map_1))))) (sRet (eC (.bool false))) sNil)
noncomputable def l_p_is_map_2 : SF :=
  (sIf (bVal (eBin cmpNe (eBin opIx (eBin opIx (eVar 3) (eBin opIx (eVar 6) (eC (.int 1)))) (eBin opIx (eBin opIx (eBin opIx (eVar 1) (eC (.int 1))) (eVar 5)) (eVar 7))) (eBin opIx (eBin opIx (eBin opIx (eVar 2) (eC (.int 1))) (eVar 5)) (eBin opIx (eBin opIx (eVar 3) (eBin opIx (eVar 6) (eC (.int 0)))) (eVar 7))))) (sRet (eC (.bool false))) sNil)
noncomputable def l_p_is_map_3 : SF :=
  (sFor [7] (iRange (eBin opIx (eBin opIx (eVar 1) (eC (.int 0))) (eBin opIx (eVar 6) (eC (.int 0))))) (tName 7)
  l_p_is_map_2)
noncomputable def b_p_is_map : SF :=
  (sSeq (sIf (bVal (eBin cmpNe (eUn fLen (eVar 3)) (eBin opIx (eVar 0) (eC (.int 0))))) (sRet (eC (.bool false))) sNil)
  (sSeq (sFor [4] (iRange (eBin opIx (eVar 0) (eC (.int 0)))) (tName 4)
  l_p_is_map_1)
  (sSeq (sFor [5, 6, 7] (iEnum (iSeq (eBin opIx (eVar 0) (eC (.int 1))))) (tTup [(tName 5), (tName 6)])
  l_p_is_map_3)
  (sRet (eC (.bool true))))))
noncomputable def F_p_is_map : FF := runF 8 4 b_p_is_map

/-- rows_of: 0 many, 1 most, 2 found, 3 k, 4 more, 5 row, 6 x -/
noncomputable def c_p_rows_of_1 : EF :=
  (eBin opAdd (eVar 5) (eTup (zCons (eVar 6) zNil)))
noncomputable def l_p_rows_of_1 : SF :=
  (sExt 4 (eLc [6] (iRange (eVar 1)) (tName 6) bYes c_p_rows_of_1))
noncomputable def l_p_rows_of_2 : SF :=
  (sSeq (sSet 4 (eLst zNil))
  (sLock 2 (sSeq (sFor [5] (iSeq (eVar 2)) (tName 5)
  l_p_rows_of_1)
  (sMove 2 4))))
noncomputable def b_p_rows_of : SF :=
  (sSeq (sSet 2 (eLst (zCons (eTup zNil) zNil)))
  (sSeq (sFor [3, 4, 5] (iRange (eVar 0)) (tName 3)
  l_p_rows_of_2)
  (sRetOwn 2)))
noncomputable def F_p_rows_of : FF := runF 7 2 b_p_rows_of

/-- sent: 0 chart, 1 more, 2 kind, 3 row, 4 x -/
noncomputable def c_p_sent_1 : EF :=
  (eBin opIx (eBin opIx (eVar 1) (eVar 2)) (eVar 4))
noncomputable def c_p_sent_2 : EF :=
  (eUn fTuple (eLc [4] (iAny (eVar 3)) (tName 4) bYes c_p_sent_1))
noncomputable def b_p_sent : SF :=
  (sRet (eUn fTuple (eLc [2, 3] (iEnum (iAny (eVar 0))) (tTup [(tName 2), (tName 3)]) bYes c_p_sent_2)))
noncomputable def F_p_sent : FF := runF 5 2 b_p_sent

/-- _law_is_map: 0 form, 1 one, 2 other, 3 chart, 4 kind, 5 k, 6 arrow, 7 row, 8 comes, 9 goes -/
noncomputable def l_law_is_map_1 : SF :=
  (sIf (bOr (bNot (bVal (eCall F_law_whole (aCons (eVar 7) aNil)))) (bNot (bVal (eCh2 cmpLe cmpLt (eC (.int 0)) (eVar 7) (eBin opIx (eBin opIx (eVar 2) (eC (.int 0))) (eVar 4)))))) (sRet (eC (.bool false))) sNil)
noncomputable def l_law_is_map_2 : SF :=
  (sSeq (sIf (bOr (bNot (bVal (eUn isTupleD (eBin opIx (eVar 3) (eVar 4))))) (bVal (eBin cmpNe (eUn fLen (eBin opIx (eVar 3) (eVar 4))) (eBin opIx (eBin opIx (eVar 1) (eC (.int 0))) (eVar 4))))) (sRet (eC (.bool false))) sNil)
  (sFor [7] (iSeq (eBin opIx (eVar 3) (eVar 4))) (tName 7)
  l_law_is_map_1))
noncomputable def l_law_is_map_3 : SF :=
  (sSeq (sSet 8 (eBin opIx (eBin opIx (eVar 3) (eBin opIx (eVar 6) (eC (.int 1)))) (eBin opIx (eBin opIx (eBin opIx (eVar 1) (eC (.int 1))) (eVar 5)) (eVar 7))))
  (sSeq (sSet 9 (eBin opIx (eBin opIx (eVar 3) (eBin opIx (eVar 6) (eC (.int 0)))) (eVar 7)))
  (sIf (bVal (eBin cmpNe (eVar 8) (eBin opIx (eBin opIx (eBin opIx (eVar 2) (eC (.int 1))) (eVar 5)) (eVar 9)))) (sRet (eC (.bool false))) sNil)))
noncomputable def l_law_is_map_4 : SF :=
  (sFor [7, 8, 9] (iRange (eBin opIx (eBin opIx (eVar 1) (eC (.int 0))) (eBin opIx (eVar 6) (eC (.int 0))))) (tName 7)
  l_law_is_map_3)
noncomputable def b_law_is_map : SF :=
  (sSeq (sIf (bOr (bNot (bVal (eUn isTupleD (eVar 3)))) (bVal (eBin cmpNe (eUn fLen (eVar 3)) (eBin opIx (eVar 0) (eC (.int 0)))))) (sRet (eC (.bool false))) sNil)
  (sSeq (sFor [4, 7] (iRange (eBin opIx (eVar 0) (eC (.int 0)))) (tName 4)
  l_law_is_map_2)
  (sSeq (sFor [5, 6, 7, 8, 9] (iEnum (iSeq (eBin opIx (eVar 0) (eC (.int 1))))) (tTup [(tName 5), (tName 6)])
  l_law_is_map_4)
  (sRet (eC (.bool true))))))
noncomputable def F_law_is_map : FF := runF 10 4 b_law_is_map

/-- _law_width: 0 form, 1 one, 2 other, 3 many, 4 kind, 5 k -/
noncomputable def l_law_width_1 : SF :=
  (sSet 3 (eBin opMul (eVar 3) (eBin opIx (eBin opIx (eVar 2) (eC (.int 0))) (eVar 4))))
noncomputable def l_law_width_2 : SF :=
  (sFor [5] (iRange (eBin opIx (eBin opIx (eVar 1) (eC (.int 0))) (eVar 4))) (tName 5)
  l_law_width_1)
noncomputable def b_law_width : SF :=
  (sSeq (sSet 3 (eC (.int 1)))
  (sSeq (sFor [4, 5] (iRange (eBin opIx (eVar 0) (eC (.int 0)))) (tName 4)
  l_law_width_2)
  (sRet (eVar 3))))
noncomputable def F_law_width : FF := runF 6 3 b_law_width

/-- _law_tuples: 0 many, 1 most, 2 found, 3 k, 4 more, 5 row, 6 x -/
noncomputable def c_law_tuples_1 : EF :=
  (eBin opAdd (eVar 5) (eTup (zCons (eVar 6) zNil)))
noncomputable def l_law_tuples_1 : SF :=
  (sExt 4 (eLc [6] (iRange (eVar 1)) (tName 6) bYes c_law_tuples_1))
noncomputable def l_law_tuples_2 : SF :=
  (sSeq (sSet 4 (eLst zNil))
  (sLock 2 (sSeq (sFor [5] (iSeq (eVar 2)) (tName 5)
  l_law_tuples_1)
  (sMove 2 4))))
noncomputable def b_law_tuples : SF :=
  (sSeq (sSet 2 (eLst (zCons (eTup zNil) zNil)))
  (sSeq (sFor [3, 4, 5] (iRange (eVar 0)) (tName 3)
  l_law_tuples_2)
  (sRetOwn 2)))
noncomputable def F_law_tuples : FF := runF 7 2 b_law_tuples

/-- _law_maps: 0 form, 1 one, 2 other, 3 found, 4 kind, 5 more, 6 chart, 7 row -/
noncomputable def c_law_maps_1 : EF :=
  (eBin opAdd (eVar 6) (eTup (zCons (eVar 7) zNil)))
noncomputable def l_law_maps_1 : SF :=
  (sExt 5 (eLc [7] (iAny (eCall F_law_tuples (aCons (eBin opIx (eBin opIx (eVar 1) (eC (.int 0))) (eVar 4)) (aCons (eBin opIx (eBin opIx (eVar 2) (eC (.int 0))) (eVar 4)) aNil)))) (tName 7) bYes c_law_maps_1))
noncomputable def l_law_maps_2 : SF :=
  (sSeq (sSet 5 (eLst zNil))
  (sLock 3 (sSeq (sFor [6] (iSeq (eVar 3)) (tName 6)
  l_law_maps_1)
  (sMove 3 5))))
noncomputable def c_law_maps_2 : EF :=
  (eVar 6)
noncomputable def b_law_maps : SF :=
  (sSeq (sSet 3 (eLst (zCons (eTup zNil) zNil)))
  (sSeq (sFor [4, 5, 6] (iRange (eBin opIx (eVar 0) (eC (.int 0)))) (tName 4)
  l_law_maps_2)
  (sRet (eLc [6] (iAny (eVar 3)) (tName 6) (bVal (eCall F_law_is_map (aCons (eVar 0) (aCons (eVar 1) (aCons (eVar 2) (aCons (eVar 6) aNil)))))) c_law_maps_2))))
noncomputable def F_law_maps : FF := runF 8 3 b_law_maps

/-- is_path: 0 form, 1 kind, 2 other, 3 path, 4 arrow -/
noncomputable def l_p_is_path_1 : SF :=
  (sSeq (sIf (bOr (bNot (bVal (eCh2 cmpLe cmpLt (eC (.int 0)) (eVar 4) (eUn fLen (eBin opIx (eVar 0) (eC (.int 1))))))) (bVal (eBin cmpNe (eBin opIx (eBin opIx (eBin opIx (eVar 0) (eC (.int 1))) (eVar 4)) (eC (.int 0))) (eVar 1)))) (sRet (eC (.bool false))) sNil)
  (sSet 1 (eBin opIx (eBin opIx (eBin opIx (eVar 0) (eC (.int 1))) (eVar 4)) (eC (.int 1)))))
noncomputable def b_p_is_path : SF :=
  (sSeq (sFor [4] (iSeq (eVar 3)) (tName 4)
  l_p_is_path_1)
  (sRet (eBin cmpEq (eVar 1) (eVar 2))))
noncomputable def F_p_is_path : FF := runF 5 4 b_p_is_path

/-- is_shift: 0 source, 1 target, 2 shift, 3 places, 4 arrow, 5 way, 6 place -/
noncomputable def c_p_is_shift_1 : EF :=
  (eCh2 cmpLe cmpLt (eC (.int 0)) (eVar 6) (eBin opIx (eVar 1) (eC (.int 0))))
noncomputable def l_p_is_shift_1 : SF :=
  (sIf (bNot (bVal (eCall F_p_is_path (aCons (eVar 1) (aCons (eBin opIx (eVar 3) (eBin opIx (eVar 4) (eC (.int 0)))) (aCons (eBin opIx (eVar 3) (eBin opIx (eVar 4) (eC (.int 1)))) (aCons (eVar 5) aNil))))))) (sRet (eC (.bool false))) sNil)
noncomputable def b_p_is_shift : SF :=
  (sSeq (sSet 3 (eBin opIx (eVar 2) (eC (.int 0))))
  (sSeq (sIf (bOr (bVal (eBin cmpNe (eUn fLen (eVar 3)) (eBin opIx (eVar 0) (eC (.int 0))))) (bNot (bVal (eUn fAll (eLc [6] (iAny (eVar 3)) (tName 6) bYes c_p_is_shift_1))))) (sRet (eC (.bool false))) sNil)
  (sSeq (sIf (bVal (eBin cmpNe (eUn fLen (eBin opIx (eVar 2) (eC (.int 1)))) (eUn fLen (eBin opIx (eVar 0) (eC (.int 1)))))) (sRet (eC (.bool false))) sNil)
  (sSeq (sFor [4, 5] (iZipA (eBin opIx (eVar 0) (eC (.int 1))) (eBin opIx (eVar 2) (eC (.int 1)))) (tTup [(tName 4), (tName 5)])
  l_p_is_shift_1)
  (sRet (eC (.bool true)))))))
noncomputable def F_p_is_shift : FF := runF 7 3 b_p_is_shift

/-- own_shift: 0 form, 1 k -/
noncomputable def c_p_own_shift_1 : EF :=
  (eTup (zCons (eVar 1) zNil))
noncomputable def b_p_own_shift : SF :=
  (sRet (eTup (zCons (eUn fTupleRg (eBin opIx (eVar 0) (eC (.int 0)))) (zCons (eUn fTuple (eLc [1] (iRange (eUn fLen (eBin opIx (eVar 0) (eC (.int 1))))) (tName 1) bYes c_p_own_shift_1)) zNil))))
noncomputable def F_p_own_shift : FF := runF 2 1 b_p_own_shift

/-- way_along: 0 shift, 1 path, 2 found, 3 arrow -/
noncomputable def l_p_way_along_1 : SF :=
  (sSet 2 (eBin opAdd (eVar 2) (eBin opIx (eBin opIx (eVar 0) (eC (.int 1))) (eVar 3))))
noncomputable def b_p_way_along : SF :=
  (sSeq (sSet 2 (eTup zNil))
  (sSeq (sFor [3] (iSeq (eVar 1)) (tName 3)
  l_p_way_along_1)
  (sRet (eVar 2))))
noncomputable def F_p_way_along : FF := runF 4 2 b_p_way_along

/-- joined: 0 one, 1 other, 2 places, 3 place, 4 way -/
noncomputable def c_p_joined_1 : EF :=
  (eBin opIx (eBin opIx (eVar 1) (eC (.int 0))) (eVar 3))
noncomputable def c_p_joined_2 : EF :=
  (eCall F_p_way_along (aCons (eVar 1) (aCons (eVar 4) aNil)))
noncomputable def b_p_joined : SF :=
  (sSeq (sSet 2 (eUn fTuple (eLc [3] (iAny (eBin opIx (eVar 0) (eC (.int 0)))) (tName 3) bYes c_p_joined_1)))
  (sRet (eTup (zCons (eVar 2) (zCons (eUn fTuple (eLc [4] (iAny (eBin opIx (eVar 0) (eC (.int 1)))) (tName 4) bYes c_p_joined_2)) zNil)))))
noncomputable def F_p_joined : FF := runF 5 2 b_p_joined

/-- _law_fits: 0 target, 1 places, 2 arrows, 3 kind, 4 spot, 5 a, 6 b -/
noncomputable def l_law_fits_1 : SF :=
  (sIf (bAnd (bVal (eBin cmpEq (eVar 6) (eVar 3))) (bVal (eBin cmpEq (eCall F_law_paths (aCons (eVar 0) (aCons (eBin opIx (eVar 1) (eVar 5)) (aCons (eVar 4) aNil)))) (eLst zNil)))) (sRet (eC (.bool false))) sNil)
noncomputable def b_law_fits : SF :=
  (sSeq (sFor [5, 6] (iSeq (eVar 2)) (tTup [(tName 5), (tName 6)])
  l_law_fits_1)
  (sRet (eC (.bool true))))
noncomputable def F_law_fits : FF := runF 7 5 b_law_fits

/-- _law_shift: 0 script, 1 first, 2 source, 3 target, 4 places, 5 kind, 6 ways, 7 k, 8 arrow, 9 spot, 10 turn, 11 some -/
noncomputable def l_law_shift_1 : SF :=
  (sIf (bNot (bVal (eCall F_law_fits (aCons (eVar 3) (aCons (eVar 4) (aCons (eBin opIx (eVar 2) (eC (.int 1))) (aCons (eVar 5) (aCons (eVar 9) aNil)))))))) (sSet 9 (eBin opMod (eBin opAdd (eVar 9) (eC (.int 1))) (eBin opIx (eVar 3) (eC (.int 0))))) sNil)
noncomputable def l_law_shift_2 : SF :=
  (sSeq (sSet 9 (eCall F_law_draw (aCons (eCall F_law_cell (aCons (eVar 0) (aCons (eVar 1) aNil))) (aCons (eVar 5) (aCons (eBin opIx (eVar 3) (eC (.int 0))) aNil)))))
  (sSeq (sFor [10] (iRange (eBin opIx (eVar 3) (eC (.int 0)))) (tName 10)
  l_law_shift_1)
  (sSeq (sIf (bNot (bVal (eCall F_law_fits (aCons (eVar 3) (aCons (eVar 4) (aCons (eBin opIx (eVar 2) (eC (.int 1))) (aCons (eVar 5) (aCons (eVar 9) aNil)))))))) (sRet (eTup (zCons (eUn fTuple (eBin opMul (eLst (zCons (eVar 9) zNil)) (eBin opIx (eVar 2) (eC (.int 0))))) (zCons (eUn fTuple (eBin opMul (eLst (zCons (eTup zNil) zNil)) (eUn fLen (eBin opIx (eVar 2) (eC (.int 1)))))) zNil)))) sNil)
  (sApp 4 (eVar 9)))))
noncomputable def l_law_shift_3 : SF :=
  (sSeq (sSet 11 (eCall F_law_paths (aCons (eVar 3) (aCons (eBin opIx (eVar 4) (eBin opIx (eVar 8) (eC (.int 0)))) (aCons (eBin opIx (eVar 4) (eBin opIx (eVar 8) (eC (.int 1)))) aNil)))))
  (sApp 6 (eBin opIx (eVar 11) (eCall F_law_draw (aCons (eCall F_law_cell (aCons (eVar 0) (aCons (eBin opAdd (eVar 1) (eC (.int 1))) aNil))) (aCons (eVar 7) (aCons (eUn fLen (eVar 11)) aNil)))))))
noncomputable def b_law_shift : SF :=
  (sSeq (sSet 4 (eLst zNil))
  (sSeq (sFor [5, 9, 10] (iRange (eBin opIx (eVar 2) (eC (.int 0)))) (tName 5)
  l_law_shift_2)
  (sSeq (sSet 6 (eLst zNil))
  (sSeq (sFor [7, 8, 11] (iEnum (iSeq (eBin opIx (eVar 2) (eC (.int 1))))) (tTup [(tName 7), (tName 8)])
  l_law_shift_3)
  (sRet (eTup (zCons (eUn fTuple (eVar 4)) (zCons (eUn fTuple (eVar 6)) zNil))))))))
noncomputable def F_law_shift : FF := runF 12 4 b_law_shift

/-- _law_back: 0 source, 1 shift, 2 book, 3 rows, 4 steps, 5 arrow, 6 way, 7 place, 8 row -/
noncomputable def c_law_back_1 : EF :=
  (eBin opIx (eBin opIx (eVar 2) (eC (.int 0))) (eVar 7))
noncomputable def c_law_back_2 : EF :=
  (eCall F_law_went (aCons (eVar 2) (aCons (eVar 6) (aCons (eVar 8) aNil))))
noncomputable def l_law_back_1 : SF :=
  (sApp 4 (eUn fTuple (eLc [8] (iRange (eBin opIx (eVar 3) (eBin opIx (eVar 5) (eC (.int 0))))) (tName 8) bYes c_law_back_2)))
noncomputable def b_law_back : SF :=
  (sSeq (sSet 3 (eUn fTuple (eLc [7] (iAny (eBin opIx (eVar 1) (eC (.int 0)))) (tName 7) bYes c_law_back_1)))
  (sSeq (sSet 4 (eLst zNil))
  (sSeq (sFor [5, 6] (iZipA (eBin opIx (eVar 0) (eC (.int 1))) (eBin opIx (eVar 1) (eC (.int 1)))) (tTup [(tName 5), (tName 6)])
  l_law_back_1)
  (sRet (eTup (zCons (eVar 3) (zCons (eUn fTuple (eVar 4)) zNil)))))))
noncomputable def F_law_back : FF := runF 9 3 b_law_back

/-- _law_joined: 0 one, 1 other, 2 ways, 3 way, 4 found, 5 arrow, 6 place -/
noncomputable def l_law_joined_1 : SF :=
  (sSet 4 (eBin opAdd (eVar 4) (eBin opIx (eBin opIx (eVar 1) (eC (.int 1))) (eVar 5))))
noncomputable def l_law_joined_2 : SF :=
  (sSeq (sSet 4 (eTup zNil))
  (sSeq (sFor [5] (iSeq (eVar 3)) (tName 5)
  l_law_joined_1)
  (sApp 2 (eVar 4))))
noncomputable def c_law_joined_1 : EF :=
  (eBin opIx (eBin opIx (eVar 1) (eC (.int 0))) (eVar 6))
noncomputable def b_law_joined : SF :=
  (sSeq (sSet 2 (eLst zNil))
  (sSeq (sFor [3, 4, 5] (iSeq (eBin opIx (eVar 0) (eC (.int 1)))) (tName 3)
  l_law_joined_2)
  (sRet (eTup (zCons (eUn fTuple (eLc [6] (iAny (eBin opIx (eVar 0) (eC (.int 0)))) (tName 6) bYes c_law_joined_1)) (zCons (eUn fTuple (eVar 2)) zNil))))))
noncomputable def F_law_joined : FF := runF 7 2 b_law_joined

/-- taken_back: 0 source, 1 shift, 2 book, 3 rows, 4 steps, 5 arrow, 6 way, 7 place, 8 row -/
noncomputable def c_p_taken_back_1 : EF :=
  (eBin opIx (eBin opIx (eVar 2) (eC (.int 0))) (eVar 7))
noncomputable def c_p_taken_back_2 : EF :=
  (eCall F_p_went (aCons (eVar 2) (aCons (eVar 6) (aCons (eVar 8) aNil))))
noncomputable def l_p_taken_back_1 : SF :=
  (sApp 4 (eUn fTuple (eLc [8] (iRange (eBin opIx (eVar 3) (eBin opIx (eVar 5) (eC (.int 0))))) (tName 8) bYes c_p_taken_back_2)))
noncomputable def b_p_taken_back : SF :=
  (sSeq (sSet 3 (eUn fTuple (eLc [7] (iAny (eBin opIx (eVar 1) (eC (.int 0)))) (tName 7) bYes c_p_taken_back_1)))
  (sSeq (sSet 4 (eLst zNil))
  (sSeq (sFor [5, 6] (iZipA (eBin opIx (eVar 0) (eC (.int 1))) (eBin opIx (eVar 1) (eC (.int 1)))) (tTup [(tName 5), (tName 6)])
  l_p_taken_back_1)
  (sRet (eTup (zCons (eVar 3) (zCons (eUn fTuple (eVar 4)) zNil)))))))
noncomputable def F_p_taken_back : FF := runF 9 3 b_p_taken_back

/-- map_back: 0 shift, 1 chart, 2 place -/
noncomputable def c_p_map_back_1 : EF :=
  (eBin opIx (eVar 1) (eVar 2))
noncomputable def b_p_map_back : SF :=
  (sRet (eUn fTuple (eLc [2] (iAny (eBin opIx (eVar 0) (eC (.int 0)))) (tName 2) bYes c_p_map_back_1)))
noncomputable def F_p_map_back : FF := runF 3 2 b_p_map_back

/-- top: 0 head, 1 triple -/
noncomputable def t_p_top_1 : BF :=
  (bVal (eBin cmpNe (eBin opIxD (eVar 0) (eVar 1)) (eVar 1)))
noncomputable def l_p_top_1 : SF :=
  (sSet 1 (eBin opIxD (eVar 0) (eVar 1)))
noncomputable def b_p_top : SF :=
  (sSeq (sWhile [] t_p_top_1
  l_p_top_1)
  (sRet (eVar 1)))
noncomputable def F_p_top : FF := runF 2 2 b_p_top

/-- _law_ties: 0 source, 1 target, 2 shift, 3 book, 4 kind, 5 found, 6 a, 7 arrow, 8 path, 9 x, 10 one -/
noncomputable def l_law_ties_1 : SF :=
  (sSeq (sSet 10 (eTup (zCons (eBin opIx (eVar 7) (eC (.int 0))) (zCons (eBin opAdd (eBin opIx (eBin opIx (eVar 2) (eC (.int 1))) (eVar 6)) (eVar 8)) (zCons (eVar 9) zNil)))))
  (sApp 5 (eTup (zCons (eVar 10) (zCons (eTup (zCons (eBin opIx (eVar 7) (eC (.int 1))) (zCons (eVar 8) (zCons (eBin opIx (eBin opIx (eBin opIx (eVar 3) (eC (.int 1))) (eVar 6)) (eVar 9)) zNil)))) zNil)))))
noncomputable def l_law_ties_2 : SF :=
  (sFor [9, 10] (iRange (eBin opIx (eBin opIx (eVar 3) (eC (.int 0))) (eBin opIx (eVar 7) (eC (.int 0))))) (tName 9)
  l_law_ties_1)
noncomputable def l_law_ties_3 : SF :=
  (sFor [8, 9, 10] (iSeq (eFrz (eCall F_law_paths (aCons (eVar 1) (aCons (eBin opIx (eBin opIx (eVar 2) (eC (.int 0))) (eBin opIx (eVar 7) (eC (.int 1)))) (aCons (eVar 4) aNil)))))) (tName 8)
  l_law_ties_2)
noncomputable def b_law_ties : SF :=
  (sSeq (sSet 5 (eLst zNil))
  (sSeq (sFor [6, 7, 8, 9, 10] (iEnum (iSeq (eBin opIx (eVar 0) (eC (.int 1))))) (tTup [(tName 6), (tName 7)])
  l_law_ties_3)
  (sRetOwn 5)))
noncomputable def F_law_ties : FF := runF 11 5 b_law_ties

/-- _law_firsts: 0 numbers, 1 firsts, 2 triple -/
noncomputable def l_law_firsts_1 : SF :=
  (sIf (bVal (eBin cmpEq (eBin opIxD (eVar 0) (eVar 2)) (eUn fLen (eVar 1)))) (sApp 1 (eVar 2)) sNil)
noncomputable def b_law_firsts : SF :=
  (sSeq (sSet 1 (eLst zNil))
  (sSeq (sFor [2] (iKeys (eVar 0)) (tName 2)
  l_law_firsts_1)
  (sRetOwn 1)))
noncomputable def F_law_firsts : FF := runF 3 1 b_law_firsts

/-- _law_carried: 0 target, 1 rows, 2 firsts, 3 steps, 4 b, 5 arrow, 6 step, 7 c, 8 path, 9 x, 10 numbers, 11 some -/
noncomputable def c_law_carried_1 : EF :=
  (eCall F_law_firsts (aCons (eVar 10) aNil))
noncomputable def l_law_carried_1 : SF :=
  (sApp 6 (eBin opIxD (eBin opIx (eVar 1) (eBin opIx (eVar 5) (eC (.int 1)))) (eTup (zCons (eVar 7) (zCons (eBin opAdd (eVar 8) (eTup (zCons (eVar 4) zNil))) (zCons (eVar 9) zNil))))))
noncomputable def l_law_carried_2 : SF :=
  (sSeq (sSet 6 (eLst zNil))
  (sSeq (sFor [7, 8, 9] (iSeq (eBin opIx (eVar 2) (eBin opIx (eVar 5) (eC (.int 0))))) (tTup [(tName 7), (tName 8), (tName 9)])
  l_law_carried_1)
  (sApp 3 (eUn fTuple (eVar 6)))))
noncomputable def c_law_carried_2 : EF :=
  (eUn fLen (eVar 11))
noncomputable def b_law_carried : SF :=
  (sSeq (sSet 2 (eLc [10] (iAny (eVar 1)) (tName 10) bYes c_law_carried_1))
  (sSeq (sSet 3 (eLst zNil))
  (sSeq (sFor [4, 5, 6, 7, 8, 9] (iEnum (iSeq (eBin opIx (eVar 0) (eC (.int 1))))) (tTup [(tName 4), (tName 5)])
  l_law_carried_2)
  (sRet (eTup (zCons (eUn fTuple (eLc [11] (iAny (eVar 2)) (tName 11) bYes c_law_carried_2)) (zCons (eUn fTuple (eVar 3)) zNil)))))))
noncomputable def F_law_carried : FF := runF 12 2 b_law_carried

/-- _law_unit: 0 shift, 1 book, 2 rows, 3 found, 4 c, 5 place, 6 x -/
noncomputable def c_law_unit_1 : EF :=
  (eBin opIxD (eBin opIx (eVar 2) (eVar 5)) (eTup (zCons (eVar 4) (zCons (eTup zNil) (zCons (eVar 6) zNil)))))
noncomputable def l_law_unit_1 : SF :=
  (sApp 3 (eUn fTuple (eLc [6] (iRange (eBin opIx (eBin opIx (eVar 1) (eC (.int 0))) (eVar 4))) (tName 6) bYes c_law_unit_1)))
noncomputable def b_law_unit : SF :=
  (sSeq (sSet 3 (eLst zNil))
  (sSeq (sFor [4, 5] (iEnum (iSeq (eBin opIx (eVar 0) (eC (.int 0))))) (tTup [(tName 4), (tName 5)])
  l_law_unit_1)
  (sRet (eUn fTuple (eVar 3)))))
noncomputable def F_law_unit : FF := runF 7 3 b_law_unit

/-- _law_out: 0 rows, 1 other, 2 chart, 3 found, 4 numbers, 5 c, 6 path, 7 x -/
noncomputable def c_law_out_1 : EF :=
  (eCall F_law_went (aCons (eVar 1) (aCons (eVar 6) (aCons (eBin opIx (eBin opIx (eVar 2) (eVar 5)) (eVar 7)) aNil))))
noncomputable def l_law_out_1 : SF :=
  (sApp 3 (eUn fTuple (eLc [5, 6, 7] (iAny (eCall F_law_firsts (aCons (eVar 4) aNil))) (tTup [(tName 5), (tName 6), (tName 7)]) bYes c_law_out_1)))
noncomputable def b_law_out : SF :=
  (sSeq (sSet 3 (eLst zNil))
  (sSeq (sFor [4] (iSeq (eVar 0)) (tName 4)
  l_law_out_1)
  (sRet (eUn fTuple (eVar 3)))))
noncomputable def F_law_out : FF := runF 8 3 b_law_out

/-- _law_one_of: 0 form, 1 one, 2 other, 3 cell, 4 some -/
noncomputable def b_law_one_of : SF :=
  (sSeq (sIf (bVal (eBin cmpGt (eCall F_law_width (aCons (eVar 0) (aCons (eVar 1) (aCons (eVar 2) aNil)))) (eC (.int 200)))) (sRet (eC .none)) sNil)
  (sSeq (sSet 4 (eCall F_law_maps (aCons (eVar 0) (aCons (eVar 1) (aCons (eVar 2) aNil)))))
  (sSeq (sIf (bVal (eBin cmpEq (eVar 4) (eLst zNil))) (sRet (eC .none)) sNil)
  (sRet (eBin opIx (eVar 4) (eBin opMod (eVar 3) (eUn fLen (eVar 4))))))))
noncomputable def F_law_one_of : FF := runF 5 4 b_law_one_of
end FS
set_option Elab.async false
set_option linter.all false
set_option maxRecDepth 100000
set_option autoImplicit false
namespace FS
open PySem
/-- Carry.ties: 0 self, 1 kind, 2 found, 3 a, 4 arrow, 5 path, 6 x, 7 one -/
noncomputable def l_p_Carry_ties_1 : SF :=
  (sSeq (sSet 7 (eTup (zCons (eBin opIx (eVar 4) (eC (.int 0))) (zCons (eBin opAdd (eBin opIx (eBin opIx (eFld (eVar 0) "shift") (eC (.int 1))) (eVar 3)) (eVar 5)) (zCons (eVar 6) zNil)))))
  (sApp 2 (eTup (zCons (eVar 7) (zCons (eTup (zCons (eBin opIx (eVar 4) (eC (.int 1))) (zCons (eVar 5) (zCons (eBin opIx (eBin opIx (eBin opIx (eFld (eVar 0) "book") (eC (.int 1))) (eVar 3)) (eVar 6)) zNil)))) zNil)))))
noncomputable def l_p_Carry_ties_2 : SF :=
  (sFor [6, 7] (iRange (eBin opIx (eBin opIx (eFld (eVar 0) "book") (eC (.int 0))) (eBin opIx (eVar 4) (eC (.int 0))))) (tName 6)
  l_p_Carry_ties_1)
noncomputable def l_p_Carry_ties_3 : SF :=
  (sFor [5, 6, 7] (iSeq (eFrz (eCall F_p_paths (aCons (eFld (eVar 0) "target") (aCons (eBin opIx (eBin opIx (eFld (eVar 0) "shift") (eC (.int 0))) (eBin opIx (eVar 4) (eC (.int 1)))) (aCons (eVar 1) aNil)))))) (tName 5)
  l_p_Carry_ties_2)
noncomputable def b_p_Carry_ties : SF :=
  (sSeq (sSet 2 (eLst zNil))
  (sSeq (sFor [3, 4, 5, 6, 7] (iEnum (iSeq (eBin opIx (eFld (eVar 0) "source") (eC (.int 1))))) (tTup [(tName 3), (tName 4)])
  l_p_Carry_ties_3)
  (sRetOwn 2)))
noncomputable def F_p_Carry_ties : FF := runF 8 2 b_p_Carry_ties

/-- Carry.triples: 0 self, 1 kind, 2 found, 3 c, 4 path, 5 x -/
noncomputable def c_p_Carry_triples_1 : EF :=
  (eTup (zCons (eVar 3) (zCons (eVar 4) (zCons (eVar 5) zNil))))
noncomputable def l_p_Carry_triples_1 : SF :=
  (sExt 2 (eLc [5] (iRange (eBin opIx (eBin opIx (eFld (eVar 0) "book") (eC (.int 0))) (eVar 3))) (tName 5) bYes c_p_Carry_triples_1))
noncomputable def l_p_Carry_triples_2 : SF :=
  (sFor [4] (iSeq (eFrz (eCall F_p_paths (aCons (eFld (eVar 0) "target") (aCons (eBin opIx (eBin opIx (eFld (eVar 0) "shift") (eC (.int 0))) (eVar 3)) (aCons (eVar 1) aNil)))))) (tName 4)
  l_p_Carry_triples_1)
noncomputable def b_p_Carry_triples : SF :=
  (sSeq (sSet 2 (eLst zNil))
  (sSeq (sFor [3, 4] (iRange (eBin opIx (eFld (eVar 0) "source") (eC (.int 0)))) (tName 3)
  l_p_Carry_triples_2)
  (sRetOwn 2)))
noncomputable def F_p_Carry_triples : FF := runF 6 2 b_p_Carry_triples

/-- Carry.lay: 0 self, 1 kind, 2 row, 3 head, 4 triple, 5 one, 6 other, 7 numbers, 8 firsts, 9 spoken, 10 speaker -/
noncomputable def l_p_Carry_lay_1 : SF :=
  (sPutD 3 (eVar 4) (eVar 4))
noncomputable def l_p_Carry_lay_2 : SF :=
  (sPutD 3 (eCall F_p_top (aCons (eVar 3) (aCons (eVar 5) aNil))) (eCall F_p_top (aCons (eVar 3) (aCons (eVar 6) aNil))))
noncomputable def l_p_Carry_lay_3 : SF :=
  (sSeq (sSet 10 (eCall F_p_top (aCons (eVar 3) (aCons (eVar 4) aNil))))
  (sSeq (sIf (bVal (eBin cmpNotInD (eVar 10) (eVar 9))) (sSeq (sPutD 9 (eVar 10) (eUn fLen (eVar 8)))
  (sApp 8 (eVar 4))) sNil)
  (sPutD 7 (eVar 4) (eBin opIxD (eVar 9) (eVar 10)))))
noncomputable def b_p_Carry_lay : SF :=
  (sSeq (sSet 2 (eMeth F_p_Carry_triples (eVar 0) (aCons (eVar 1) aNil)))
  (sSeq (sSet 3 eNewD)
  (sLock 2 (sSeq (sFor [4] (iSeq (eVar 2)) (tName 4)
  l_p_Carry_lay_1)
  (sSeq (sFor [5, 6] (iSeq (eFrz (eMeth F_p_Carry_ties (eVar 0) (aCons (eVar 1) aNil)))) (tTup [(tName 5), (tName 6)])
  l_p_Carry_lay_2)
  (sSeq (sSet 7 eNewD)
  (sSeq (sSet 8 (eLst zNil))
  (sSeq (sSet 9 eNewD)
  (sSeq (sFor [4, 10] (iSeq (eVar 2)) (tName 4)
  l_p_Carry_lay_3)
  (sLock 8 (sLock 7 sNil)))))))))))
noncomputable def lay_p_Carry : List (Str × D) → D → Option (D × D) := layF 11 8 7 b_p_Carry_lay

/-- the instance -/
noncomputable def F_p_Carry : FF := makeF lay_p_Carry

/-- carried_book: 0 carry, 1 rows, 2 steps, 3 b, 4 arrow, 5 step, 6 c, 7 path, 8 x, 9 firsts -/
noncomputable def c_p_carried_book_1 : EF :=
  (eUn fLen (eVar 9))
noncomputable def l_p_carried_book_1 : SF :=
  (sApp 5 (eBin opIxD (eBin opIx (eFld (eVar 0) "numbers") (eBin opIx (eVar 4) (eC (.int 1)))) (eTup (zCons (eVar 6) (zCons (eBin opAdd (eVar 7) (eTup (zCons (eVar 3) zNil))) (zCons (eVar 8) zNil))))))
noncomputable def l_p_carried_book_2 : SF :=
  (sSeq (sSet 5 (eLst zNil))
  (sSeq (sFor [6, 7, 8] (iSeq (eBin opIx (eFld (eVar 0) "firsts") (eBin opIx (eVar 4) (eC (.int 0))))) (tTup [(tName 6), (tName 7), (tName 8)])
  l_p_carried_book_1)
  (sApp 2 (eUn fTuple (eVar 5)))))
noncomputable def b_p_carried_book : SF :=
  (sSeq (sSet 1 (eUn fTuple (eLc [9] (iAny (eFld (eVar 0) "firsts")) (tName 9) bYes c_p_carried_book_1)))
  (sSeq (sSet 2 (eLst zNil))
  (sSeq (sFor [3, 4, 5, 6, 7, 8] (iEnum (iSeq (eBin opIx (eFld (eVar 0) "target") (eC (.int 1))))) (tTup [(tName 3), (tName 4)])
  l_p_carried_book_2)
  (sRet (eTup (zCons (eVar 1) (zCons (eUn fTuple (eVar 2)) zNil)))))))
noncomputable def F_p_carried_book : FF := runF 10 1 b_p_carried_book

/-- carried: 0 source, 1 target, 2 shift, 3 book -/
noncomputable def b_p_carried : SF :=
  (sRet (eCall F_p_carried_book (aCons (eCall F_p_Carry (aCons (eVar 0) (aCons (eVar 1) (aCons (eVar 2) (aCons (eVar 3) aNil))))) aNil)))
noncomputable def F_p_carried : FF := runF 4 4 b_p_carried

/-- unit: 0 source, 1 target, 2 shift, 3 book, 4 carry, 5 found, 6 c, 7 place, 8 x -/
noncomputable def c_p_unit_1 : EF :=
  (eBin opIxD (eBin opIx (eFld (eVar 4) "numbers") (eVar 7)) (eTup (zCons (eVar 6) (zCons (eTup zNil) (zCons (eVar 8) zNil)))))
noncomputable def l_p_unit_1 : SF :=
  (sApp 5 (eUn fTuple (eLc [8] (iRange (eBin opIx (eBin opIx (eVar 3) (eC (.int 0))) (eVar 6))) (tName 8) bYes c_p_unit_1)))
noncomputable def b_p_unit : SF :=
  (sSeq (sSet 4 (eCall F_p_Carry (aCons (eVar 0) (aCons (eVar 1) (aCons (eVar 2) (aCons (eVar 3) aNil))))))
  (sSeq (sSet 5 (eLst zNil))
  (sSeq (sFor [6, 7] (iEnum (iSeq (eBin opIx (eVar 2) (eC (.int 0))))) (tTup [(tName 6), (tName 7)])
  l_p_unit_1)
  (sRet (eUn fTuple (eVar 5))))))
noncomputable def F_p_unit : FF := runF 9 4 b_p_unit

/-- _law_rows: 0 source, 1 target, 2 shift, 3 book, 4 kind, 5 marks, 6 c, 7 ties, 8 again, 9 known, 10 numbers, 11 triple, 12 path, 13 one, 14 other, 15 x, 16 low -/
noncomputable def l_law_rows_1 : SF :=
  (sPutD 5 (eTup (zCons (eVar 6) (zCons (eVar 12) (zCons (eVar 15) zNil)))) (eUn fLenD (eVar 5)))
noncomputable def l_law_rows_2 : SF :=
  (sFor [15] (iRange (eBin opIx (eBin opIx (eVar 3) (eC (.int 0))) (eVar 6))) (tName 15)
  l_law_rows_1)
noncomputable def l_law_rows_3 : SF :=
  (sFor [12, 15] (iSeq (eFrz (eCall F_law_paths (aCons (eVar 1) (aCons (eBin opIx (eBin opIx (eVar 2) (eC (.int 0))) (eVar 6)) (aCons (eVar 4) aNil)))))) (tName 12)
  l_law_rows_2)
noncomputable def l_law_rows_4 : SF :=
  (sIf (bVal (eBin cmpNe (eBin opIxD (eVar 5) (eVar 13)) (eBin opIxD (eVar 5) (eVar 14)))) (sSeq (sSet 16 (eBin fMin2 (eBin opIxD (eVar 5) (eVar 13)) (eBin opIxD (eVar 5) (eVar 14))))
  (sSeq (sPutD 5 (eVar 13) (eVar 16))
  (sSeq (sPutD 5 (eVar 14) (eVar 16))
  (sSet 8 (eC (.bool true)))))) sNil)
noncomputable def t_law_rows_1 : BF :=
  (bVal (eVar 8))
noncomputable def l_law_rows_5 : SF :=
  (sSeq (sSet 8 (eC (.bool false)))
  (sFor [13, 14, 16] (iSeq (eVar 7)) (tTup [(tName 13), (tName 14)])
  l_law_rows_4))
noncomputable def c_law_rows_1 : EF :=
  (eBin opIxD (eVar 5) (eVar 11))
noncomputable def l_law_rows_6 : SF :=
  (sPutD 10 (eVar 11) (eBin fIndex (eVar 9) (eBin opIxD (eVar 5) (eVar 11))))
noncomputable def b_law_rows : SF :=
  (sSeq (sSet 5 eNewD)
  (sSeq (sFor [6, 12, 15] (iRange (eBin opIx (eVar 0) (eC (.int 0)))) (tName 6)
  l_law_rows_3)
  (sSeq (sSet 7 (eCall F_law_ties (aCons (eVar 0) (aCons (eVar 1) (aCons (eVar 2) (aCons (eVar 3) (aCons (eVar 4) aNil)))))))
  (sSeq (sSet 8 (eC (.bool true)))
  (sLock 7 (sSeq (sWhile [13, 14, 16] t_law_rows_1
  l_law_rows_5)
  (sSeq (sSet 9 (eUn fSortSet (eLc [11] (iKeysC (eVar 5)) (tName 11) bYes c_law_rows_1)))
  (sLock 5 (sSeq (sSet 10 eNewD)
  (sSeq (sFor [11] (iKeys (eVar 5)) (tName 11)
  l_law_rows_6)
  (sRetOwn 10)))))))))))
noncomputable def F_law_rows : FF := runF 17 5 b_law_rows

/-- _law_all_rows: 0 source, 1 target, 2 shift, 3 book, 4 kind -/
noncomputable def c_law_all_rows_1 : EF :=
  (eCall F_law_rows (aCons (eVar 0) (aCons (eVar 1) (aCons (eVar 2) (aCons (eVar 3) (aCons (eVar 4) aNil))))))
noncomputable def b_law_all_rows : SF :=
  (sRet (eLc [4] (iRange (eBin opIx (eVar 1) (eC (.int 0)))) (tName 4) bYes c_law_all_rows_1))
noncomputable def F_law_all_rows : FF := runF 5 4 b_law_all_rows

/-- map_on: 0 source, 1 target, 2 shift, 3 one, 4 other, 5 chart, 6 carry, 7 numbers, 8 found, 9 kind, 10 firsts, 11 c, 12 path, 13 x -/
noncomputable def c_p_map_on_1 : EF :=
  (eBin opIxD (eBin opIx (eVar 7) (eVar 9)) (eTup (zCons (eVar 11) (zCons (eVar 12) (zCons (eBin opIx (eBin opIx (eVar 5) (eVar 11)) (eVar 13)) zNil)))))
noncomputable def l_p_map_on_1 : SF :=
  (sApp 8 (eUn fTuple (eLc [11, 12, 13] (iAny (eVar 10)) (tTup [(tName 11), (tName 12), (tName 13)]) bYes c_p_map_on_1)))
noncomputable def b_p_map_on : SF :=
  (sSeq (sSet 6 (eCall F_p_Carry (aCons (eVar 0) (aCons (eVar 1) (aCons (eVar 2) (aCons (eVar 3) aNil))))))
  (sSeq (sSet 7 (eFld (eCall F_p_Carry (aCons (eVar 0) (aCons (eVar 1) (aCons (eVar 2) (aCons (eVar 4) aNil))))) "numbers"))
  (sSeq (sSet 8 (eLst zNil))
  (sSeq (sFor [9, 10] (iEnum (iSeq (eFld (eVar 6) "firsts"))) (tTup [(tName 9), (tName 10)])
  l_p_map_on_1)
  (sRet (eUn fTuple (eVar 8)))))))
noncomputable def F_p_map_on : FF := runF 14 6 b_p_map_on

/-- _law_map_on: 0 source, 1 target, 2 shift, 3 one, 4 other, 5 chart, 6 found, 7 rows, 8 kind, 9 numbers, 10 row, 11 c, 12 path, 13 x -/
noncomputable def c_law_map_on_1 : EF :=
  (eBin opIxD (eBin opIx (eVar 7) (eVar 8)) (eTup (zCons (eVar 11) (zCons (eVar 12) (zCons (eBin opIx (eBin opIx (eVar 5) (eVar 11)) (eVar 13)) zNil)))))
noncomputable def l_law_map_on_1 : SF :=
  (sSeq (sSet 10 (eLc [11, 12, 13] (iAny (eCall F_law_firsts (aCons (eVar 9) aNil))) (tTup [(tName 11), (tName 12), (tName 13)]) bYes c_law_map_on_1))
  (sApp 6 (eUn fTuple (eVar 10))))
noncomputable def b_law_map_on : SF :=
  (sSeq (sSet 6 (eLst zNil))
  (sSeq (sSet 7 (eCall F_law_all_rows (aCons (eVar 0) (aCons (eVar 1) (aCons (eVar 2) (aCons (eVar 4) aNil))))))
  (sSeq (sFor [8, 9, 10] (iEnum (iSeq (eFrz (eCall F_law_all_rows (aCons (eVar 0) (aCons (eVar 1) (aCons (eVar 2) (aCons (eVar 3) aNil)))))))) (tTup [(tName 8), (tName 9)])
  l_law_map_on_1)
  (sRet (eUn fTuple (eVar 6))))))
noncomputable def F_law_map_on : FF := runF 14 6 b_law_map_on

/-- into: 0 source, 1 target, 2 shift, 3 book, 4 chart, 5 first, 6 found, 7 c, 8 place, 9 row -/
noncomputable def c_p_into_1 : EF :=
  (eBin opIx (eBin opIx (eVar 4) (eVar 8)) (eVar 9))
noncomputable def l_p_into_1 : SF :=
  (sApp 6 (eUn fTuple (eLc [9] (iAny (eBin opIx (eVar 5) (eVar 7))) (tName 9) bYes c_p_into_1)))
noncomputable def b_p_into : SF :=
  (sSeq (sSet 5 (eCall F_p_unit (aCons (eVar 0) (aCons (eVar 1) (aCons (eVar 2) (aCons (eVar 3) aNil))))))
  (sSeq (sSet 6 (eLst zNil))
  (sSeq (sFor [7, 8] (iEnum (iSeq (eBin opIx (eVar 2) (eC (.int 0))))) (tTup [(tName 7), (tName 8)])
  l_p_into_1)
  (sRet (eUn fTuple (eVar 6))))))
noncomputable def F_p_into : FF := runF 10 5 b_p_into

/-- out_of: 0 source, 1 target, 2 shift, 3 book, 4 other, 5 chart, 6 carry, 7 found, 8 firsts, 9 c, 10 path, 11 x -/
noncomputable def c_p_out_of_1 : EF :=
  (eCall F_p_went (aCons (eVar 4) (aCons (eVar 10) (aCons (eBin opIx (eBin opIx (eVar 5) (eVar 9)) (eVar 11)) aNil))))
noncomputable def l_p_out_of_1 : SF :=
  (sApp 7 (eUn fTuple (eLc [9, 10, 11] (iAny (eVar 8)) (tTup [(tName 9), (tName 10), (tName 11)]) bYes c_p_out_of_1)))
noncomputable def b_p_out_of : SF :=
  (sSeq (sSet 6 (eCall F_p_Carry (aCons (eVar 0) (aCons (eVar 1) (aCons (eVar 2) (aCons (eVar 3) aNil))))))
  (sSeq (sSet 7 (eLst zNil))
  (sSeq (sFor [8] (iSeq (eFld (eVar 6) "firsts")) (tName 8)
  l_p_out_of_1)
  (sRet (eUn fTuple (eVar 7))))))
noncomputable def F_p_out_of : FF := runF 12 6 b_p_out_of

/-- _law_one_to_one: 0 form, 1 one, 2 other, 3 chart, 4 row -/
noncomputable def l_law_one_to_one_1 : SF :=
  (sIf (bVal (eBin cmpNe (eUn fLenSet (eVar 4)) (eUn fLen (eVar 4)))) (sRet (eC (.bool false))) sNil)
noncomputable def b_law_one_to_one : SF :=
  (sSeq (sIf (bOr (bNot (bVal (eCall F_law_is_map (aCons (eVar 0) (aCons (eVar 1) (aCons (eVar 2) (aCons (eVar 3) aNil))))))) (bVal (eBin cmpNe (eBin opIx (eVar 1) (eC (.int 0))) (eBin opIx (eVar 2) (eC (.int 0)))))) (sRet (eC (.bool false))) sNil)
  (sSeq (sFor [4] (iSeq (eVar 3)) (tName 4)
  l_law_one_to_one_1)
  (sRet (eC (.bool true)))))
noncomputable def F_law_one_to_one : FF := runF 5 4 b_law_one_to_one
end FS
set_option Elab.async false
set_option linter.all false
set_option maxRecDepth 100000
set_option autoImplicit false
namespace FS
open PySem

section
variable {xs : List D} {ks : List (D × D)} {i : Int} {b : Bool}
@[simp] theorem seq_tuple : RV.seq (.d (.tuple xs)) = some xs := rfl
@[simp] theorem seq_list : RV.seq (.d (.list xs)) = some xs := rfl
@[simp] theorem seq_cur : RV.seq (.cur xs) = some xs := rfl
@[simp] theorem seq_brw : RV.seq (.brw xs) = some xs := rfl
@[simp] theorem seq_new : RV.seq (.new xs) = some xs := rfl
@[simp] theorem lst_list : RV.lst (.d (.list xs)) = some xs := rfl
@[simp] theorem lst_cur : RV.lst (.cur xs) = some xs := rfl
@[simp] theorem lst_brw : RV.lst (.brw xs) = some xs := rfl
@[simp] theorem lst_new : RV.lst (.new xs) = some xs := rfl
@[simp] theorem fix_tuple : RV.fix (.d (.tuple xs)) = some xs := rfl
@[simp] theorem fix_list : RV.fix (.d (.list xs)) = some xs := rfl
@[simp] theorem fix_brw : RV.fix (.brw xs) = some xs := rfl
@[simp] theorem dic_d : RV.dic (.d (.dict ks)) = some ks := rfl
@[simp] theorem dic_curd : RV.dic (.curd ks) = some ks := rfl
@[simp] theorem dic_brwd : RV.dic (.brwd ks) = some ks := rfl
@[simp] theorem tTup_tuple {ts : List TF} {e : Env} : tTup ts (.tuple xs) e = tAll ts xs e := rfl
@[simp] theorem isT_tuple : RV.isT (.d (.tuple xs)) = true := rfl
@[simp] theorem isT_list : RV.isT (.d (.list xs)) = false := rfl
@[simp] theorem isT_brw : RV.isT (.brw xs) = false := rfl
end

/-! ### loops -/
/-- one turn -/
@[simp] def turn (w : List Nat) (t : TF) (b : SF) (x : D) (e : Env) : Option Out := match t x e with
  | some e1 => (match b e1 with
    | some (.nx e2) => some (.nx (forget w e2))
    | some (.ct e2) => some (.nx (forget w e2))
    | some (.bk e2) => some (.bk e2)
    | some (.rt r) => some (.rt r)
    | none => none)
  | none => none
theorem loopF_cons {w : List Nat} {t : TF} {b : SF} {x : D} {xs : List D} {e : Env} : loopF w t b (x :: xs) e = match turn w t b x e with
    | some (.nx e2) => loopF w t b xs e2
    | some (.bk e2) => some (.nx e2)
    | some (.rt r) => some (.rt r)
    | _ => none := by
  rw [loopF]
  unfold turn
  cases t x e with
  | none => rfl
  | some e1 =>
    simp only
    cases b e1 with
    | none => rfl
    | some o => cases o <;> rfl
theorem loopF_nx {w : List Nat} {t : TF} {b : SF} {x : D} {xs : List D} {e e2 : Env} (h : turn w t b x e = some (.nx e2)) : loopF w t b (x :: xs) e = loopF w t b xs e2 := by
  rw [loopF_cons, h]
theorem loopF_rt {w : List Nat} {t : TF} {b : SF} {x : D} {xs : List D} {e : Env} {r : RV} (h : turn w t b x e = some (.rt r)) : loopF w t b (x :: xs) e = some (.rt r) := by
  rw [loopF_cons, h]
theorem loopF_fold {α β : Type} {w : List Nat} {t : TF} {b : SF} (dat : α → D) (E : β → Env) (step : β → α → β) (I : List α → β → Prop)
    (h : ∀ (s : β) (x : α) (r : List α), I (x :: r) s → I r (step s x) ∧ turn w t b (dat x) (E s) = some (.nx (E (step s x)))) :
    ∀ (xs : List α) (s : β), I xs s → loopF w t b (xs.map dat) (E s) = some (.nx (E (xs.foldl step s)))
  | [], s, _ => rfl
  | x :: xs, s, hI => by
    obtain ⟨hI', h1⟩ := h s x xs hI
    rw [List.map_cons, loopF_nx h1, List.foldl_cons]
    exact loopF_fold dat E step I h xs (step s x) hI'
/-- the same, what is kept told by a relation -/
theorem loopF_inv {α : Type} {w : List Nat} {t : TF} {b : SF} (dat : α → D) (I : List α → Env → Prop)
    (h : ∀ (e : Env) (x : α) (r : List α), I (x :: r) e → ∃ e', turn w t b (dat x) e = some (.nx e') ∧ I r e') :
    ∀ (xs : List α) (e : Env), I xs e → ∃ e', loopF w t b (xs.map dat) e = some (.nx e') ∧ I [] e'
  | [], e, hI => ⟨e, rfl, hI⟩
  | x :: xs, e, hI => by
    obtain ⟨e1, h1, h2⟩ := h e x xs hI
    obtain ⟨e2, h3, h4⟩ := loopF_inv dat I h xs e1 h2
    exact ⟨e2, by rw [List.map_cons, loopF_nx h1]; exact h3, h4⟩
/-- a loop that leaves at the first item with p, and keeps nothing -/
theorem loopF_find {α : Type} {w : List Nat} {t : TF} {b : SF} (dat : α → D) (e : Env) (p : α → Bool) (r : RV) :
    ∀ (xs : List α), (∀ x ∈ xs, turn w t b (dat x) e = if p x then some (.rt r) else some (.nx e)) → loopF w t b (xs.map dat) e = if xs.any p then some (.rt r) else some (.nx e)
  | [], _ => rfl
  | x :: xs, h => by
    have ih := loopF_find (w := w) (t := t) (b := b) dat e p r xs fun y hy => h y (List.mem_cons_of_mem _ hy)
    have h1 := h x List.mem_cons_self
    rw [List.map_cons, List.any_cons]
    cases hp : p x with
    | true =>
      rw [hp, if_pos rfl] at h1
      rw [loopF_rt h1]
      rfl
    | false =>
      rw [hp, if_neg Bool.false_ne_true] at h1
      rw [loopF_nx h1, Bool.false_or]
      exact ih
theorem lcGo_map {α : Type} {t : TF} {f : EF} {e : Env} (dat : α → D) (g : α → D) : ∀ (xs : List α), (∀ x ∈ xs, ∃ e1 r, t (dat x) e = some e1 ∧ f e1 = some r ∧ r.frz = some (g x)) → lcGo t bYes f e (xs.map dat) = some (xs.map g)
  | [], _ => rfl
  | x :: xs, h => by
    have ih := lcGo_map (t := t) (f := f) (e := e) dat g xs fun y hy => h y (List.mem_cons_of_mem _ hy)
    obtain ⟨e1, r, h1, h2, h3⟩ := h x List.mem_cons_self
    rw [List.map_cons, List.map_cons]
    unfold lcGo
    simp only [h1, h2, h3, ih, bYes]
theorem lcGo_filter {α : Type} {t : TF} {c : BF} {f : EF} {e : Env} (dat : α → D) (p : α → Bool) (g : α → D) : ∀ (xs : List α), (∀ x ∈ xs, ∃ e1 r, t (dat x) e = some e1 ∧ c e1 = some (p x) ∧ (p x = true → f e1 = some r ∧ r.frz = some (g x))) → lcGo t c f e (xs.map dat) = some ((xs.filter p).map g)
  | [], _ => rfl
  | x :: xs, h => by
    have ih := lcGo_filter (t := t) (c := c) (f := f) (e := e) dat p g xs fun y hy => h y (List.mem_cons_of_mem _ hy)
    obtain ⟨e1, r, h1, h2, h3⟩ := h x List.mem_cons_self
    rw [List.map_cons]
    unfold lcGo
    cases hp : p x with
    | true =>
      obtain ⟨h4, h5⟩ := h3 hp
      simp only [h1, h2, hp, h4, h5, ih, List.filter_cons, if_true, List.map_cons]
    | false =>
      simp only [h1, h2, hp, ih, List.filter_cons, Bool.false_eq_true, if_false]

/-! ### places -/
theorem ixN_nat {n k : Nat} (h : k < n) : ixN n (k : Int) = some k := by
  unfold ixN
  rw [if_pos (by omega), if_pos (by omega)]
  simp
theorem atD_nat {xs : List D} {k : Nat} {d : D} (h : xs[k]? = some d) : atD xs (k : Int) = some d := by
  unfold atD
  rw [ixN_nat (List.getElem?_eq_some_iff.mp h).1]
  exact h
@[simp] theorem atD_zero {x : D} {xs : List D} : atD (x :: xs) 0 = some x := atD_nat (k := 0) rfl
@[simp] theorem atD_one {x y : D} {xs : List D} : atD (x :: y :: xs) 1 = some y := atD_nat (k := 1) rfl
@[simp] theorem atD_two {x y z : D} {xs : List D} : atD (x :: y :: z :: xs) 2 = some z := atD_nat (k := 2) rfl

@[simp] theorem atD_three {x y z u : D} {xs : List D} : atD (x :: y :: z :: u :: xs) 3 = some u := atD_nat (k := 3) rfl
@[simp] theorem atD_four {x y z u v : D} {xs : List D} : atD (x :: y :: z :: u :: v :: xs) 4 = some v := atD_nat (k := 4) rfl

/-! ### the operations at data of a known kind -/
section
variable {i j : Int} {xs ys : List D} {x y : D} {b : Bool}
@[simp] theorem opAdd_int : opAdd (.d (.int i)) (.d (.int j)) = some (.d (.int (i + j))) := rfl
@[simp] theorem opAdd_tup (h : xs.length + ys.length ≤ lim) : opAdd (.d (.tuple xs)) (.d (.tuple ys)) = some (.d (.tuple (xs ++ ys))) := if_pos h
@[simp] theorem opSub_int : opSub (.d (.int i)) (.d (.int j)) = some (.d (.int (i - j))) := rfl
@[simp] theorem opMul_r (h : -18446744073709551616 < j) (h2 : j < 18446744073709551616) : opMul (.d (.int i)) (.d (.int j)) = some (.d (.int (i * j))) := if_pos (.inr ⟨h, h2⟩)
@[simp] theorem opMul_l (h : -18446744073709551616 < i) (h2 : i < 18446744073709551616) : opMul (.d (.int i)) (.d (.int j)) = some (.d (.int (i * j))) := if_pos (.inl ⟨h, h2⟩)
@[simp] theorem opFdiv_int (h : 0 < j) (h2 : j < 1073741824) : opFdiv (.d (.int i)) (.d (.int j)) = some (.d (.int (i / j))) := if_pos ⟨h, h2⟩
@[simp] theorem opMod_int (h : 0 < j) : opMod (.d (.int i)) (.d (.int j)) = some (.d (.int (i % j))) := if_pos h
@[simp] theorem opPow_10_9 : opPow (.d (.int 10)) (.d (.int 9)) = some (.d (.int 1000000000)) := by
  unfold opPow
  simp only
  rw [if_pos ⟨by decide, by decide, by decide⟩]
  rfl
@[simp] theorem opNeg_int : opNeg (.d (.int i)) = some (.d (.int (-i))) := rfl
@[simp] theorem opIx_tup : opIx (.d (.tuple xs)) (.d (.int i)) = (atD xs i).map .d := rfl
@[simp] theorem opIx_list : opIx (.d (.list xs)) (.d (.int i)) = (atD xs i).map .d := rfl
@[simp] theorem opIx_cur : opIx (.cur xs) (.d (.int i)) = (atD xs i).map .d := rfl
@[simp] theorem opIx_brw : opIx (.brw xs) (.d (.int i)) = (atD xs i).map .d := rfl
@[simp] theorem opIx_new : opIx (.new xs) (.d (.int i)) = (atD xs i).map .d := rfl
@[simp] theorem cmpLt_int : cmpLt (.d (.int i)) (.d (.int j)) = some (.d (.bool (decide (i < j)))) := rfl
@[simp] theorem cmpLe_int : cmpLe (.d (.int i)) (.d (.int j)) = some (.d (.bool (decide (i ≤ j)))) := rfl
@[simp] theorem cmpGt_int : cmpGt (.d (.int i)) (.d (.int j)) = some (.d (.bool (decide (j < i)))) := rfl
@[simp] theorem cmpGe_int : cmpGe (.d (.int i)) (.d (.int j)) = some (.d (.bool (decide (j ≤ i)))) := rfl
theorem shaped_int : SeqAt.shaped (.int i) = true := by simp [SeqAt.shaped, PyData.canLay0, PyData.depth]
theorem eqv_int : PyData.eqv (.int i) (.int j) = decide (i = j) := by simp [PyData.eqv, Bool.beq_eq_decide_eq]
@[simp] theorem cmpEq_int : cmpEq (.d (.int i)) (.d (.int j)) = some (.d (.bool (decide (i = j)))) := by
  unfold cmpEq
  simp only [RV.val]
  rw [if_pos ⟨shaped_int, shaped_int⟩, eqv_int]
@[simp] theorem cmpNe_int : cmpNe (.d (.int i)) (.d (.int j)) = some (.d (.bool (!decide (i = j)))) := by
  unfold cmpNe
  simp only [RV.val]
  rw [if_pos ⟨shaped_int, shaped_int⟩, eqv_int]
/-- a list held against the empty one -/
theorem eqv_nil : PyData.eqv (.list xs) (.list []) = xs.isEmpty := by cases xs <;> simp [PyData.eqv, PyData.eqvAll]
theorem cmpNe_nil (h : SeqAt.shaped (.list xs) = true) : cmpNe (.cur xs) (.new []) = some (.d (.bool (!xs.isEmpty))) := by
  unfold cmpNe
  simp only [RV.val]
  rw [if_pos ⟨h, by decide⟩, eqv_nil]
@[simp] theorem fLen_tup : fLen (.d (.tuple xs)) = some (.d (.int xs.length)) := rfl
@[simp] theorem fLen_list : fLen (.d (.list xs)) = some (.d (.int xs.length)) := rfl
@[simp] theorem fLen_cur : fLen (.cur xs) = some (.d (.int xs.length)) := rfl
@[simp] theorem fLen_brw : fLen (.brw xs) = some (.d (.int xs.length)) := rfl
@[simp] theorem fLen_new : fLen (.new xs) = some (.d (.int xs.length)) := rfl
@[simp] theorem fTuple_tup : fTuple (.d (.tuple xs)) = some (.d (.tuple xs)) := rfl
@[simp] theorem fTuple_list : fTuple (.d (.list xs)) = some (.d (.tuple xs)) := rfl
@[simp] theorem fTuple_cur : fTuple (.cur xs) = some (.d (.tuple xs)) := rfl
@[simp] theorem fTuple_brw : fTuple (.brw xs) = some (.d (.tuple xs)) := rfl
@[simp] theorem fTuple_new : fTuple (.new xs) = some (.d (.tuple xs)) := rfl
@[simp] theorem isIntD_int : isIntD (.d (.int i)) = some (.d (.bool true)) := rfl
@[simp] theorem isBoolD_int : isBoolD (.d (.int i)) = some (.d (.bool false)) := rfl
@[simp] theorem isBoolD_bool : isBoolD (.d (.bool b)) = some (.d (.bool true)) := rfl
@[simp] theorem isTupleD_tup : isTupleD (.d (.tuple xs)) = some (.d (.bool true)) := rfl
@[simp] theorem isListD_list : isListD (.d (.list xs)) = some (.d (.bool true)) := rfl
@[simp] theorem isListD_cur : isListD (.cur xs) = some (.d (.bool true)) := rfl
@[simp] theorem isListD_new : isListD (.new xs) = some (.d (.bool true)) := rfl
@[simp] theorem isListD_tup : isListD (.d (.tuple xs)) = some (.d (.bool false)) := rfl
@[simp] theorem fMin2_int : fMin2 (.d (.int i)) (.d (.int j)) = some (.d (.int (if j < i then j else i))) := rfl
@[simp] theorem fMax2_int : fMax2 (.d (.int i)) (.d (.int j)) = some (.d (.int (if j > i then j else i))) := rfl
end

/-! ### the law's draws -/
theorem stir_turn (c f g : Int) (hg : 0 ≤ g) (h1 : -18446744073709551616 < f) (h1' : f < 18446744073709551616) : ∃ n : Nat, turn [2, 3] (tName 2) l_law_stir_1 (.int f) [some (.d (.int c)), some (.d (.int g)), none, none] = some (.nx [some (.d (.int c)), some (.d (.int (n : Int))), none, none]) := by
  have h2 : (0 : Int) ≤ (c * f + 7919) % 2147483647 ∧ (c * f + 7919) % 2147483647 < 2147483647 := ⟨Int.emod_nonneg _ (by decide), Int.emod_lt_of_pos _ (by decide)⟩
  generalize hm : (c * f + 7919) % 2147483647 = m at h2
  have h3 : 0 ≤ m * m % 2147483647 * 40692 % 2147483399 := Int.emod_nonneg _ (by decide)
  generalize hm2 : m * m % 2147483647 * 40692 % 2147483399 = m2 at h3
  refine ⟨(g * 1000000000 + m2 / 7).toNat, ?_⟩
  have h4 : ((g * 1000000000 + m2 / 7).toNat : Int) = g * 1000000000 + m2 / 7 := by omega
  have h5 : -18446744073709551616 < m := by omega
  have h6 : m < 18446744073709551616 := by omega
  simp [l_law_stir_1, h1, h1', hm, hm2, h4, h5, h6]
theorem stir_ex (c : Int) : ∃ n : Nat, F_law_stir [.d (.int c)] = some (.d (.int (n : Int))) := by
  obtain ⟨n1, e1⟩ := stir_turn c 48271 0 (by decide) (by decide) (by decide)
  obtain ⟨n2, e2⟩ := stir_turn c 69621 n1 (by omega) (by decide) (by decide)
  obtain ⟨n3, e3⟩ := stir_turn c 39373 n2 (by omega) (by decide) (by decide)
  obtain ⟨n4, e4⟩ := stir_turn c 44488 n3 (by omega) (by decide) (by decide)
  refine ⟨n4, ?_⟩
  have hl : loopF [2, 3] (tName 2) l_law_stir_1 [.int 48271, .int 69621, .int 39373, .int 44488] [some (.d (.int c)), some (.d (.int 0)), none, none] = some (.nx [some (.d (.int c)), some (.d (.int (n4 : Int))), none, none]) := by
    rw [loopF_nx e1, loopF_nx e2, loopF_nx e3, loopF_nx e4]
    rfl
  simp [F_law_stir, b_law_stir, hl]
/-- what the law makes of a number; of the k-th of the script -/
noncomputable def stirN (c : Int) : Nat := (stir_ex c).choose
theorem stir_eq (c : Int) : F_law_stir [.d (.int c)] = some (.d (.int (stirN c : Int))) := (stir_ex c).choose_spec
noncomputable def cellN (ns : List Int) (k : Nat) : Nat := stirN (ns.getD k 0)
theorem cell_eq (ns : List Int) (k : Nat) : F_law_cell [.bor (ns.map PyData.int), .d (.int (k : Int))] = some (.d (.int (cellN ns k : Int))) := by
  by_cases h : k < ns.length
  · have e : atD (ns.map PyData.int) (k : Int) = some (.int (ns.getD k 0)) := atD_nat (by simp [h])
    have h' : (k : Int) < ns.length := by omega
    simp [F_law_cell, b_law_cell, h', e, stir_eq, cellN, -List.getD_eq_getElem?_getD]
  · have h' : ¬ (k : Int) < ns.length := by omega
    have e : ns.getD k 0 = 0 := by simp [List.getElem?_eq_none (show ns.length ≤ k by omega)]
    simp [F_law_cell, b_law_cell, h', stir_eq, cellN, e, -List.getD_eq_getElem?_getD]
end FS
set_option Elab.async false
set_option linter.all false
set_option maxRecDepth 100000
set_option autoImplicit false
namespace FS
open PySem

/-! ### whole numbers in tuples and lists: the same at the program's `==` when they are the same -/
mutual
def nest : Nat → D → Bool
  | _, .int _ => true
  | n + 1, .tuple xs => nests n xs
  | n + 1, .list xs => nests n xs
  | _, _ => false
def nests : Nat → List D → Bool
  | _, [] => true
  | n, x :: xs => nest n x && nests n xs
end
mutual
theorem nest_lay : ∀ (n : Nat) (x : D), nest n x = true → x.canLay0 = true ∧ x.depth ≤ n
  | n, .int i, _ => by simp [PyData.canLay0, PyData.depth]
  | n + 1, .tuple xs, h => by
    have h2 := nests_lay n xs (by simpa [nest] using h)
    refine ⟨by simpa [PyData.canLay0] using h2.1, ?_⟩
    have := h2.2
    simp only [PyData.depth]
    omega
  | n + 1, .list xs, h => by
    have h2 := nests_lay n xs (by simpa [nest] using h)
    refine ⟨by simpa [PyData.canLay0] using h2.1, ?_⟩
    have := h2.2
    simp only [PyData.depth]
    omega
  | 0, .tuple xs, h => by simp [nest] at h
  | 0, .list xs, h => by simp [nest] at h
  | n, .none, h => by cases n <;> simp [nest] at h
  | n, .bool _, h => by cases n <;> simp [nest] at h
  | n, .str _, h => by cases n <;> simp [nest] at h
  | n, .dict _, h => by cases n <;> simp [nest] at h
theorem nests_lay : ∀ (n : Nat) (xs : List D), nests n xs = true → PyData.canLayAll0 xs = true ∧ PyData.depthAll xs ≤ n
  | n, [], _ => by simp [PyData.canLayAll0, PyData.depthAll]
  | n, x :: xs, h => by
    simp only [nests, Bool.and_eq_true] at h
    have h1 := nest_lay n x h.1
    have h2 := nests_lay n xs h.2
    refine ⟨by simp [PyData.canLayAll0, h1.1, h2.1], ?_⟩
    have := h1.2
    have := h2.2
    simp only [PyData.depthAll]
    omega
end
theorem nest_shaped {x : D} (h : nest 50 x = true) : SeqAt.shaped x = true := by
  have := nest_lay 50 x h
  unfold SeqAt.shaped
  rw [this.1]
  have := this.2
  simp
  omega
mutual
theorem nest_eqv : ∀ (n : Nat) (x : D) (m : Nat) (y : D), nest n x = true → nest m y = true → (PyData.eqv x y = true ↔ x = y)
  | n, .int i, m, y, _, h => by
    cases y with
    | int j => simp [PyData.eqv]
    | tuple ys => simp [PyData.eqv]
    | list ys => simp [PyData.eqv]
    | _ => cases m <;> simp [nest] at h
  | n + 1, .tuple xs, m, y, hx, h => by
    cases y with
    | int j => simp [PyData.eqv]
    | tuple ys => cases m with
      | zero => simp [nest] at h
      | succ m =>
        have := nests_eqv n xs m ys (by simpa [nest] using hx) (by simpa [nest] using h)
        simp [PyData.eqv, this]
    | list ys => simp [PyData.eqv]
    | _ => cases m <;> simp [nest] at h
  | n + 1, .list xs, m, y, hx, h => by
    cases y with
    | int j => simp [PyData.eqv]
    | list ys => cases m with
      | zero => simp [nest] at h
      | succ m =>
        have := nests_eqv n xs m ys (by simpa [nest] using hx) (by simpa [nest] using h)
        simp [PyData.eqv, this]
    | tuple ys => simp [PyData.eqv]
    | _ => cases m <;> simp [nest] at h
  | 0, .tuple xs, m, y, h, _ => by simp [nest] at h
  | 0, .list xs, m, y, h, _ => by simp [nest] at h
  | n, .none, m, y, h, _ => by cases n <;> simp [nest] at h
  | n, .bool _, m, y, h, _ => by cases n <;> simp [nest] at h
  | n, .str _, m, y, h, _ => by cases n <;> simp [nest] at h
  | n, .dict _, m, y, h, _ => by cases n <;> simp [nest] at h
theorem nests_eqv : ∀ (n : Nat) (xs : List D) (m : Nat) (ys : List D), nests n xs = true → nests m ys = true → (PyData.eqvAll xs ys = true ↔ xs = ys)
  | n, [], m, ys, _, _ => by cases ys <;> simp [PyData.eqvAll]
  | n, x :: xs, m, [], _, _ => by simp [PyData.eqvAll]
  | n, x :: xs, m, y :: ys, hx, hy => by
    simp only [nests, Bool.and_eq_true] at hx hy
    have h1 := nest_eqv n x m y hx.1 hy.1
    have h2 := nests_eqv n xs m ys hx.2 hy.2
    simp [PyData.eqvAll, h1, h2]
end
section
variable {a b : RV} {x y : D}
theorem cmpEq_iff {p : Prop} [Decidable p] (hx : a.val = some x) (hy : b.val = some y) (nx : nest 50 x = true) (ny : nest 50 y = true) (h : x = y ↔ p) : cmpEq a b = some (.d (.bool (decide p))) := by
  unfold cmpEq
  rw [hx, hy]
  simp only
  rw [if_pos ⟨nest_shaped nx, nest_shaped ny⟩]
  have h1 := nest_eqv 50 x 50 y nx ny
  have h2 : PyData.eqv x y = decide p := by
    by_cases hp : p
    · rw [decide_eq_true hp]; exact h1.mpr (h.mpr hp)
    · rw [decide_eq_false hp]
      cases he : PyData.eqv x y with
      | false => rfl
      | true => exact absurd (h.mp (h1.mp he)) hp
  rw [h2]
theorem cmpNe_iff {p : Prop} [Decidable p] (hx : a.val = some x) (hy : b.val = some y) (nx : nest 50 x = true) (ny : nest 50 y = true) (h : x = y ↔ p) : cmpNe a b = some (.d (.bool (!decide p))) := by
  unfold cmpNe
  rw [hx, hy]
  simp only
  rw [if_pos ⟨nest_shaped nx, nest_shaped ny⟩]
  have h1 := nest_eqv 50 x 50 y nx ny
  have h2 : PyData.eqv x y = decide p := by
    by_cases hp : p
    · rw [decide_eq_true hp]; exact h1.mpr (h.mpr hp)
    · rw [decide_eq_false hp]
      cases he : PyData.eqv x y with
      | false => rfl
      | true => exact absurd (h.mp (h1.mp he)) hp
  rw [h2]
theorem cmpEq_self (hx : a.val = some x) (hy : b.val = some x) (nx : nest 50 x = true) : cmpEq a b = some (.d (.bool true)) := by
  rw [cmpEq_iff (p := True) hx hy nx nx (by simp)]
  rfl
theorem cmpNe_self (hx : a.val = some x) (hy : b.val = some x) (nx : nest 50 x = true) : cmpNe a b = some (.d (.bool false)) := by
  rw [cmpNe_iff (p := True) hx hy nx nx (by simp)]
  rfl
end
theorem nests_map {α : Type} {f : α → D} {n : Nat} : ∀ {xs : List α}, (∀ x ∈ xs, nest n (f x) = true) → nests n (xs.map f) = true
  | [], _ => by simp [nests]
  | x :: xs, h => by
    simp only [List.map_cons, nests, Bool.and_eq_true]
    exact ⟨h x List.mem_cons_self, nests_map fun y hy => h y (List.mem_cons_of_mem _ hy)⟩
theorem nests_of {n : Nat} {xs : List D} (h : ∀ x ∈ xs, nest n x = true) : nests n xs = true := by
  have := nests_map (f := id) (xs := xs) h
  simpa using this
@[simp] theorem nest_int {n : Nat} {i : Int} : nest n (.int i) = true := by cases n <;> simp [nest]

mutual
theorem nest_up : ∀ (n : Nat) (x : D), nest n x = true → nest (n + 1) x = true
  | n, .int i, _ => nest_int
  | n + 1, .tuple xs, h => by
    simp only [nest] at h ⊢
    exact nests_up n xs h
  | n + 1, .list xs, h => by
    simp only [nest] at h ⊢
    exact nests_up n xs h
  | 0, .tuple xs, h => by simp [nest] at h
  | 0, .list xs, h => by simp [nest] at h
  | n, .none, h => by cases n <;> simp [nest] at h
  | n, .bool _, h => by cases n <;> simp [nest] at h
  | n, .str _, h => by cases n <;> simp [nest] at h
  | n, .dict _, h => by cases n <;> simp [nest] at h
theorem nests_up : ∀ (n : Nat) (xs : List D), nests n xs = true → nests (n + 1) xs = true
  | n, [], _ => by simp [nests]
  | n, x :: xs, h => by
    simp only [nests, Bool.and_eq_true] at h ⊢
    exact ⟨nest_up n x h.1, nests_up n xs h.2⟩
end
theorem nest_le {n m : Nat} {x : D} (hl : n ≤ m) (h : nest n x = true) : nest m x = true := by
  induction hl with
  | refl => exact h
  | step _ ih => exact nest_up _ _ ih
theorem nest_list {n : Nat} {α : Type} {f : α → D} {L : List α} (h : ∀ x ∈ L, nest n (f x) = true) : nest (n + 1) (.list (L.map f)) = true := by
  simp only [nest]
  exact nests_map h
theorem nest_tup {n : Nat} {α : Type} {f : α → D} {L : List α} (h : ∀ x ∈ L, nest n (f x) = true) : nest (n + 1) (.tuple (L.map f)) = true := by
  simp only [nest]
  exact nests_map h

theorem opMul_one {x : D} {k : Int} (h0 : 0 ≤ k) (h1 : k ≤ 1000000) : opMul (.new [x]) (.d (.int k)) = some (.new (List.replicate k.toNat x)) := by
  unfold opMul
  simp only
  have hb : Bnd (0 ≤ k ∧ k < 9223372036854775808 ∧ [x].length * k.toNat ≤ lim) := ⟨h0, by omega, by rw [List.length_singleton, lim]; omega⟩
  rw [if_pos hb]
  have e : ∀ n : Nat, (List.replicate n [x]).flatten = List.replicate n x := by
    intro n
    induction n with
    | zero => rfl
    | succ n ih => rw [List.replicate_succ, List.flatten_cons, ih, List.replicate_succ]; rfl
  rw [e]

/-! ### written forms -/
abbrev nD (n : Nat) : D := .int (n : Int)
def tD (p : List Nat) : D := .tuple (p.map nD)
def ttD (ps : List (List Nat)) : D := .tuple (ps.map tD)
def prD (a : List Nat) (b : List (List Nat)) : D := .tuple [tD a, ttD b]
structure Form where
  kinds : Nat
  arrows : List (Nat × Nat)
def arrD (a : Nat × Nat) : D := .tuple [nD a.1, nD a.2]
def formD (F : Form) : D := .tuple [nD F.kinds, .tuple (F.arrows.map arrD)]
structure Form.Ok (F : Form) (most many : Nat) : Prop where
  pos : 1 ≤ F.kinds
  most : F.kinds ≤ most
  many : F.arrows.length ≤ many
  arr : ∀ a ∈ F.arrows, a.1 < a.2 ∧ a.2 < F.kinds
theorem map_inj {α β : Type} {f : α → β} (h : ∀ x y, f x = f y → x = y) : ∀ {xs ys : List α}, xs.map f = ys.map f ↔ xs = ys
  | [], [] => by simp
  | [], y :: ys => by simp
  | x :: xs, [] => by simp
  | x :: xs, y :: ys => by
    simp only [List.map_cons, List.cons.injEq]
    rw [map_inj h]
    exact ⟨fun ⟨a, b⟩ => ⟨h _ _ a, b⟩, fun ⟨a, b⟩ => ⟨by rw [a], b⟩⟩
theorem nD_inj {i j : Nat} : nD i = nD j ↔ i = j := ⟨fun h => by have := PyData.int.inj h; omega, fun h => by rw [h]⟩
theorem tD_inj {p q : List Nat} : tD p = tD q ↔ p = q := by
  unfold tD
  rw [PyData.tuple.injEq]
  exact map_inj fun x y h => nD_inj.mp h
theorem ttD_inj {p q : List (List Nat)} : ttD p = ttD q ↔ p = q := by
  unfold ttD
  rw [PyData.tuple.injEq]
  exact map_inj fun x y h => tD_inj.mp h
theorem nest_tD {n : Nat} {p : List Nat} : nest (n + 1) (tD p) = true := by
  simp only [tD, nest]
  exact nests_map fun x _ => nest_int
theorem nest_ttD {n : Nat} {p : List (List Nat)} : nest (n + 2) (ttD p) = true := by
  simp only [ttD, nest]
  exact nests_map fun x _ => nest_tD
theorem nest_prD {n : Nat} {a : List Nat} {b : List (List Nat)} : nest (n + 3) (prD a b) = true := by
  simp only [prD, nest, nests, nest_ttD, Bool.and_true]
  exact nest_tD

/-! ### what is walked -/
theorem upTo_nat (n : Nat) : upTo 0 n = (List.range n).map nD := by
  unfold upTo
  exact List.map_congr_left fun i _ => by simp [nD]
@[simp] theorem rngOk_iff {i : Int} : rngOk i ↔ -1000000 ≤ i ∧ i ≤ 1000000 := Iff.rfl
theorem enumD_from : ∀ (xs : List D) (k : Nat), enumD k xs = (List.range xs.length).map fun i => .tuple [nD (k + i), xs.getD i .none]
  | [], k => rfl
  | x :: xs, k => by
    rw [enumD, enumD_from xs (k + 1), List.length_cons, List.range_succ_eq_map, List.map_cons, List.map_map]
    congr 1
    refine List.map_congr_left fun i _ => ?_
    simp only [Function.comp, List.getD_cons_succ]
    rw [show k + 1 + i = k + (i + 1) from by omega]
theorem getD_map {α : Type} {f : α → D} {xs : List α} {i : Nat} (h : i < xs.length) (d : D) : (xs.map f).getD i d = f (xs[i]'h) := by
  simp [List.getD_eq_getElem?_getD, h]
theorem enumD_map {α : Type} (f : α → D) (xs : List α) (d : α) : enumD 0 (xs.map f) = (List.range xs.length).map fun i => .tuple [nD i, f (xs.getD i d)] := by
  rw [enumD_from, List.length_map]
  refine List.map_congr_left fun i hi => ?_
  have h := List.mem_range.mp hi
  rw [getD_map h, Nat.zero_add]
  simp [List.getD_eq_getElem?_getD, h]
theorem atD_map {α : Type} {f : α → D} {xs : List α} {i : Nat} (h : i < xs.length) (d : α) : atD (xs.map f) (i : Int) = some (f (xs.getD i d)) :=
  atD_nat (by simp [List.getD_eq_getElem?_getD, h])
theorem atD_nD {xs : List Nat} {i : Nat} (h : i < xs.length) : atD (xs.map nD) (i : Int) = some (nD (xs.getD i 0)) := atD_map h 0
theorem getD_mem {α : Type} {xs : List α} {i : Nat} (h : i < xs.length) (d : α) : xs.getD i d ∈ xs := by
  simp [List.getD_eq_getElem?_getD, h]
theorem zipD_map {α β : Type} {f : α → D} {g : β → D} : ∀ (xs : List α) (ys : List β), zipD (xs.map f) (ys.map g) = (xs.zip ys).map fun p => .tuple [f p.1, g p.2]
  | [], _ => rfl
  | _ :: _, [] => rfl
  | x :: xs, y :: ys => by
    simp only [List.map_cons, zipD, List.zip_cons_cons, zipD_map xs ys]

/-! ### loops that gather -/
theorem loopF_flat {α : Type} {w : List Nat} {t : TF} {b : SF} (dat : α → D) (E : List D → Env) (g : α → List D) :
    ∀ (xs : List α), (∀ x ∈ xs, ∀ acc : List D, acc.length + (g x).length ≤ lim → turn w t b (dat x) (E acc) = some (.nx (E (acc ++ g x)))) →
      ∀ acc : List D, acc.length + (xs.flatMap g).length ≤ lim → loopF w t b (xs.map dat) (E acc) = some (.nx (E (acc ++ xs.flatMap g)))
  | [], _, acc, _ => by simp [loopF]
  | x :: xs, h, acc, hl => by
    rw [List.flatMap_cons, List.length_append] at hl
    rw [List.map_cons, loopF_nx (h x List.mem_cons_self acc (by omega)), List.flatMap_cons, ← List.append_assoc]
    exact loopF_flat dat E g xs (fun y hy => h y (List.mem_cons_of_mem _ hy)) _ (by rw [List.length_append]; omega)
theorem loopF_flat2 {α : Type} {w : List Nat} {t : TF} {b : SF} (dat : α → D) (E : List D → List D → Env) (f g : α → List D) :
    ∀ (xs : List α), (∀ x ∈ xs, ∀ a c : List D, a.length + (f x).length ≤ lim → c.length + (g x).length ≤ lim → turn w t b (dat x) (E a c) = some (.nx (E (a ++ f x) (c ++ g x)))) →
      ∀ a c : List D, a.length + (xs.flatMap f).length ≤ lim → c.length + (xs.flatMap g).length ≤ lim → loopF w t b (xs.map dat) (E a c) = some (.nx (E (a ++ xs.flatMap f) (c ++ xs.flatMap g)))
  | [], _, a, c, _, _ => by simp [loopF]
  | x :: xs, h, a, c, hl, hm => by
    rw [List.flatMap_cons, List.length_append] at hl hm
    rw [List.map_cons, loopF_nx (h x List.mem_cons_self a c (by omega) (by omega)), List.flatMap_cons, ← List.append_assoc, List.flatMap_cons, ← List.append_assoc]
    exact loopF_flat2 dat E f g xs (fun y hy => h y (List.mem_cons_of_mem _ hy)) _ _ (by rw [List.length_append]; omega) (by rw [List.length_append]; omega)
theorem flatMap_if {α β : Type} {p : α → Bool} {f : α → β} : ∀ (xs : List α), (xs.flatMap fun x => if p x then [f x] else []) = (xs.filter p).map f
  | [] => rfl
  | x :: xs => by
    rw [List.flatMap_cons, flatMap_if xs, List.filter_cons]
    cases p x <;> rfl
theorem flatMap_le {α β : Type} {g : α → List β} {n : Nat} : ∀ {xs : List α}, (∀ x ∈ xs, (g x).length ≤ n) → (xs.flatMap g).length ≤ xs.length * n
  | [], _ => by simp
  | x :: xs, h => by
    have h1 := h x List.mem_cons_self
    have h2 := flatMap_le (xs := xs) (n := n) fun y hy => h y (List.mem_cons_of_mem _ hy)
    rw [List.flatMap_cons, List.length_append, List.length_cons, Nat.succ_mul]
    omega

/-! ### the written forms at the operations -/
section
variable {F : Form} {p q : List Nat} {ps : List (List Nat)} {a : Nat × Nat} {i : Nat}
@[simp] theorem opIx_form0 : opIx (.d (formD F)) (.d (.int 0)) = some (.d (nD F.kinds)) := rfl
@[simp] theorem opIx_form1 : opIx (.d (formD F)) (.d (.int 1)) = some (.d (.tuple (F.arrows.map arrD))) := rfl
@[simp] theorem opIx_arr0 : opIx (.d (arrD a)) (.d (.int 0)) = some (.d (nD a.1)) := rfl
@[simp] theorem opIx_arr1 : opIx (.d (arrD a)) (.d (.int 1)) = some (.d (nD a.2)) := rfl
@[simp] theorem opIx_pr0 : opIx (.d (prD p ps)) (.d (.int 0)) = some (.d (tD p)) := rfl
@[simp] theorem opIx_pr1 : opIx (.d (prD p ps)) (.d (.int 1)) = some (.d (ttD ps)) := rfl
@[simp] theorem opIx_tD {z : Int} : opIx (.d (tD p)) (.d (.int z)) = (atD (p.map nD) z).map .d := rfl
@[simp] theorem opIx_ttD {z : Int} : opIx (.d (ttD ps)) (.d (.int z)) = (atD (ps.map tD) z).map .d := rfl
@[simp] theorem fix_tD : RV.fix (.d (tD p)) = some (p.map nD) := rfl
@[simp] theorem fix_ttD : RV.fix (.d (ttD ps)) = some (ps.map tD) := rfl
@[simp] theorem seq_tD : RV.seq (.d (tD p)) = some (p.map nD) := rfl
@[simp] theorem seq_ttD : RV.seq (.d (ttD ps)) = some (ps.map tD) := rfl
@[simp] theorem isT_tD : RV.isT (.d (tD p)) = true := rfl
@[simp] theorem isT_ttD : RV.isT (.d (ttD ps)) = true := rfl
@[simp] theorem fLen_tD : fLen (.d (tD p)) = some (.d (.int p.length)) := by simp [tD]
@[simp] theorem fLen_ttD : fLen (.d (ttD ps)) = some (.d (.int ps.length)) := by simp [ttD]
@[simp] theorem isTuple_tD : isTupleD (.d (tD p)) = some (.d (.bool true)) := rfl
@[simp] theorem isTuple_ttD : isTupleD (.d (ttD ps)) = some (.d (.bool true)) := rfl
@[simp] theorem isTuple_prD : isTupleD (.d (prD p ps)) = some (.d (.bool true)) := rfl
@[simp] theorem opAdd_snoc (h : p.length < lim) : opAdd (.d (tD p)) (.d (.tuple [.int (i : Int)])) = some (.d (tD (p ++ [i]))) := by
  unfold tD
  rw [opAdd_tup (by simp; omega)]
  simp
@[simp] theorem opAdd_tD (h : p.length + q.length ≤ lim) : opAdd (.d (tD p)) (.d (tD q)) = some (.d (tD (p ++ q))) := by
  unfold tD
  rw [opAdd_tup (by simp; omega)]
  simp
@[simp] theorem tTup_arr {t u : TF} {e : Env} : tTup [t, u] (arrD a) e = tAll [t, u] [nD a.1, nD a.2] e := rfl
end

/-! ### the law's draws -/
noncomputable def cellI (ns : List Int) (k : Int) : Int := cellN ns k.toNat
theorem cellI_pos (ns : List Int) (k : Int) : 0 ≤ cellI ns k := Int.natCast_nonneg _
theorem cell_eqI (ns : List Int) (k : Int) (h : 0 ≤ k) : F_law_cell [.bor (ns.map PyData.int), .d (.int k)] = some (.d (.int (cellI ns k))) := by
  have := cell_eq ns k.toNat
  rw [Int.toNat_of_nonneg h] at this
  exact this
def drawI (c k b : Int) : Int := (((c % 2147483629 + 1 + k * 1000003) % 2147483647 * 48271 % 2147483647) * 48271 % 2147483647 * 48271 % 2147483647) / 97 % b
theorem draw_eq (c k b : Int) (h : 0 < b) : F_law_draw [.d (.int c), .d (.int k), .d (.int b)] = some (.d (.int (drawI c k b))) := by
  have hu : upTo 0 3 = [.int 0, .int 1, .int 2] := rfl
  simp [F_law_draw, b_law_draw, l_law_draw_1, hu, loopF, h, drawI]
theorem drawI_lo {c k b : Int} (h : 0 < b) : 0 ≤ drawI c k b := Int.emod_nonneg _ (by omega)
theorem drawI_hi {c k b : Int} (h : 0 < b) : drawI c k b < b := Int.emod_lt_of_pos _ h
theorem form_ex (ns : List Int) (first most many : Int) (h0 : 0 ≤ first) (h1 : 0 < most) (h2 : most ≤ 1000) (h3 : 0 ≤ many) (h4 : many ≤ 1000) :
    ∃ F : Form, F_law_form [.bor (ns.map PyData.int), .d (.int first), .d (.int most), .d (.int many)] = some (.d (formD F)) ∧ F.Ok most.toNat many.toNat := by
  have c0 := cell_eqI ns first h0
  have c1 := cell_eqI ns (first + 1) (by omega)
  have c2 := cell_eqI ns (first + 2) (by omega)
  have k1 : 0 ≤ cellI ns first % most := Int.emod_nonneg _ (by omega)
  have k2 : cellI ns first % most < most := Int.emod_lt_of_pos _ h1
  have m1 : 0 ≤ cellI ns first / most % (many + 1) := Int.emod_nonneg _ (by omega)
  have m2 : cellI ns first / most % (many + 1) < many + 1 := Int.emod_lt_of_pos _ (by omega)
  generalize cellI ns first = c at c0 k1 k2 m1 m2
  generalize cellI ns (first + 1) = ca at c1
  generalize cellI ns (first + 2) = cb at c2
  obtain ⟨K, hK⟩ : ∃ K : Nat, (K : Int) = 1 + c % most := ⟨(1 + c % most).toNat, by omega⟩
  obtain ⟨M, hM⟩ : ∃ M : Nat, (M : Int) = c / most % (many + 1) := ⟨(c / most % (many + 1)).toNat, by omega⟩
  have hw : most < 1073741824 := by omega
  have hv : 0 < many + 1 := by omega
  by_cases hk : (1 : Int) < K
  · let E : List D → Env := fun acc => [some (.bor (ns.map PyData.int)), some (.d (.int first)), some (.d (.int most)), some (.d (.int many)), some (.d (.int K)), some (.own acc), none, none, none]
    have hl := loopF_inv (w := [6, 7, 8]) (t := tName 6) (b := l_law_form_1) nD
      (fun r e => ∃ A : List (Nat × Nat), e = E (A.map arrD) ∧ (∀ a ∈ A, a.1 < a.2 ∧ a.2 < K) ∧ A.length + r.length = M) (by
        intro e x r ⟨A, he, hA, hn⟩
        subst he
        rw [List.length_cons] at hn
        have ha := draw_eq ca x (K - 1) (by omega)
        have ha1 := drawI_lo (c := ca) (k := x) (b := (K : Int) - 1) (by omega)
        have ha2 := drawI_hi (c := ca) (k := x) (b := (K : Int) - 1) (by omega)
        generalize drawI ca x ((K : Int) - 1) = a at ha ha1 ha2
        have hb := draw_eq cb x (K - 1 - a) (by omega)
        have hb1 := drawI_lo (c := cb) (k := x) (b := (K : Int) - 1 - a) (by omega)
        have hb2 := drawI_hi (c := cb) (k := x) (b := (K : Int) - 1 - a) (by omega)
        generalize drawI cb x ((K : Int) - 1 - a) = b at hb hb1 hb2
        obtain ⟨a', rfl⟩ : ∃ a' : Nat, a = a' := ⟨a.toNat, by omega⟩
        obtain ⟨b', hb'⟩ : ∃ b' : Nat, (b' : Int) = a' + 1 + b := ⟨((a' : Int) + 1 + b).toNat, by omega⟩
        have hs : (A.map arrD).length < lim := by rw [List.length_map, lim]; omega
        refine ⟨E ((A ++ [(a', b')]).map arrD), ?_, A ++ [(a', b')], rfl, ?_, by simp; omega⟩
        · simp [E, l_law_form_1, c1, c2, ha, hb, ← hb', arrD, -List.length_map]
          rw [if_pos hs]
          rfl
        · intro p hp
          rcases List.mem_append.mp hp with h | h
          · exact hA p h
          · simp at h
            subst h
            simp
            omega) (List.range M) (E []) ⟨[], rfl, by simp, by simp⟩
    obtain ⟨e, hl1, A, he, hA, hn⟩ := hl
    refine ⟨⟨K, A⟩, ?_, by simp; omega, by simp; omega, by simp at hn ⊢; omega, hA⟩
    simp only [E] at hl1 he
    have hr : -1000000 ≤ (M : Int) ∧ (M : Int) ≤ 1000000 := by omega
    simp [F_law_form, b_law_form, c0, h1, hw, hv, ← hK, ← hM, hk, hr, upTo_nat, hl1, he, formD]
  · refine ⟨⟨K, []⟩, ?_, by simp; omega, by simp; omega, by simp, by simp⟩
    simp [F_law_form, b_law_form, c0, h1, hw, hv, ← hK, ← hM, hk, formD]
noncomputable def formN (ns : List Int) (first most many : Int) (h0 : 0 ≤ first) (h1 : 0 < most) (h2 : most ≤ 1000) (h3 : 0 ≤ many) (h4 : many ≤ 1000) : Form := (form_ex ns first most many h0 h1 h2 h3 h4).choose
/-! ### the law's small tests -/
@[simp] theorem whole_int {z : Int} : F_law_whole [.d (.int z)] = some (.d (.bool true)) := by
  simp [F_law_whole, b_law_whole]
theorem bools_map {α : Type} {p : α → Bool} : ∀ (xs : List α), boolsOf (xs.map fun x => PyData.bool (p x)) = some (xs.map p)
  | [] => rfl
  | x :: xs => by
    simp only [List.map_cons, boolsOf, bools_map xs, Option.map_some]
theorem fAll_map {α : Type} {p : α → Bool} {xs : List α} : fAll (.new (xs.map fun x => PyData.bool (p x))) = some (.d (.bool (xs.all p))) := by
  unfold fAll
  simp only [lst_new, bools_map, List.all_map]
  rfl
theorem fAll_true {α : Type} {xs : List α} : fAll (.new (xs.map fun _ => PyData.bool true)) = some (.d (.bool true)) := by
  rw [fAll_map (p := fun _ => true)]
  simp
theorem zipD_same {α : Type} {f : α → D} (xs : List α) : zipD (xs.map f) (xs.map f) = xs.map fun x => .tuple [f x, f x] := by
  induction xs with
  | nil => rfl
  | cons x xs ih => simp only [List.map_cons, zipD, ih]
/-- a loop that keeps what stands -/
theorem loopF_stay {α : Type} {w : List Nat} {t : TF} {b : SF} {dat : α → D} {e : Env} : ∀ {xs : List α}, (∀ x ∈ xs, turn w t b (dat x) e = some (.nx e)) → loopF w t b (xs.map dat) e = some (.nx e)
  | [], _ => rfl
  | x :: xs, h => by
    rw [List.map_cons, loopF_nx (h x List.mem_cons_self)]
    exact loopF_stay fun y hy => h y (List.mem_cons_of_mem _ hy)
end FS
set_option Elab.async false
set_option linter.all false
set_option maxRecDepth 100000
set_option autoImplicit false
namespace FS
open PySem

/-- where a path leads -/
def endN (A : List (Nat × Nat)) (k : Nat) (p : List Nat) : Nat := p.foldl (fun _ i => (A.getD i (0, 0)).2) k
theorem endN_snoc {A : List (Nat × Nat)} {k i : Nat} {p : List Nat} : endN A k (p ++ [i]) = (A.getD i (0, 0)).2 := by
  simp [endN, List.foldl_append]
def outs (A : List (Nat × Nat)) (a : Nat) : List Nat := (List.range A.length).filter fun i => decide ((A.getD i (0, 0)).1 = a)
theorem outs_mem {A : List (Nat × Nat)} {a i : Nat} (h : i ∈ outs A a) : i < A.length ∧ (A.getD i (0, 0)).1 = a := by
  have := List.mem_filter.mp h
  exact ⟨List.mem_range.mp this.1, of_decide_eq_true this.2⟩
theorem outs_le {A : List (Nat × Nat)} {a : Nat} : (outs A a).length ≤ A.length := by
  have := List.length_filter_le (fun i => decide ((A.getD i (0, 0)).1 = a)) (List.range A.length)
  rw [List.length_range] at this
  exact this
def nextL (A : List (Nat × Nat)) (k : Nat) (L : List (List Nat)) : List (List Nat) := L.flatMap fun p => (outs A (endN A k p)).map fun i => p ++ [i]
def goL (A : List (Nat × Nat)) (k o : Nat) : Nat → List (List Nat) → List (List Nat)
  | 0, _ => []
  | n + 1, L => (L.filter fun p => decide (endN A k p = o)) ++ goL A k o n (nextL A k L)
def pathsN (F : Form) (k o : Nat) : List (List Nat) := goL F.arrows k o F.kinds [[]]
theorem goL_nil {A : List (Nat × Nat)} {k o : Nat} : ∀ {n : Nat}, goL A k o n [] = []
  | 0 => rfl
  | n + 1 => by
    rw [goL, show nextL A k [] = [] from rfl, goL_nil]
    rfl

/-- a path of the form from a kind: each arrow leaves where the one before it leads -/
def IsPath (A : List (Nat × Nat)) : Nat → List Nat → Prop
  | _, [] => True
  | k, i :: p => i < A.length ∧ (A.getD i (0, 0)).1 = k ∧ IsPath A (A.getD i (0, 0)).2 p
theorem isPath_snoc {A : List (Nat × Nat)} : ∀ {p : List Nat} {k i : Nat}, IsPath A k p → i < A.length → (A.getD i (0, 0)).1 = endN A k p → IsPath A k (p ++ [i])
  | [], k, i, _, h1, h2 => ⟨h1, h2, trivial⟩
  | j :: p, k, i, h, h1, h2 => ⟨h.1, h.2.1, isPath_snoc h.2.2 h1 h2⟩
theorem isPath_lt {A : List (Nat × Nat)} : ∀ {p : List Nat} {k : Nat}, IsPath A k p → ∀ i ∈ p, i < A.length
  | [], _, _, i, hi => by cases hi
  | j :: p, k, h, i, hi => by
    rcases List.mem_cons.mp hi with e | e
    · rw [e]; exact h.1
    · exact isPath_lt h.2.2 i e

theorem isPath_next {A : List (Nat × Nat)} {k : Nat} {L : List (List Nat)} (h : ∀ p ∈ L, IsPath A k p) : ∀ q ∈ nextL A k L, IsPath A k q := by
  intro q hq
  obtain ⟨p, hp, hq⟩ := List.mem_flatMap.mp hq
  obtain ⟨i, hi, rfl⟩ := List.mem_map.mp hq
  have := outs_mem hi
  exact isPath_snoc (h p hp) this.1 this.2
theorem isPath_go {A : List (Nat × Nat)} {k o : Nat} : ∀ {n : Nat} {L : List (List Nat)}, (∀ p ∈ L, IsPath A k p) → ∀ q ∈ goL A k o n L, IsPath A k q ∧ endN A k q = o
  | 0, L, _, q, hq => by cases hq
  | n + 1, L, h, q, hq => by
    rcases List.mem_append.mp hq with e | e
    · have := List.mem_filter.mp e
      exact ⟨h q this.1, of_decide_eq_true this.2⟩
    · exact isPath_go (isPath_next h) q e
theorem pathsN_ok {F : Form} {k o : Nat} : ∀ q ∈ pathsN F k o, IsPath F.arrows k q ∧ endN F.arrows k q = o :=
  isPath_go fun p hp => by
    rw [List.mem_singleton.mp hp]
    trivial
theorem nextL_le {A : List (Nat × Nat)} {k : Nat} {L : List (List Nat)} : (nextL A k L).length ≤ L.length * A.length :=
  flatMap_le fun p _ => by
    rw [List.length_map]
    exact outs_le
/-- what is left of a form above the ends -/
def Above (F : Form) (k n : Nat) (L : List (List Nat)) : Prop := ∀ p ∈ L, endN F.arrows k p < F.kinds ∧ F.kinds ≤ endN F.arrows k p + n
theorem Above.next {F : Form} {a b k n : Nat} {L : List (List Nat)} (hF : F.Ok a b) (h : Above F k (n + 1) L) : Above F k n (nextL F.arrows k L) := by
  intro q hq
  obtain ⟨p, hp, hq⟩ := List.mem_flatMap.mp hq
  obtain ⟨i, hi, rfl⟩ := List.mem_map.mp hq
  have h1 := outs_mem hi
  have h2 := hF.arr _ (getD_mem h1.1 (0, 0))
  have h3 := h p hp
  rw [endN_snoc]
  omega
theorem Above.zero {F : Form} {k : Nat} {L : List (List Nat)} (h : Above F k 0 L) : L = [] := by
  cases L with
  | nil => rfl
  | cons p r =>
    have := h p List.mem_cons_self
    omega
theorem above_start {F : Form} {k : Nat} (h : k < F.kinds) : Above F k F.kinds [[]] := by
  intro p hp
  rw [List.mem_singleton.mp hp]
  exact ⟨h, Nat.le_add_left _ _⟩
/-- how many there are at most -/
theorem go_le {A : List (Nat × Nat)} {k o : Nat} : ∀ {n : Nat} {L : List (List Nat)}, (goL A k o n L).length ≤ L.length * (A.length + 1) ^ n
  | 0, L => by simp [goL]
  | n + 1, L => by
    have h1 := List.length_filter_le (fun p => decide (endN A k p = o)) L
    have h2 := go_le (A := A) (k := k) (o := o) (n := n) (L := nextL A k L)
    have h3 := nextL_le (A := A) (k := k) (L := L)
    rw [goL, List.length_append]
    have h4 : (nextL A k L).length * (A.length + 1) ^ n ≤ L.length * A.length * (A.length + 1) ^ n := Nat.mul_le_mul_right _ h3
    have h5 : 1 ≤ (A.length + 1) ^ n := Nat.one_le_pow _ _ (Nat.succ_pos _)
    have h6 : L.length * (A.length + 1) ^ (n + 1) = L.length * A.length * (A.length + 1) ^ n + L.length * (A.length + 1) ^ n := by
      rw [Nat.pow_succ, Nat.mul_comm ((A.length + 1) ^ n), ← Nat.mul_assoc, Nat.mul_add, Nat.mul_one, Nat.add_mul]
    have h7 : L.length * 1 ≤ L.length * (A.length + 1) ^ n := Nat.mul_le_mul_left _ h5
    omega

theorem isPath_len {F : Form} {a b : Nat} (hF : F.Ok a b) : ∀ {p : List Nat} {k : Nat}, IsPath F.arrows k p → k + p.length ≤ endN F.arrows k p
  | [], k, _ => Nat.le_refl _
  | i :: p, k, h => by
    have h1 := isPath_len hF h.2.2
    have h2 := hF.arr _ (getD_mem h.1 (0, 0))
    have h3 := h.2.1
    show k + (p.length + 1) ≤ endN F.arrows (F.arrows.getD i (0, 0)).2 p
    omega
theorem isPath_end {F : Form} {a b : Nat} (hF : F.Ok a b) : ∀ {p : List Nat} {k : Nat}, k < F.kinds → IsPath F.arrows k p → endN F.arrows k p < F.kinds
  | [], k, hk, _ => hk
  | i :: p, k, hk, h => isPath_end hF (k := (F.arrows.getD i (0, 0)).2) (hF.arr _ (getD_mem h.1 (0, 0))).2 h.2.2

/-! ### the program's end_of and paths -/
theorem end_of_loop {F : Form} {c : AV} : ∀ (q : List Nat) (k : Nat), (∀ i ∈ q, i < F.arrows.length) →
      loopF [3] (tName 3) l_p_end_of_1 (q.map nD) [some (.d (formD F)), some (.d (nD k)), some c, none] = some (.nx [some (.d (formD F)), some (.d (nD (endN F.arrows k q))), some c, none])
  | [], k, _ => rfl
  | i :: q, k, h => by
    have hi := h i List.mem_cons_self
    have e : atD (F.arrows.map arrD) (i : Int) = some (arrD (F.arrows.getD i (0, 0))) := atD_map hi (0, 0)
    rw [List.map_cons, loopF_nx (e2 := [some (.d (formD F)), some (.d (nD (F.arrows.getD i (0, 0)).2)), some c, none])]
    · exact end_of_loop q _ fun j hj => h j (List.mem_cons_of_mem _ hj)
    · simp [l_p_end_of_1, e, -List.getD_eq_getElem?_getD]
theorem end_of_eq {F : Form} {k : Nat} {p : List Nat} (h : ∀ i ∈ p, i < F.arrows.length) : F_p_end_of [.d (formD F), .d (nD k), .d (tD p)] = some (.d (nD (endN F.arrows k p))) := by
  have := end_of_loop (c := .d (tD p)) p k h
  simp [F_p_end_of, b_p_end_of, this]
/-- the arrows out of a kind, one added for each -/
theorem outs_loop {w : List Nat} {t : TF} {b : SF} {A : List (Nat × Nat)} {a : Nat} (E : List D → Env) (g : Nat → D)
    (h : ∀ i < A.length, ∀ acc : List D, turn w t b (.tuple [nD i, arrD (A.getD i (0, 0))]) (E acc) = if (A.getD i (0, 0)).1 = a then (if acc.length < lim then some (.nx (E (acc ++ [g i]))) else none) else some (.nx (E acc)))
    (acc : List D) (hl : acc.length + (outs A a).length ≤ lim) : loopF w t b (enumD 0 (A.map arrD)) (E acc) = some (.nx (E (acc ++ (outs A a).map g))) := by
  rw [enumD_map arrD A (0, 0)]
  have e : ((List.range A.length).flatMap fun i => if decide ((A.getD i (0, 0)).1 = a) then [g i] else []) = (outs A a).map g := flatMap_if _
  have := loopF_flat (w := w) (t := t) (b := b) (fun i => .tuple [nD i, arrD (A.getD i (0, 0))]) E (fun i => if decide ((A.getD i (0, 0)).1 = a) then [g i] else []) (List.range A.length) (by
    intro i hi acc hs
    rw [h i (List.mem_range.mp hi) acc]
    by_cases hp : (A.getD i (0, 0)).1 = a
    · rw [decide_eq_true hp] at hs
      simp only [if_true, List.length_singleton] at hs
      rw [if_pos hp, decide_eq_true hp, if_pos (by omega)]
      rfl
    · rw [if_neg hp, decide_eq_false hp]
      simp) acc (by rw [e, List.length_map]; exact hl)
  rw [e] at this
  exact this
/-- one turn of the walk over a layer -/
theorem paths_turn {F : Form} {a b k o : Nat} (hF : F.Ok a b) (ha : a ≤ 1000) (hk : k < F.kinds) {p : List Nat} (hp : IsPath F.arrows k p) {found more : List D} {layer : AV}
    (hm : more.length + ((outs F.arrows (endN F.arrows k p)).map fun i => tD (p ++ [i])).length ≤ lim) (hf : found.length + (if decide (endN F.arrows k p = o) then [tD p] else []).length ≤ lim) :
    turn [6, 7, 8, 9] (tName 6) l_p_paths_2 (tD p) [some (.d (formD F)), some (.d (nD k)), some (.d (nD o)), some (.own found), some layer, some (.own more), none, none, none, none]
        = some (.nx [some (.d (formD F)), some (.d (nD k)), some (.d (nD o)), some (.own (found ++ if decide (endN F.arrows k p = o) then [tD p] else [])), some layer, some (.own (more ++ (outs F.arrows (endN F.arrows k p)).map fun i => tD (p ++ [i]))), none, none, none, none]) := by
  have he : F_p_end_of [.d (formD F), .d (nD k), .d (tD p)] = some (.d (nD (endN F.arrows k p))) := end_of_eq (isPath_lt hp)
  have hz : p.length < lim := by
    have h1 := isPath_len hF hp
    have h2 := isPath_end hF hk hp
    have h3 := hF.most
    rw [lim]
    omega
  rw [List.length_map] at hm
  have hl : ∀ (found : List D), loopF [8, 9] (tTup [tName 8, tName 9]) l_p_paths_1 (enumD 0 (F.arrows.map arrD)) [some (.d (formD F)), some (.d (nD k)), some (.d (nD o)), some (.own found), some layer, some (.own more), some (.d (tD p)), some (.d (nD (endN F.arrows k p))), none, none]
      = some (.nx [some (.d (formD F)), some (.d (nD k)), some (.d (nD o)), some (.own found), some layer, some (.own (more ++ (outs F.arrows (endN F.arrows k p)).map fun i => tD (p ++ [i]))), some (.d (tD p)), some (.d (nD (endN F.arrows k p))), none, none]) := fun found =>
    outs_loop (A := F.arrows) (fun acc => [some (.d (formD F)), some (.d (nD k)), some (.d (nD o)), some (.own found), some layer, some (.own acc), some (.d (tD p)), some (.d (nD (endN F.arrows k p))), none, none]) (fun i => tD (p ++ [i])) (by
      intro i hi acc
      by_cases hq : (F.arrows.getD i (0, 0)).1 = endN F.arrows k p
      · by_cases hc : acc.length < lim
        · simp [l_p_paths_1, hq, hc, hz, -List.getD_eq_getElem?_getD]
        · simp [l_p_paths_1, hq, hc, hz, -List.getD_eq_getElem?_getD]
      · have hq' : ¬ ((F.arrows.getD i (0, 0)).1 : Int) = (endN F.arrows k p : Int) := by omega
        simp [l_p_paths_1, hq, hq', -List.getD_eq_getElem?_getD]) more hm
  by_cases ho : endN F.arrows k p = o
  · rw [decide_eq_true ho] at hf ⊢
    simp only [if_true, List.length_singleton] at hf
    have hf' : found.length < lim := by omega
    simp [l_p_paths_2, he, hf', ho]
    simp [ho] at hl
    simp [hl]
  · have ho' : ¬ (endN F.arrows k p : Int) = (o : Int) := by omega
    simp [l_p_paths_2, he, ho, ho', hl]
theorem sum_le {A : List (Nat × Nat)} {k n : Nat} {L : List (List Nat)} (h : L.length * (A.length + 1) ^ (n + 1) ≤ lim) : L.length ≤ lim ∧ (nextL A k L).length ≤ lim ∧ (nextL A k L).length * (A.length + 1) ^ n ≤ lim := by
  have h3 := nextL_le (A := A) (k := k) (L := L)
  have h4 : (nextL A k L).length * (A.length + 1) ^ n ≤ L.length * A.length * (A.length + 1) ^ n := Nat.mul_le_mul_right _ h3
  have h5 : 1 ≤ (A.length + 1) ^ n := Nat.one_le_pow _ _ (Nat.succ_pos _)
  have h6 : L.length * (A.length + 1) ^ (n + 1) = L.length * A.length * (A.length + 1) ^ n + L.length * (A.length + 1) ^ n := by
    rw [Nat.pow_succ, Nat.mul_comm ((A.length + 1) ^ n), ← Nat.mul_assoc, Nat.mul_add, Nat.mul_one, Nat.add_mul]
  have h7 : L.length * 1 ≤ L.length * (A.length + 1) ^ n := Nat.mul_le_mul_left _ h5
  have h8 : (nextL A k L).length * 1 ≤ (nextL A k L).length * (A.length + 1) ^ n := Nat.mul_le_mul_left _ h5
  omega
theorem paths_while {F : Form} {a b k o : Nat} (hF : F.Ok a b) (ha : a ≤ 1000) (hk : k < F.kinds) : ∀ (n : Nat) (L : List (List Nat)) (found : List (List Nat)), (∀ p ∈ L, IsPath F.arrows k p) → Above F k n L →
    L.length * (F.arrows.length + 1) ^ n ≤ lim → found.length + (goL F.arrows k o n L).length ≤ lim →
    loopW [5, 6, 7, 8, 9] t_p_paths_1 l_p_paths_3 [some (.d (formD F)), some (.d (nD k)), some (.d (nD o)), some (.own (found.map tD)), some (.own (L.map tD)), none, none, none, none, none]
      = some (.nx [some (.d (formD F)), some (.d (nD k)), some (.d (nD o)), some (.own ((found ++ goL F.arrows k o n L).map tD)), some (.own []), none, none, none, none, none])
  | n, [], found, _, _, _, _ => by
    rw [goL_nil, List.append_nil]
    refine loopW_false ?_
    have := cmpNe_nil (xs := []) (by decide)
    simp [t_p_paths_1, this]
  | 0, p :: L, found, _, h, _, _ => by
    have := h.zero
    cases this
  | n + 1, p :: L, found, hp, h, hs, hf => by
    have hc := cmpNe_nil (xs := (p :: L).map tD) (nest_shaped (nest_list fun x _ => nest_tD))
    rw [goL, List.length_append] at hf
    generalize hM : p :: L = M at *
    have hne : (M.map tD).isEmpty = false := by
      rw [← hM]
      rfl
    rw [hne] at hc
    have hz := sum_le (k := k) hs
    have h1 := paths_while (o := o) hF ha hk n (nextL F.arrows k M) (found ++ M.filter fun p => decide (endN F.arrows k p = o)) (isPath_next hp) (h.next hF) hz.2.2 (by rw [List.length_append]; omega)
    rw [List.append_assoc] at h1
    have e1 : (M.flatMap fun p => if decide (endN F.arrows k p = o) then [tD p] else []) = (M.filter fun p => decide (endN F.arrows k p = o)).map tD := flatMap_if _
    have e2 : (M.flatMap fun p => (outs F.arrows (endN F.arrows k p)).map fun i => tD (p ++ [i])) = (nextL F.arrows k M).map tD := by
      rw [nextL, List.map_flatMap]
      simp only [List.map_map]
      rfl
    have hl := loopF_flat2 (w := [6, 7, 8, 9]) (t := tName 6) (b := l_p_paths_2) tD (fun u v => [some (.d (formD F)), some (.d (nD k)), some (.d (nD o)), some (.own u), some (.d (.list (M.map tD))), some (.own v), none, none, none, none])
      (fun p => if decide (endN F.arrows k p = o) then [tD p] else []) (fun p => (outs F.arrows (endN F.arrows k p)).map fun i => tD (p ++ [i])) M
      (fun x hx u v hu hv => paths_turn hF ha hk (hp x hx) hv hu) (found.map tD) [] (by rw [e1, List.length_map, List.length_map]; omega) (by rw [e2, List.length_map, List.length_nil]; omega)
    rw [e1, e2] at hl
    refine loopW_true (e2 := [some (.d (formD F)), some (.d (nD k)), some (.d (nD o)), some (.own ((found ++ M.filter fun p => decide (endN F.arrows k p = o)).map tD)), some (.own ((nextL F.arrows k M).map tD)), none, none, none, none, none]) ?_ ?_ h1
    · simp [t_p_paths_1, hc]
    · simp at hl
      simp [l_p_paths_3, hl]
theorem paths_eq {F : Form} {a b k o : Nat} (hF : F.Ok a b) (ha : a ≤ 1000) (hk : k < F.kinds) (hs : (b + 1) ^ a ≤ lim) : F_p_paths [.d (formD F), .d (nD k), .d (nD o)] = some (.new ((pathsN F k o).map tD)) := by
  have h1 : (F.arrows.length + 1) ^ F.kinds ≤ (b + 1) ^ a := Nat.le_trans (Nat.pow_le_pow_left (Nat.succ_le_succ hF.many) _) (Nat.pow_le_pow_right (Nat.succ_pos _) hF.most)
  have h2 := go_le (A := F.arrows) (k := k) (o := o) (n := F.kinds) (L := [[]])
  rw [List.length_singleton, Nat.one_mul] at h2
  have := paths_while (o := o) hF ha hk F.kinds [[]] [] (fun p hp => by rw [List.mem_singleton.mp hp]; trivial) (above_start hk) (by rw [List.length_singleton, Nat.one_mul]; omega) (by rw [List.length_nil]; omega)
  have e : tD [] = .tuple [] := rfl
  simp only [List.map_cons, List.map_nil, List.nil_append, e] at this
  simp [F_p_paths, b_p_paths, this, pathsN]

/-! ### the law's own walk over the paths -/
def lpD (A : List (Nat × Nat)) (k : Nat) (p : List Nat) : D := .tuple [tD p, nD (endN A k p)]
theorem lpaths_turn {F : Form} {a b k o : Nat} (hF : F.Ok a b) (ha : a ≤ 1000) (hk : k < F.kinds) {p : List Nat} (hp : IsPath F.arrows k p) {found more : List D} {layer : AV}
    (hm : more.length + ((outs F.arrows (endN F.arrows k p)).map fun i => lpD F.arrows k (p ++ [i])).length ≤ lim) (hf : found.length + (if decide (endN F.arrows k p = o) then [tD p] else []).length ≤ lim) :
    turn [6, 7, 8, 9] (tTup [tName 6, tName 7]) l_law_paths_2 (lpD F.arrows k p) [some (.d (formD F)), some (.d (nD k)), some (.d (nD o)), some (.own found), some layer, some (.own more), none, none, none, none]
        = some (.nx [some (.d (formD F)), some (.d (nD k)), some (.d (nD o)), some (.own (found ++ if decide (endN F.arrows k p = o) then [tD p] else [])), some layer, some (.own (more ++ (outs F.arrows (endN F.arrows k p)).map fun i => lpD F.arrows k (p ++ [i]))), none, none, none, none]) := by
  have hz : p.length < lim := by
    have h1 := isPath_len hF hp
    have h2 := isPath_end hF hk hp
    have h3 := hF.most
    rw [lim]
    omega
  rw [List.length_map] at hm
  have hl : ∀ (found : List D), loopF [8, 9] (tTup [tName 8, tName 9]) l_law_paths_1 (enumD 0 (F.arrows.map arrD)) [some (.d (formD F)), some (.d (nD k)), some (.d (nD o)), some (.own found), some layer, some (.own more), some (.d (tD p)), some (.d (nD (endN F.arrows k p))), none, none]
      = some (.nx [some (.d (formD F)), some (.d (nD k)), some (.d (nD o)), some (.own found), some layer, some (.own (more ++ (outs F.arrows (endN F.arrows k p)).map fun i => lpD F.arrows k (p ++ [i]))), some (.d (tD p)), some (.d (nD (endN F.arrows k p))), none, none]) := fun found =>
    outs_loop (A := F.arrows) (fun acc => [some (.d (formD F)), some (.d (nD k)), some (.d (nD o)), some (.own found), some layer, some (.own acc), some (.d (tD p)), some (.d (nD (endN F.arrows k p))), none, none]) (fun i => lpD F.arrows k (p ++ [i])) (by
      intro i hi acc
      by_cases hq : (F.arrows.getD i (0, 0)).1 = endN F.arrows k p
      · by_cases hc : acc.length < lim
        · simp [l_law_paths_1, hq, hc, hz, lpD, endN_snoc, -List.getD_eq_getElem?_getD]
        · simp [l_law_paths_1, hq, hc, hz, lpD, endN_snoc, -List.getD_eq_getElem?_getD]
      · have hq' : ¬ ((F.arrows.getD i (0, 0)).1 : Int) = (endN F.arrows k p : Int) := by omega
        simp [l_law_paths_1, hq, hq', -List.getD_eq_getElem?_getD]) more hm
  by_cases ho : endN F.arrows k p = o
  · rw [decide_eq_true ho] at hf ⊢
    simp only [if_true, List.length_singleton] at hf
    have hf' : found.length < lim := by omega
    simp [l_law_paths_2, hf', ho, lpD]
    simp [ho, lpD] at hl
    simp [hl]
  · have ho' : ¬ (endN F.arrows k p : Int) = (o : Int) := by omega
    simp [lpD] at hl
    simp [l_law_paths_2, ho, ho', hl, lpD]
theorem lpaths_while {F : Form} {a b k o : Nat} (hF : F.Ok a b) (ha : a ≤ 1000) (hk : k < F.kinds) : ∀ (n : Nat) (L : List (List Nat)) (found : List (List Nat)), (∀ p ∈ L, IsPath F.arrows k p) → Above F k n L →
    L.length * (F.arrows.length + 1) ^ n ≤ lim → found.length + (goL F.arrows k o n L).length ≤ lim →
    loopW [5, 6, 7, 8, 9] t_law_paths_1 l_law_paths_3 [some (.d (formD F)), some (.d (nD k)), some (.d (nD o)), some (.own (found.map tD)), some (.own (L.map (lpD F.arrows k))), none, none, none, none, none]
      = some (.nx [some (.d (formD F)), some (.d (nD k)), some (.d (nD o)), some (.own ((found ++ goL F.arrows k o n L).map tD)), some (.own []), none, none, none, none, none])
  | n, [], found, _, _, _, _ => by
    rw [goL_nil, List.append_nil]
    refine loopW_false ?_
    have := cmpNe_nil (xs := []) (by decide)
    simp [t_law_paths_1, this]
  | 0, p :: L, found, _, h, _, _ => by
    have := h.zero
    cases this
  | n + 1, p :: L, found, hp, h, hs, hf => by
    have hc := cmpNe_nil (xs := (p :: L).map (lpD F.arrows k)) (nest_shaped (nest_list fun x _ => by simp [lpD, nest, nests, nest_tD]))
    rw [goL, List.length_append] at hf
    generalize hM : p :: L = M at *
    have hne : (M.map (lpD F.arrows k)).isEmpty = false := by
      rw [← hM]
      rfl
    rw [hne] at hc
    have hz := sum_le (k := k) hs
    have h1 := lpaths_while (o := o) hF ha hk n (nextL F.arrows k M) (found ++ M.filter fun p => decide (endN F.arrows k p = o)) (isPath_next hp) (h.next hF) hz.2.2 (by rw [List.length_append]; omega)
    rw [List.append_assoc] at h1
    have e1 : (M.flatMap fun p => if decide (endN F.arrows k p = o) then [tD p] else []) = (M.filter fun p => decide (endN F.arrows k p = o)).map tD := flatMap_if _
    have e2 : (M.flatMap fun p => (outs F.arrows (endN F.arrows k p)).map fun i => lpD F.arrows k (p ++ [i])) = (nextL F.arrows k M).map (lpD F.arrows k) := by
      rw [nextL, List.map_flatMap]
      simp only [List.map_map]
      rfl
    have hl := loopF_flat2 (w := [6, 7, 8, 9]) (t := tTup [tName 6, tName 7]) (b := l_law_paths_2) (lpD F.arrows k) (fun u v => [some (.d (formD F)), some (.d (nD k)), some (.d (nD o)), some (.own u), some (.d (.list (M.map (lpD F.arrows k)))), some (.own v), none, none, none, none])
      (fun p => if decide (endN F.arrows k p = o) then [tD p] else []) (fun p => (outs F.arrows (endN F.arrows k p)).map fun i => lpD F.arrows k (p ++ [i])) M
      (fun x hx u v hu hv => lpaths_turn hF ha hk (hp x hx) hv hu) (found.map tD) [] (by rw [e1, List.length_map, List.length_map]; omega) (by rw [e2, List.length_map, List.length_nil]; omega)
    rw [e1, e2] at hl
    refine loopW_true (e2 := [some (.d (formD F)), some (.d (nD k)), some (.d (nD o)), some (.own ((found ++ M.filter fun p => decide (endN F.arrows k p = o)).map tD)), some (.own ((nextL F.arrows k M).map (lpD F.arrows k))), none, none, none, none, none]) ?_ ?_ h1
    · simp [t_law_paths_1, hc]
    · simp at hl
      simp [l_law_paths_3, hl]
theorem lpaths_eq {F : Form} {a b k o : Nat} (hF : F.Ok a b) (ha : a ≤ 1000) (hk : k < F.kinds) (hs : (b + 1) ^ a ≤ lim) : F_law_paths [.d (formD F), .d (nD k), .d (nD o)] = some (.new ((pathsN F k o).map tD)) := by
  have h1 : (F.arrows.length + 1) ^ F.kinds ≤ (b + 1) ^ a := Nat.le_trans (Nat.pow_le_pow_left (Nat.succ_le_succ hF.many) _) (Nat.pow_le_pow_right (Nat.succ_pos _) hF.most)
  have h2 := go_le (A := F.arrows) (k := k) (o := o) (n := F.kinds) (L := [[]])
  rw [List.length_singleton, Nat.one_mul] at h2
  have := lpaths_while (o := o) hF ha hk F.kinds [[]] [] (fun p hp => by rw [List.mem_singleton.mp hp]; trivial) (above_start hk) (by rw [List.length_singleton, Nat.one_mul]; omega) (by rw [List.length_nil]; omega)
  have e : lpD F.arrows k [] = .tuple [.tuple [], nD k] := rfl
  simp only [List.map_cons, List.map_nil, List.nil_append, e] at this
  simp [F_law_paths, b_law_paths, this, pathsN]
/-- from a kind to itself: the path of no arrows -/
theorem pathsN_self {F : Form} {a b k : Nat} (hF : F.Ok a b) (hk : k < F.kinds) : pathsN F k k = [[]] := by
  have hn : ∀ (n : Nat) (L : List (List Nat)), (∀ p ∈ L, IsPath F.arrows k p ∧ p ≠ []) → goL F.arrows k k n L = [] := by
    intro n L h
    cases hg : goL F.arrows k k n L with
    | nil => rfl
    | cons q r =>
      exfalso
      have h1 : ∀ (n : Nat) (L : List (List Nat)), (∀ p ∈ L, IsPath F.arrows k p ∧ p ≠ []) → ∀ q ∈ goL F.arrows k k n L, q ≠ [] := by
        intro n
        induction n with
        | zero => intro L _ q hq; cases hq
        | succ n ih =>
          intro L h q hq
          rcases List.mem_append.mp hq with e | e
          · exact (h q (List.mem_filter.mp e).1).2
          · refine ih _ (fun p hp => ⟨isPath_next (fun p hp => (h p hp).1) p hp, ?_⟩) q e
            obtain ⟨x, _, hx⟩ := List.mem_flatMap.mp hp
            obtain ⟨i, _, rfl⟩ := List.mem_map.mp hx
            simp
      have h2 := h1 n L h q (by rw [hg]; exact List.mem_cons_self)
      have h3 := isPath_go (o := k) (n := n) (fun p hp => (h p hp).1) q (by rw [hg]; exact List.mem_cons_self)
      have h4 := isPath_len hF h3.1
      have h5 : 0 < q.length := List.length_pos_iff.mpr h2
      omega
  obtain ⟨m, hm⟩ : ∃ m, F.kinds = m + 1 := ⟨F.kinds - 1, by have := hF.pos; omega⟩
  unfold pathsN
  rw [hm, goL, hn m]
  · simp [endN]
  · intro p hp
    obtain ⟨x, hx, hy⟩ := List.mem_flatMap.mp hp
    obtain ⟨i, hi, rfl⟩ := List.mem_map.mp hy
    refine ⟨isPath_next (L := [[]]) (fun p hp => by rw [List.mem_singleton.mp hp]; trivial) _ hp, by simp⟩
end FS
set_option Elab.async false
set_option linter.all false
set_option maxRecDepth 100000
set_option autoImplicit false
namespace FS
open PySem

/-! ### more loops -/
theorem loopF_or {α : Type} {w : List Nat} {t : TF} {b : SF} (dat : α → D) (I : List α → Env → Prop) (P : RV → Prop)
    (h : ∀ (e : Env) (x : α) (r : List α), I (x :: r) e → (∃ e', turn w t b (dat x) e = some (.nx e') ∧ I r e') ∨ (∃ v, turn w t b (dat x) e = some (.rt v) ∧ P v)) :
    ∀ (xs : List α) (e : Env), I xs e → (∃ e', loopF w t b (xs.map dat) e = some (.nx e') ∧ I [] e') ∨ (∃ v, loopF w t b (xs.map dat) e = some (.rt v) ∧ P v)
  | [], e, hI => .inl ⟨e, rfl, hI⟩
  | x :: xs, e, hI => by
    rcases h e x xs hI with ⟨e1, h1, h2⟩ | ⟨v, h1, h2⟩
    · rcases loopF_or dat I P h xs e1 h2 with ⟨e2, h3, h4⟩ | ⟨v, h3, h4⟩
      · exact .inl ⟨e2, by rw [List.map_cons, loopF_nx h1]; exact h3, h4⟩
      · exact .inr ⟨v, by rw [List.map_cons, loopF_nx h1]; exact h3, h4⟩
    · exact .inr ⟨v, by rw [List.map_cons, loopF_rt h1], h2⟩

/-! ### sorted -/
theorem mem_insP {p q : Int × Int} : ∀ {l : List (Int × Int)}, q ∈ insP p l ↔ q = p ∨ q ∈ l
  | [] => by simp [insP]
  | x :: l => by
    unfold insP
    split
    · simp
    · simp only [List.mem_cons, mem_insP]
      constructor
      · rintro (h | h | h)
        · exact .inr (.inl h)
        · exact .inl h
        · exact .inr (.inr h)
      · rintro (h | h | h)
        · exact .inr (.inl h)
        · exact .inl h
        · exact .inr (.inr h)
theorem mem_sortP {q : Int × Int} : ∀ {l : List (Int × Int)}, q ∈ sortP l ↔ q ∈ l
  | [] => by simp [sortP]
  | x :: l => by rw [sortP, mem_insP, mem_sortP, List.mem_cons]
def Asc (l : List (Int × Int)) : Prop := l.Pairwise fun p q => p.1 ≤ q.1
theorem asc_insP {p : Int × Int} : ∀ {l : List (Int × Int)}, Asc l → Asc (insP p l)
  | [], _ => by simp [insP, Asc]
  | x :: l, h => by
    unfold insP
    have h2 := List.pairwise_cons.mp h
    split
    · rename_i hl
      have hpx : p.1 ≤ x.1 := by
        unfold lexP at hl
        split at hl
        · omega
        · have := of_decide_eq_true hl
          omega
      refine List.pairwise_cons.mpr ⟨fun q hq => ?_, h⟩
      rcases List.mem_cons.mp hq with e | e
      · rw [e]; exact hpx
      · have := h2.1 q e
        omega
    · rename_i hl
      have hxp : x.1 ≤ p.1 := by
        unfold lexP at hl
        split at hl
        · omega
        · have : ¬ p.1 < x.1 := fun hh => hl (decide_eq_true hh)
          omega
      refine List.pairwise_cons.mpr ⟨fun q hq => ?_, asc_insP h2.2⟩
      rcases mem_insP.mp hq with e | e
      · rw [e]; exact hxp
      · exact h2.1 q e
theorem asc_sortP : ∀ {l : List (Int × Int)}, Asc (sortP l)
  | [] => List.Pairwise.nil
  | x :: l => asc_insP asc_sortP
theorem pairsOf_arr : ∀ (A : List (Nat × Nat)), pairsOfD (A.map arrD) = some (A.map fun a => ((a.1 : Int), (a.2 : Int)))
  | [] => rfl
  | a :: A => by
    rw [List.map_cons, pairsOfD, pairsOf_arr A]
    rfl
theorem sort_nat {l : List (Int × Int)} (h : ∀ q ∈ l, 0 ≤ q.1 ∧ 0 ≤ q.2) : ∃ A : List (Nat × Nat), l = A.map fun a => ((a.1 : Int), (a.2 : Int)) := by
  refine ⟨l.map fun q => (q.1.toNat, q.2.toNat), ?_⟩
  rw [List.map_map]
  have : ∀ q ∈ l, ((fun a : Nat × Nat => ((a.1 : Int), (a.2 : Int))) ∘ fun q : Int × Int => (q.1.toNat, q.2.toNat)) q = id q := by
    intro q hq
    have := h q hq
    simp only [Function.comp, id]
    rw [Int.toNat_of_nonneg this.1, Int.toNat_of_nonneg this.2]
  rw [List.map_congr_left this, List.map_id]
/-- the arrows of a form in order of where they leave -/
theorem fSortP_arr (A : List (Nat × Nat)) : ∃ S : List (Nat × Nat), fSortP (.d (.tuple (A.map arrD))) = some (.new (S.map arrD)) ∧ (∀ a, a ∈ S ↔ a ∈ A) ∧ S.Pairwise fun p q => p.1 ≤ q.1 := by
  obtain ⟨S, hS⟩ := sort_nat (l := sortP (A.map fun a => ((a.1 : Int), (a.2 : Int)))) (by
    intro q hq
    obtain ⟨a, _, rfl⟩ := List.mem_map.mp (mem_sortP.mp hq)
    exact ⟨Int.natCast_nonneg _, Int.natCast_nonneg _⟩)
  refine ⟨S, ?_, ?_, ?_⟩
  · unfold fSortP
    simp only
    rw [pairsOf_arr]
    simp only
    rw [hS, List.map_map]
    rfl
  · intro a
    have h1 := mem_sortP (q := ((a.1 : Int), (a.2 : Int))) (l := A.map fun a => ((a.1 : Int), (a.2 : Int)))
    rw [hS] at h1
    have h2 : ∀ B : List (Nat × Nat), ((a.1 : Int), (a.2 : Int)) ∈ B.map (fun a => ((a.1 : Int), (a.2 : Int))) ↔ a ∈ B := by
      intro B
      rw [List.mem_map]
      constructor
      · rintro ⟨b, hb, he⟩
        have e1 : (b.1 : Int) = a.1 := congrArg Prod.fst he
        have e2 : (b.2 : Int) = a.2 := congrArg Prod.snd he
        have : b = a := Prod.ext (by omega) (by omega)
        exact this ▸ hb
      · exact fun hb => ⟨a, hb, rfl⟩
    rw [h2, h2] at h1
    exact h1
  · have h1 : Asc (sortP (A.map fun a => ((a.1 : Int), (a.2 : Int)))) := asc_sortP
    rw [hS] at h1
    unfold Asc at h1
    rw [List.pairwise_map] at h1
    exact h1.imp fun h => by omega

/-! ### books -/
structure BookOk (F : Form) (R : List Nat) (S : List (List Nat)) : Prop where
  rows : R.length = F.kinds
  steps : S.length = F.arrows.length
  len : ∀ i < F.arrows.length, (S.getD i []).length = R.getD (F.arrows.getD i (0, 0)).1 0
  lt : ∀ i < F.arrows.length, ∀ x ∈ S.getD i [], x < R.getD (F.arrows.getD i (0, 0)).2 0
def wentN (S : List (List Nat)) (p : List Nat) (r : Nat) : Nat := p.foldl (fun r i => (S.getD i []).getD r 0) r
theorem went_lt {F : Form} {R : List Nat} {S : List (List Nat)} (hB : BookOk F R S) : ∀ {p : List Nat} {k r : Nat}, IsPath F.arrows k p → r < R.getD k 0 → wentN S p r < R.getD (endN F.arrows k p) 0
  | [], k, r, _, hr => hr
  | i :: p, k, r, hp, hr => by
    have h1 := hB.len i hp.1
    rw [hp.2.1] at h1
    exact went_lt (p := p) (k := (F.arrows.getD i (0, 0)).2) hB hp.2.2 (hB.lt i hp.1 _ (getD_mem (by omega) 0))
theorem went_loop {F : Form} {R : List Nat} {S : List (List Nat)} {c : AV} (hB : BookOk F R S) : ∀ {p : List Nat} {k r : Nat}, IsPath F.arrows k p → r < R.getD k 0 →
    loopF [3] (tName 3) l_p_went_1 (p.map nD) [some (.d (prD R S)), some c, some (.d (nD r)), none] = some (.nx [some (.d (prD R S)), some c, some (.d (nD (wentN S p r))), none])
  | [], k, r, _, hr => rfl
  | i :: p, k, r, hp, hr => by
    have h1 := hB.len i hp.1
    rw [hp.2.1] at h1
    have e1 : atD (S.map tD) (i : Int) = some (tD (S.getD i [])) := atD_map (by rw [hB.steps]; exact hp.1) []
    have e2 : atD ((S.getD i []).map nD) (r : Int) = some (nD ((S.getD i []).getD r 0)) := atD_nD (by omega)
    rw [List.map_cons, loopF_nx (e2 := [some (.d (prD R S)), some c, some (.d (nD ((S.getD i []).getD r 0))), none])]
    · exact went_loop hB hp.2.2 (hB.lt i hp.1 _ (getD_mem (by omega) 0))
    · simp [l_p_went_1, e1, e2, -List.getD_eq_getElem?_getD]
theorem went_eq {F : Form} {R : List Nat} {S : List (List Nat)} {p : List Nat} {k r : Nat} (hB : BookOk F R S) (hp : IsPath F.arrows k p) (hr : r < R.getD k 0) :
    F_p_went [.d (prD R S), .d (tD p), .d (nD r)] = some (.d (nD (wentN S p r))) := by
  have := went_loop (c := .d (tD p)) hB hp hr
  simp [F_p_went, b_p_went, this]
theorem lwent_eq {F : Form} {R : List Nat} {S : List (List Nat)} {p : List Nat} {k r : Nat} (hB : BookOk F R S) (hp : IsPath F.arrows k p) (hr : r < R.getD k 0) :
    F_law_went [.d (prD R S), .d (tD p), .d (nD r)] = some (.d (nD (wentN S p r))) := went_eq hB hp hr

/-! ### the law's book -/
def upRow (R : List Nat) (a : Nat × Nat) : List Nat := if 0 < R.getD a.1 0 ∧ R.getD a.2 0 = 0 then R.set a.2 1 else R
theorem upRow_len {R : List Nat} {a : Nat × Nat} : (upRow R a).length = R.length := by
  unfold upRow
  split <;> simp
theorem getD_set {R : List Nat} {i j v : Nat} (hi : i < R.length) : (R.set i v).getD j 0 = if i = j then v else R.getD j 0 := by
  simp only [List.getD_eq_getElem?_getD, List.getElem?_set]
  by_cases h : i = j
  · subst h
    simp [hi]
  · simp [h]
theorem upRow_same {R : List Nat} {a : Nat × Nat} {k : Nat} (h : k ≠ a.2) (ha : a.2 < R.length) : (upRow R a).getD k 0 = R.getD k 0 := by
  unfold upRow
  split
  · rw [getD_set ha, if_neg (Ne.symm h)]
  · rfl
theorem upRow_pos {R : List Nat} {a : Nat × Nat} {k : Nat} (ha : a.2 < R.length) (h : 0 < R.getD k 0) : 0 < (upRow R a).getD k 0 := by
  unfold upRow
  split
  · rw [getD_set ha]
    split <;> omega
  · exact h
theorem upRow_did {R : List Nat} {a : Nat × Nat} (ha : a.2 < R.length) (hn : a.1 ≠ a.2) (h : 0 < (upRow R a).getD a.1 0) : 0 < (upRow R a).getD a.2 0 := by
  rw [upRow_same hn ha] at h
  unfold upRow
  split
  · rw [getD_set ha]
    simp
  · rename_i hc
    have : ¬ R.getD a.2 0 = 0 := fun e => hc ⟨h, e⟩
    omega
theorem upRow_le {R : List Nat} {a : Nat × Nat} {m : Nat} (hm : 1 ≤ m) (h : ∀ r ∈ R, r ≤ m) : ∀ r ∈ upRow R a, r ≤ m := by
  unfold upRow
  split
  · intro r hr
    rcases List.mem_or_eq_of_mem_set hr with e | e
    · exact h r e
    · omega
  · exact h
theorem fold_len : ∀ (S : List (Nat × Nat)) (R : List Nat), (S.foldl upRow R).length = R.length
  | [], R => rfl
  | a :: S, R => by rw [List.foldl_cons, fold_len S, upRow_len]
theorem fold_same : ∀ (S : List (Nat × Nat)) (R : List Nat) (k : Nat), (∀ a ∈ S, k ≠ a.2 ∧ a.2 < R.length) → (S.foldl upRow R).getD k 0 = R.getD k 0
  | [], R, k, _ => rfl
  | a :: S, R, k, h => by
    have h1 := h a List.mem_cons_self
    rw [List.foldl_cons, fold_same S _ k (fun b hb => by rw [upRow_len]; exact h b (List.mem_cons_of_mem _ hb)), upRow_same h1.1 h1.2]
theorem fold_pos : ∀ (S : List (Nat × Nat)) (R : List Nat) (k : Nat), (∀ a ∈ S, a.2 < R.length) → 0 < R.getD k 0 → 0 < (S.foldl upRow R).getD k 0
  | [], R, k, _, h => h
  | a :: S, R, k, h, hp => by
    rw [List.foldl_cons]
    exact fold_pos S _ k (fun b hb => by rw [upRow_len]; exact h b (List.mem_cons_of_mem _ hb)) (upRow_pos (h a List.mem_cons_self) hp)
theorem fold_le : ∀ (S : List (Nat × Nat)) (R : List Nat) (m : Nat), 1 ≤ m → (∀ r ∈ R, r ≤ m) → ∀ r ∈ S.foldl upRow R, r ≤ m
  | [], R, m, _, h => h
  | a :: S, R, m, hm, h => by
    rw [List.foldl_cons]
    exact fold_le S _ m hm (upRow_le hm h)
/-- after all: where an arrow leaves rows, it comes to rows -/
theorem fold_ok : ∀ (S : List (Nat × Nat)) (R : List Nat), S.Pairwise (fun p q => p.1 ≤ q.1) → (∀ a ∈ S, a.1 < a.2 ∧ a.2 < R.length) → ∀ a ∈ S, 0 < (S.foldl upRow R).getD a.1 0 → 0 < (S.foldl upRow R).getD a.2 0
  | [], R, _, _, a, ha, _ => by cases ha
  | b :: S, R, hs, h, a, ha, hp => by
    have hs2 := List.pairwise_cons.mp hs
    have hb := h b List.mem_cons_self
    have hl : ∀ a ∈ S, a.1 < a.2 ∧ a.2 < (upRow R b).length := fun a ha => by rw [upRow_len]; exact h a (List.mem_cons_of_mem _ ha)
    rw [List.foldl_cons] at hp ⊢
    rcases List.mem_cons.mp ha with e | e
    · subst e
      refine fold_pos S _ _ (fun c hc => (hl c hc).2) (upRow_did hb.2 (by omega) ?_)
      rw [fold_same S _ _ (fun c hc => ⟨by have := hs2.1 c hc; have := (hl c hc).1; omega, (hl c hc).2⟩)] at hp
      exact hp
    · exact fold_ok S _ hs2.2 hl a e hp
theorem book_row_turn {s1 s2 f m : AV} {R : List Nat} {a : Nat × Nat} (h1 : a.1 < R.length) (h2 : a.2 < R.length) :
    turn [5, 6] (tTup [tName 5, tName 6]) l_law_book_1 (arrD a) [some s1, some s2, some f, some m, some (.own (R.map nD)), none, none, none, none, none, none, none, none]
      = some (.nx [some s1, some s2, some f, some m, some (.own ((upRow R a).map nD)), none, none, none, none, none, none, none, none]) := by
  have e1 : atD (R.map nD) (a.1 : Int) = some (nD (R.getD a.1 0)) := atD_nD h1
  have e2 : atD (R.map nD) (a.2 : Int) = some (nD (R.getD a.2 0)) := atD_nD h2
  have e3 : ixN R.length (a.2 : Int) = some a.2 := ixN_nat h2
  unfold upRow
  by_cases c1 : 0 < R.getD a.1 0
  · by_cases c2 : R.getD a.2 0 = 0
    · have c2' : (R.getD a.2 0 : Int) = 0 := by omega
      rw [if_pos ⟨c1, c2⟩]
      simp [l_law_book_1, e1, e2, e3, c1, c2, c2', -List.getD_eq_getElem?_getD, List.map_set]
      rfl
    · have c2' : ¬ (R.getD a.2 0 : Int) = 0 := by omega
      rw [if_neg (by simp only [c2, and_false]; exact not_false)]
      simp [l_law_book_1, e1, e2, e3, c1, c2, c2', -List.getD_eq_getElem?_getD]
  · rw [if_neg (by simp only [c1, false_and]; exact not_false)]
    simp [l_law_book_1, e1, e2, e3, c1, -List.getD_eq_getElem?_getD]
theorem drawN_ex (c : Int) (k : Int) {b : Int} (h : 0 < b) : ∃ n : Nat, drawI c k b = n ∧ (n : Int) < b := ⟨(drawI c k b).toNat, by have := drawI_lo (c := c) (k := k) h; omega, by have := drawI_lo (c := c) (k := k) h; have := drawI_hi (c := c) (k := k) h; omega⟩
theorem lcGo_ex {α : Type} {t : TF} {f : EF} {e : Env} (dat : α → D) (P : α → Nat → Prop) : ∀ (xs : List α), (∀ x ∈ xs, ∃ e1 n, t (dat x) e = some e1 ∧ f e1 = some (.d (nD n)) ∧ P x n) → ∃ ns : List Nat, lcGo t bYes f e (xs.map dat) = some (ns.map nD) ∧ ns.length = xs.length ∧ ∀ n ∈ ns, ∃ x ∈ xs, P x n
  | [], _ => ⟨[], rfl, rfl, by simp⟩
  | x :: xs, h => by
    obtain ⟨ns, h1, h2, h3⟩ := lcGo_ex (t := t) (f := f) (e := e) dat P xs fun y hy => h y (List.mem_cons_of_mem _ hy)
    obtain ⟨e1, n, g1, g2, g3⟩ := h x List.mem_cons_self
    refine ⟨n :: ns, ?_, by simp [h2], ?_⟩
    · rw [List.map_cons]
      unfold lcGo
      simp [g1, g2, h1]
    · intro m hm
      rcases List.mem_cons.mp hm with e | e
      · rw [e]
        exact ⟨x, List.mem_cons_self, g3⟩
      · obtain ⟨y, hy, hp⟩ := h3 m e
        exact ⟨y, List.mem_cons_of_mem _ hy, hp⟩
theorem book_ex (ns : List Int) {F : Form} {a b : Nat} (hF : F.Ok a b) (ha : a ≤ 1000) (hb : b ≤ 1000) (first most : Int) (h0 : 0 ≤ first) (h1 : 1 ≤ most) (h2 : most ≤ 1000) :
    ∃ R S, F_law_book [.bor (ns.map PyData.int), .d (.int first), .d (formD F), .d (.int most)] = some (.d (prD R S)) ∧ BookOk F R S ∧ ∀ r ∈ R, (r : Int) ≤ most := by
  have c0 := cell_eqI ns first h0
  have c1 := cell_eqI ns (first + 1) (by omega)
  generalize cellI ns first = ca at c0
  generalize cellI ns (first + 1) = cb at c1
  -- the rows
  obtain ⟨R0, r1, r2, r3⟩ := lcGo_ex (t := tName 11) (f := c_law_book_1) (e := [some (.bor (ns.map PyData.int)), some (.d (.int first)), some (.d (formD F)), some (.d (.int most)), none, none, none, none, none, none, none, none, none]) nD (fun _ n => (n : Int) ≤ most) (List.range F.kinds) (by
    intro k _
    obtain ⟨n, hn, hl⟩ := drawN_ex ca k (b := most + 1) (by omega)
    refine ⟨_, n, rfl, ?_, by omega⟩
    have hd := draw_eq ca k (most + 1) (by omega)
    rw [hn] at hd
    simp [c_law_book_1, c0, hd])
  rw [List.length_range] at r2
  obtain ⟨So, s1, s2, s3⟩ := fSortP_arr F.arrows
  have hS : ∀ a ∈ So, a.1 < a.2 ∧ a.2 < R0.length := fun a ha => by rw [r2]; exact hF.arr a ((s2 a).mp ha)
  -- the arrows in order
  have l1 : ∀ (S : List (Nat × Nat)) (R : List Nat), (∀ a ∈ S, a.1 < a.2 ∧ a.2 < R.length) → loopF [5, 6] (tTup [tName 5, tName 6]) l_law_book_1 (S.map arrD) [some (.bor (ns.map PyData.int)), some (.d (.int first)), some (.d (formD F)), some (.d (.int most)), some (.own (R.map nD)), none, none, none, none, none, none, none, none]
      = some (.nx [some (.bor (ns.map PyData.int)), some (.d (.int first)), some (.d (formD F)), some (.d (.int most)), some (.own ((S.foldl upRow R).map nD)), none, none, none, none, none, none, none, none]) := by
    intro S
    induction S with
    | nil => intro R _; rfl
    | cons c S ih =>
      intro R h
      have hc := h c List.mem_cons_self
      rw [List.map_cons, loopF_nx (book_row_turn (by omega) hc.2), List.foldl_cons]
      exact ih _ fun d hd => by rw [upRow_len]; exact h d (List.mem_cons_of_mem _ hd)
  have l2 := l1 So R0 hS
  have hok := fold_ok So R0 s3 hS
  have hle := fold_le So R0 most.toNat (by omega) (fun r hr => by obtain ⟨_, _, h⟩ := r3 r hr; omega)
  have hlen := fold_len So R0
  generalize So.foldl upRow R0 = R at l2 hok hle hlen
  rw [r2] at hlen
  -- the steps
  have l3 := loopF_inv (w := [8, 9, 10]) (t := tTup [tName 8, tName 9]) (b := l_law_book_2) (fun i => PyData.tuple [nD i, arrD (F.arrows.getD i (0, 0))])
    (fun r e => ∃ S : List (List Nat), e = [some (.bor (ns.map PyData.int)), some (.d (.int first)), some (.d (formD F)), some (.d (.int most)), some (.own (R.map nD)), none, none, some (.own (S.map tD)), none, none, none, none, none]
      ∧ r = (List.range' S.length (F.arrows.length - S.length)) ∧ S.length ≤ F.arrows.length ∧ (∀ i < S.length, (S.getD i []).length = R.getD (F.arrows.getD i (0, 0)).1 0) ∧ ∀ i < S.length, ∀ x ∈ S.getD i [], x < R.getD (F.arrows.getD i (0, 0)).2 0) (by
    intro e i r ⟨S, he, hr, hl, hn, hx⟩
    subst he
    have hlt : S.length < F.arrows.length := by
      rcases Nat.lt_or_ge S.length F.arrows.length with h | h
      · exact h
      · rw [show F.arrows.length - S.length = 0 by omega] at hr
        cases hr
    obtain ⟨m, hm⟩ : ∃ m, F.arrows.length - S.length = m + 1 := ⟨F.arrows.length - S.length - 1, by omega⟩
    rw [hm, List.range'_succ] at hr
    obtain ⟨hi, hr2⟩ := List.cons.inj hr
    clear hr
    subst hi
    have hmem := getD_mem hlt (0, 0)
    have harr := hF.arr _ hmem
    have hposs := hok _ ((s2 _).mpr hmem)
    generalize hq : F.arrows.getD S.length (0, 0) = q at *
    have e1 : atD (R.map nD) (q.1 : Int) = some (nD (R.getD q.1 0)) := atD_nD (by omega)
    have e2 : atD (R.map nD) (q.2 : Int) = some (nD (R.getD q.2 0)) := atD_nD (by omega)
    have hbig : R.getD q.1 0 ≤ 1000 := by
      have := hle _ (getD_mem (show q.1 < R.length by omega) 0)
      omega
    obtain ⟨T, t1, t2, t3⟩ := lcGo_ex (t := tName 12) (f := c_law_book_2) (e := [some (.bor (ns.map PyData.int)), some (.d (.int first)), some (.d (formD F)), some (.d (.int most)), some (.own (R.map nD)), none, none, some (.own (S.map tD)), some (.d (nD S.length)), some (.d (arrD q)), some (.d (.int cb)), none, none]) nD (fun _ n => n < R.getD q.2 0) (List.range (R.getD q.1 0)) (by
      intro k hk
      have hk2 := List.mem_range.mp hk
      obtain ⟨n, hn, hl⟩ := drawN_ex cb (61 * S.length + k) (b := (R.getD q.2 0 : Int)) (by have := hposs (by omega); omega)
      refine ⟨_, n, rfl, ?_, by omega⟩
      have hd := draw_eq cb (61 * S.length + k) (R.getD q.2 0 : Int) (by have := hposs (by omega); omega)
      rw [hn] at hd
      simp [c_law_book_2, e2, hd, -List.getD_eq_getElem?_getD])
    rw [List.length_range] at t2
    refine ⟨_, ?_, S ++ [T], rfl, ?_, by simp; omega, ?_, ?_⟩
    · have hr1 : -1000000 ≤ (R.getD q.1 0 : Int) ∧ (R.getD q.1 0 : Int) ≤ 1000000 := by omega
      have hr2 : R.getD q.1 0 ≤ lim := by rw [lim]; omega
      have hr3 : S.length < lim := by rw [lim]; have := hF.many; omega
      simp [l_law_book_2, c1, e1, hr1, hr2, hr3, upTo_nat, t1, -List.getD_eq_getElem?_getD]
      rfl
    · rw [hr2, List.length_append, List.length_singleton, show F.arrows.length - (S.length + 1) = m by omega]
    · intro j hj
      rw [List.length_append, List.length_singleton] at hj
      rcases Nat.lt_or_ge j S.length with h | h
      · rw [show (S ++ [T]).getD j [] = S.getD j [] by simp [List.getD_eq_getElem?_getD, List.getElem?_append_left h]]
        exact hn j h
      · obtain rfl : j = S.length := by omega
        rw [show (S ++ [T]).getD S.length [] = T by simp [List.getD_eq_getElem?_getD], hq]
        exact t2
    · intro j hj
      rw [List.length_append, List.length_singleton] at hj
      rcases Nat.lt_or_ge j S.length with h | h
      · rw [show (S ++ [T]).getD j [] = S.getD j [] by simp [List.getD_eq_getElem?_getD, List.getElem?_append_left h]]
        exact hx j h
      · obtain rfl : j = S.length := by omega
        rw [show (S ++ [T]).getD S.length [] = T by simp [List.getD_eq_getElem?_getD], hq]
        intro x hx
        obtain ⟨_, _, h⟩ := t3 x hx
        exact h) (List.range F.arrows.length) [some (.bor (ns.map PyData.int)), some (.d (.int first)), some (.d (formD F)), some (.d (.int most)), some (.own (R.map nD)), none, none, some (.own []), none, none, none, none, none] ⟨[], rfl, by rw [List.range_eq_range']; rfl, by simp, by simp, by simp⟩
  obtain ⟨e, l4, S, he, hr, hl, hn, hx⟩ := l3
  subst he
  have hSl : S.length = F.arrows.length := by
    rcases Nat.lt_or_ge S.length F.arrows.length with h | h
    · exfalso
      obtain ⟨m, hm⟩ : ∃ m, F.arrows.length - S.length = m + 1 := ⟨F.arrows.length - S.length - 1, by omega⟩
      rw [hm, List.range'_succ] at hr
      cases hr
    · omega
  refine ⟨R, S, ?_, ⟨hlen, hSl, by rw [← hSl]; exact hn, by rw [← hSl]; exact hx⟩, fun r hr => by have := hle r hr; omega⟩
  rw [← enumD_map arrD F.arrows (0, 0)] at l4
  have hk1 : -1000000 ≤ (F.kinds : Int) ∧ (F.kinds : Int) ≤ 1000000 := by have := hF.most; omega
  have hk2 : F.kinds ≤ lim := by rw [lim]; have := hF.most; omega
  simp [F_law_book, b_law_book, hk1, hk2, upTo_nat, r1, s1, l2, l4, prD, ttD, tD]
end FS
set_option Elab.async false
set_option linter.all false
set_option maxRecDepth 100000
set_option autoImplicit false
namespace FS
open PySem

@[simp] theorem fLen_prD {p : List Nat} {ps : List (List Nat)} : fLen (.d (prD p ps)) = some (.d (.int 2)) := rfl
theorem fTuple_nD {p : List Nat} : fTuple (.new (p.map nD)) = some (.d (tD p)) := rfl
theorem fTuple_tD {p : List (List Nat)} : fTuple (.new (p.map tD)) = some (.d (ttD p)) := rfl
theorem fTuple_ctD {p : List (List Nat)} : fTuple (.cur (p.map tD)) = some (.d (ttD p)) := rfl
theorem prD_fold {a : List Nat} {b : List (List Nat)} : PyData.tuple [tD a, ttD b] = prD a b := rfl

/-! ### the law's comparisons -/
theorem numbers_tD {p : List Nat} (h : p.length ≤ lim) : F_law_numbers [.d (tD p)] = some (.d (.bool true)) := by
  have h1 : lcGo (tName 1) bYes c_law_numbers_1 [some (.d (tD p)), none] (p.map nD) = some (p.map fun _ => .bool true) :=
    lcGo_map nD (fun _ => .bool true) p fun x _ => ⟨_, _, rfl, by simp [c_law_numbers_1]; rfl, rfl⟩
  have h2 := fAll_true (xs := p)
  simp [F_law_numbers, b_law_numbers, h, h1, h2]
theorem pair_self {R : List Nat} {S : List (List Nat)} (h1 : R.length ≤ lim) (h2 : S.length ≤ lim) (h3 : ∀ s ∈ S, s.length ≤ lim) : F_law_pair [.d (prD R S), .d (prD R S)] = some (.d (.bool true)) := by
  have e1 := numbers_tD h1
  have e2 : lcGo (tName 2) bYes c_law_pair_1 [some (.d (prD R S)), some (.d (prD R S)), none] (S.map tD) = some (S.map fun _ => .bool true) :=
    lcGo_map tD (fun _ => .bool true) S fun x hx => ⟨_, .d (.bool true), rfl, by simp [c_law_pair_1, numbers_tD (h3 x hx)], rfl⟩
  have e3 := fAll_true (xs := S)
  have e4 : cmpEq (.d (prD R S)) (.d (prD R S)) = some (.d (.bool true)) := cmpEq_self rfl rfl nest_prD
  simp [F_law_pair, b_law_pair, e1, e2, e3, e4, h2]
theorem chart_self {S : List (List Nat)} (h2 : S.length ≤ lim) (h3 : ∀ s ∈ S, s.length ≤ lim) : F_law_chart [.d (ttD S), .d (ttD S)] = some (.d (.bool true)) := by
  have e2 : lcGo (tName 2) bYes c_law_chart_1 [some (.d (ttD S)), some (.d (ttD S)), none] (S.map tD) = some (S.map fun _ => .bool true) :=
    lcGo_map tD (fun _ => .bool true) S fun x hx => ⟨_, .d (.bool true), rfl, by simp [c_law_chart_1, numbers_tD (h3 x hx)], rfl⟩
  have e3 := fAll_true (xs := S)
  have e4 : cmpEq (.d (ttD S)) (.d (ttD S)) = some (.d (.bool true)) := cmpEq_self rfl rfl nest_ttD
  simp [F_law_chart, b_law_chart, e2, e3, e4, h2]

/-! ### shifts -/
structure ShiftOk (A B : Form) (pl : List Nat) (ws : List (List Nat)) : Prop where
  places : pl.length = A.kinds
  lt : ∀ p ∈ pl, p < B.kinds
  ways : ws.length = A.arrows.length
  path : ∀ i < A.arrows.length, IsPath B.arrows (pl.getD (A.arrows.getD i (0, 0)).1 0) (ws.getD i []) ∧ endN B.arrows (pl.getD (A.arrows.getD i (0, 0)).1 0) (ws.getD i []) = pl.getD (A.arrows.getD i (0, 0)).2 0
theorem ShiftOk.at {A B : Form} {pl : List Nat} {ws : List (List Nat)} (h : ShiftOk A B pl ws) {k : Nat} (hk : k < A.kinds) : pl.getD k 0 < B.kinds := h.lt _ (getD_mem (by rw [h.places]; exact hk) 0)
theorem isPath_append {A : List (Nat × Nat)} : ∀ {p q : List Nat} {k : Nat}, IsPath A k p → IsPath A (endN A k p) q → IsPath A k (p ++ q)
  | [], q, k, _, h => h
  | i :: p, q, k, h1, h2 => ⟨h1.1, h1.2.1, isPath_append (p := p) (k := (A.getD i (0, 0)).2) h1.2.2 h2⟩
theorem endN_append {A : List (Nat × Nat)} {p q : List Nat} {k : Nat} : endN A k (p ++ q) = endN A (endN A k p) q := by
  unfold endN
  rw [List.foldl_append]
theorem wentN_append {S : List (List Nat)} {p q : List Nat} {r : Nat} : wentN S (p ++ q) r = wentN S q (wentN S p r) := by
  unfold wentN
  rw [List.foldl_append]
/-- a way of the one form, in the other one -/
def wayN (ws : List (List Nat)) (p : List Nat) : List Nat := p.flatMap fun i => ws.getD i []
theorem way_ok {A B : Form} {a b : Nat} {pl : List Nat} {ws : List (List Nat)} (hA : A.Ok a b) (h : ShiftOk A B pl ws) : ∀ {p : List Nat} {k : Nat}, IsPath A.arrows k p →
    IsPath B.arrows (pl.getD k 0) (wayN ws p) ∧ endN B.arrows (pl.getD k 0) (wayN ws p) = pl.getD (endN A.arrows k p) 0
  | [], k, _ => ⟨trivial, rfl⟩
  | i :: p, k, hp => by
    have h1 := h.path i hp.1
    rw [hp.2.1] at h1
    have h2 := way_ok (k := (A.arrows.getD i (0, 0)).2) hA h hp.2.2
    rw [← h1.2] at h2
    have e : wayN ws (i :: p) = ws.getD i [] ++ wayN ws p := List.flatMap_cons
    rw [e]
    refine ⟨isPath_append h1.1 h2.1, ?_⟩
    rw [endN_append, h2.2]
    rfl
def joinP (p1 p2 : List Nat) : List Nat := p1.map fun k => p2.getD k 0
def joinW (w1 w2 : List (List Nat)) : List (List Nat) := w1.map (wayN w2)
theorem getD_joinP {p1 p2 : List Nat} {k : Nat} (h : k < p1.length) : (joinP p1 p2).getD k 0 = p2.getD (p1.getD k 0) 0 := by
  simp [joinP, List.getD_eq_getElem?_getD, h]
theorem getD_joinW {w1 w2 : List (List Nat)} {k : Nat} (h : k < w1.length) : (joinW w1 w2).getD k [] = wayN w2 (w1.getD k []) := by
  simp [joinW, List.getD_eq_getElem?_getD, h]
theorem shift_comp {A B C : Form} {a b c d : Nat} {p1 p2 : List Nat} {w1 w2 : List (List Nat)} (hA : A.Ok a b) (hB : B.Ok c d) (h1 : ShiftOk A B p1 w1) (h2 : ShiftOk B C p2 w2) : ShiftOk A C (joinP p1 p2) (joinW w1 w2) := by
  refine ⟨by rw [joinP, List.length_map, h1.places], ?_, by rw [joinW, List.length_map, h1.ways], fun i hi => ?_⟩
  · intro p hp
    obtain ⟨k, hk, rfl⟩ := List.mem_map.mp hp
    exact h2.at (h1.lt k hk)
  · have g := hA.arr _ (getD_mem hi (0, 0))
    rw [getD_joinP (by rw [h1.places]; omega), getD_joinP (by rw [h1.places]; omega), getD_joinW (by rw [h1.ways]; exact hi)]
    have g1 := h1.path i hi
    have g2 := way_ok hB h2 g1.1
    rw [g1.2] at g2
    exact g2
/-- a form's own shift -/
def ownP (F : Form) : List Nat := List.range F.kinds
def ownW (F : Form) : List (List Nat) := (List.range F.arrows.length).map fun k => [k]
theorem getD_range {n k : Nat} (h : k < n) : (List.range n).getD k 0 = k := by simp [List.getD_eq_getElem?_getD, h]
theorem own_ok {F : Form} {a b : Nat} (hF : F.Ok a b) : ShiftOk F F (ownP F) (ownW F) := by
  refine ⟨by simp [ownP], by intro p hp; exact List.mem_range.mp hp, by simp [ownW], fun i hi => ?_⟩
  have g := hF.arr _ (getD_mem hi (0, 0))
  have e : (ownW F).getD i [] = [i] := by simp [ownW, List.getD_eq_getElem?_getD, hi]
  rw [e, ownP, getD_range (by omega), getD_range (by omega)]
  exact ⟨⟨hi, rfl, trivial⟩, rfl⟩
theorem way_own {F : Form} : ∀ {p : List Nat}, (∀ i ∈ p, i < F.arrows.length) → wayN (ownW F) p = p
  | [], _ => rfl
  | i :: p, h => by
    have e : (ownW F).getD i [] = [i] := by simp [ownW, List.getD_eq_getElem?_getD, h i List.mem_cons_self]
    have : wayN (ownW F) (i :: p) = (ownW F).getD i [] ++ wayN (ownW F) p := List.flatMap_cons
    rw [this, e, way_own fun j hj => h j (List.mem_cons_of_mem _ hj)]
    rfl
theorem ext_getD {α : Type} {xs ys : List α} (d : α) (hl : xs.length = ys.length) (h : ∀ i < xs.length, xs.getD i d = ys.getD i d) : xs = ys := by
  refine List.ext_getElem hl fun i h1 h2 => ?_
  have := h i h1
  simp [List.getD_eq_getElem?_getD, h1, h2] at this
  exact this
theorem join_own_l {A B : Form} {a b : Nat} {pl : List Nat} {ws : List (List Nat)} (h : ShiftOk A B pl ws) : joinP (ownP A) pl = pl ∧ joinW (ownW A) ws = ws := by
  constructor
  · refine ext_getD 0 (by simp [joinP, ownP, h.places]) fun i hi => ?_
    have hi' : i < A.kinds := by simpa [joinP, ownP] using hi
    rw [getD_joinP (by simpa [ownP] using hi'), ownP, getD_range hi']
  · refine ext_getD [] (by simp [joinW, ownW, h.ways]) fun i hi => ?_
    have hi' : i < A.arrows.length := by simpa [joinW, ownW] using hi
    rw [getD_joinW (by simpa [ownW] using hi')]
    have e : (ownW A).getD i [] = [i] := by simp [ownW, List.getD_eq_getElem?_getD, hi']
    rw [e]
    simp [wayN]
theorem join_own_r {A B : Form} {pl : List Nat} {ws : List (List Nat)} (h : ShiftOk A B pl ws) : joinP pl (ownP B) = pl ∧ joinW ws (ownW B) = ws := by
  constructor
  · refine ext_getD 0 (by simp [joinP]) fun i hi => ?_
    have hi' : i < pl.length := by simpa [joinP] using hi
    rw [getD_joinP hi', ownP, getD_range (h.at (by rw [← h.places]; exact hi'))]
  · refine ext_getD [] (by simp [joinW]) fun i hi => ?_
    have hi' : i < ws.length := by simpa [joinW] using hi
    rw [getD_joinW hi']
    exact way_own (isPath_lt (h.path i (by rw [← h.ways]; exact hi')).1)

/-! ### taken back -/
def backR (pl R : List Nat) : List Nat := joinP pl R
def backS (A : Form) (pl : List Nat) (ws : List (List Nat)) (R : List Nat) (S : List (List Nat)) : List (List Nat) :=
  (List.range A.arrows.length).map fun i => (List.range (R.getD (pl.getD (A.arrows.getD i (0, 0)).1 0) 0)).map (wentN S (ws.getD i []))
theorem getD_backS {A : Form} {pl R : List Nat} {ws S : List (List Nat)} {i : Nat} (h : i < A.arrows.length) :
    (backS A pl ws R S).getD i [] = (List.range (R.getD (pl.getD (A.arrows.getD i (0, 0)).1 0) 0)).map (wentN S (ws.getD i [])) := by
  simp [backS, List.getD_eq_getElem?_getD, h]
theorem back_ok {A B : Form} {a b : Nat} {pl R : List Nat} {ws S : List (List Nat)} (hA : A.Ok a b) (h : ShiftOk A B pl ws) (hB : BookOk B R S) : BookOk A (backR pl R) (backS A pl ws R S) := by
  refine ⟨by rw [backR, joinP, List.length_map, h.places], by simp [backS], fun i hi => ?_, fun i hi x hx => ?_⟩
  · have g := hA.arr _ (getD_mem hi (0, 0))
    rw [getD_backS hi, backR, getD_joinP (by rw [h.places]; omega), List.length_map, List.length_range]
  · have g := hA.arr _ (getD_mem hi (0, 0))
    rw [getD_backS hi] at hx
    obtain ⟨r, hr, rfl⟩ := List.mem_map.mp hx
    have g1 := h.path i hi
    have := went_lt hB g1.1 (List.mem_range.mp hr)
    rw [g1.2] at this
    rw [backR, getD_joinP (by rw [h.places]; omega)]
    exact this
/-- to go in what is taken back is to go the way along -/
theorem went_back {A B : Form} {a b : Nat} {pl R : List Nat} {ws S : List (List Nat)} (hA : A.Ok a b) (h : ShiftOk A B pl ws) (hB : BookOk B R S) : ∀ {p : List Nat} {k r : Nat}, IsPath A.arrows k p → r < R.getD (pl.getD k 0) 0 →
    wentN (backS A pl ws R S) p r = wentN S (wayN ws p) r
  | [], k, r, _, _ => rfl
  | i :: p, k, r, hp, hr => by
    have g1 := h.path i hp.1
    have e : wayN ws (i :: p) = ws.getD i [] ++ wayN ws p := List.flatMap_cons
    rw [e, wentN_append]
    rw [hp.2.1] at g1
    have g2 := went_lt hB g1.1 hr
    rw [g1.2] at g2
    have e2 : wentN (backS A pl ws R S) (i :: p) r = wentN (backS A pl ws R S) p (((backS A pl ws R S).getD i []).getD r 0) := rfl
    rw [e2, getD_backS hp.1, hp.2.1]
    have e3 : ((List.range (R.getD (pl.getD k 0) 0)).map (wentN S (ws.getD i []))).getD r 0 = wentN S (ws.getD i []) r := by
      simp [List.getD_eq_getElem?_getD] at hr ⊢
      simp [hr]
    rw [e3]
    exact went_back hA h hB hp.2.2 g2
theorem back_comp {A B C : Form} {a b c d : Nat} {p1 p2 R : List Nat} {w1 w2 S : List (List Nat)} (hA : A.Ok a b) (hB : B.Ok c d) (h1 : ShiftOk A B p1 w1) (h2 : ShiftOk B C p2 w2) (hC : BookOk C R S) :
    backR (joinP p1 p2) R = backR p1 (backR p2 R) ∧ backS A (joinP p1 p2) (joinW w1 w2) R S = backS A p1 w1 (backR p2 R) (backS B p2 w2 R S) := by
  constructor
  · refine ext_getD 0 (by simp [backR, joinP]) fun i hi => ?_
    have hi' : i < p1.length := by simpa [backR, joinP] using hi
    have hq := h1.at (show i < A.kinds by rw [← h1.places]; exact hi')
    rw [backR, backR, backR, getD_joinP (by simpa [joinP] using hi'), getD_joinP hi', getD_joinP hi', getD_joinP (by rw [h2.places]; exact hq)]
  · unfold backS
    refine List.map_congr_left fun i hi => ?_
    have hi := List.mem_range.mp hi
    have g := hA.arr _ (getD_mem hi (0, 0))
    have hq := h1.at (show (A.arrows.getD i (0, 0)).1 < A.kinds by omega)
    have hP := h1.path i hi
    rw [getD_joinP (by rw [h1.places]; omega), getD_joinW (by rw [h1.ways]; exact hi), backR, getD_joinP (by rw [h2.places]; exact hq)]
    refine List.map_congr_left fun r hr => ?_
    exact (went_back hB h2 hC hP.1 (List.mem_range.mp hr)).symm
theorem back_own {F : Form} {a b : Nat} {R : List Nat} {S : List (List Nat)} (hF : F.Ok a b) (hB : BookOk F R S) : backR (ownP F) R = R ∧ backS F (ownP F) (ownW F) R S = S := by
  constructor
  · refine ext_getD 0 (by simp [backR, joinP, ownP, hB.rows]) fun i hi => ?_
    have hi' : i < F.kinds := by simpa [backR, joinP, ownP] using hi
    rw [backR, getD_joinP (by simpa [ownP] using hi'), ownP, getD_range hi']
  · refine ext_getD [] (by simp [backS, hB.steps]) fun i hi => ?_
    have hi' : i < F.arrows.length := by simpa [backS] using hi
    have g := hF.arr _ (getD_mem hi' (0, 0))
    have e : (ownW F).getD i [] = [i] := by simp [ownW, List.getD_eq_getElem?_getD, hi']
    rw [getD_backS hi', e, ownP, getD_range (by omega)]
    have hl := hB.len i hi'
    refine ext_getD 0 (by rw [List.length_map, List.length_range, hl]) fun r hr => ?_
    have hr' : r < R.getD (F.arrows.getD i (0, 0)).1 0 := by simpa using hr
    have e1 : ∀ n, r < n → ((List.range n).map (wentN S [i])).getD r 0 = wentN S [i] r := by
      intro n hn
      simp [List.getD_eq_getElem?_getD, hn]
    rw [e1 _ hr']
    rfl
end FS
set_option Elab.async false
set_option linter.all false
set_option maxRecDepth 100000
set_option autoImplicit false
namespace FS
open PySem

theorem zipD_range {α β : Type} {f : α → D} {g : β → D} (d : α) (e : β) {xs : List α} {ys : List β} (h : ys.length = xs.length) : zipD (xs.map f) (ys.map g) = (List.range xs.length).map fun i => .tuple [f (xs.getD i d), g (ys.getD i e)] := by
  rw [zipD_map]
  refine List.ext_getElem (by simp [h]) fun i h1 h2 => ?_
  have hi : i < xs.length := by simpa using h2
  simp [List.getD_eq_getElem?_getD, hi, h]
theorem lcGo_nat {α : Type} {t : TF} {f : EF} {e : Env} (dat : α → D) (g : α → Nat) (xs : List α) (h : ∀ x ∈ xs, ∃ e1, t (dat x) e = some e1 ∧ f e1 = some (.d (nD (g x)))) : lcGo t bYes f e (xs.map dat) = some ((xs.map g).map nD) := by
  rw [List.map_map]
  exact lcGo_map dat (nD ∘ g) xs fun x hx => by
    obtain ⟨e1, h1, h2⟩ := h x hx
    exact ⟨e1, _, h1, h2, rfl⟩
theorem lcGo_tup {α : Type} {t : TF} {f : EF} {e : Env} (dat : α → D) (g : α → List Nat) (xs : List α) (h : ∀ x ∈ xs, ∃ e1, t (dat x) e = some e1 ∧ f e1 = some (.d (tD (g x)))) : lcGo t bYes f e (xs.map dat) = some ((xs.map g).map tD) := by
  rw [List.map_map]
  exact lcGo_map dat (tD ∘ g) xs fun x hx => by
    obtain ⟨e1, h1, h2⟩ := h x hx
    exact ⟨e1, _, h1, h2, rfl⟩
theorem flatMap_one {α β : Type} {f : α → β} {xs : List α} : (xs.flatMap fun x => [f x]) = xs.map f := by
  induction xs with
  | nil => rfl
  | cons x xs ih => rw [List.flatMap_cons, ih]; rfl

/-! ### taken_back -/
section
variable {A B : Form} {a b c d : Nat} {pl R : List Nat} {ws S : List (List Nat)}
theorem back_rows (h : ShiftOk A B pl ws) (hB : BookOk B R S) : lcGo (tName 7) bYes c_p_taken_back_1 [some (.d (formD A)), some (.d (prD pl ws)), some (.d (prD R S)), none, none, none, none, none, none] (pl.map nD) = some ((backR pl R).map nD) :=
  lcGo_nat nD (fun k => R.getD k 0) pl fun k hk => by
    have e : atD (R.map nD) (k : Int) = some (nD (R.getD k 0)) := atD_nD (by rw [hB.rows]; exact h.lt k hk)
    exact ⟨_, rfl, by simp [c_p_taken_back_1, e, -List.getD_eq_getElem?_getD]⟩
theorem back_eq (hA : A.Ok a b) (ha : a ≤ 1000) (hb : b ≤ 1000) (h : ShiftOk A B pl ws) (hB : BookOk B R S) (hR : ∀ r ∈ R, r ≤ 1000) :
    F_p_taken_back [.d (formD A), .d (prD pl ws), .d (prD R S)] = some (.d (prD (backR pl R) (backS A pl ws R S))) := by
  have e1 := back_rows h hB
  have hl : loopF [5, 6] (tTup [tName 5, tName 6]) l_p_taken_back_1 (zipD (A.arrows.map arrD) (ws.map tD)) [some (.d (formD A)), some (.d (prD pl ws)), some (.d (prD R S)), some (.d (tD (backR pl R))), some (.own []), none, none, none, none]
      = some (.nx [some (.d (formD A)), some (.d (prD pl ws)), some (.d (prD R S)), some (.d (tD (backR pl R))), some (.own ((backS A pl ws R S).map tD)), none, none, none, none]) := by
    rw [zipD_range (0, 0) [] h.ways]
    have e2 : (backS A pl ws R S).map tD = (List.range A.arrows.length).flatMap fun i => [tD ((List.range (R.getD (pl.getD (A.arrows.getD i (0, 0)).1 0) 0)).map (wentN S (ws.getD i [])))] := by
      rw [flatMap_one, backS, List.map_map]
      rfl
    rw [e2]
    have := loopF_flat (w := [5, 6]) (t := tTup [tName 5, tName 6]) (b := l_p_taken_back_1) (fun i => PyData.tuple [arrD (A.arrows.getD i (0, 0)), tD (ws.getD i [])])
      (fun acc => [some (.d (formD A)), some (.d (prD pl ws)), some (.d (prD R S)), some (.d (tD (backR pl R))), some (.own acc), none, none, none, none])
      (fun i => [tD ((List.range (R.getD (pl.getD (A.arrows.getD i (0, 0)).1 0) 0)).map (wentN S (ws.getD i [])))]) (List.range A.arrows.length) (by
        intro i hi acc hs
        have hi := List.mem_range.mp hi
        have g := hA.arr _ (getD_mem hi (0, 0))
        have hp := h.path i hi
        have hq := h.at (show (A.arrows.getD i (0, 0)).1 < A.kinds by omega)
        generalize A.arrows.getD i (0, 0) = q at g hp hq
        generalize ws.getD i [] = w at hp
        have e3 : atD ((backR pl R).map nD) (q.1 : Int) = some (nD (R.getD (pl.getD q.1 0) 0)) := by
          rw [atD_nD (by rw [backR, joinP, List.length_map, h.places]; omega), backR, getD_joinP (by rw [h.places]; omega)]
        have hm : R.getD (pl.getD q.1 0) 0 ≤ 1000 := hR _ (getD_mem (by rw [hB.rows]; exact hq) 0)
        generalize hM : R.getD (pl.getD q.1 0) 0 = M at *
        have e4 : lcGo (tName 8) bYes c_p_taken_back_2 [some (.d (formD A)), some (.d (prD pl ws)), some (.d (prD R S)), some (.d (tD (backR pl R))), some (.own acc), some (.d (arrD q)), some (.d (tD w)), none, none] ((List.range M).map nD) = some (((List.range M).map (wentN S w)).map nD) :=
          lcGo_nat nD (wentN S w) (List.range M) fun r hr => by
            have hr := List.mem_range.mp hr
            have e5 := went_eq hB hp.1 (r := r) (by omega)
            exact ⟨_, rfl, by simp [c_p_taken_back_2, e5]⟩
        have hr1 : -1000000 ≤ (M : Int) ∧ (M : Int) ≤ 1000000 := by omega
        have hr2 : M ≤ lim := by rw [lim]; omega
        have hs' : acc.length < lim := hs
        have e6 := fTuple_nD (p := (List.range M).map (wentN S w))
        generalize (List.range M).map (wentN S w) = T at *
        simp [l_p_taken_back_1, e3, hr1, hr2, upTo_nat, e4, e6, hs', -fTuple_new]) [] (by rw [← e2, List.length_map, backS, List.length_map, List.length_range, List.length_nil]; have := hA.many; rw [lim]; omega)
    simpa using this
  have hp : pl.length ≤ lim := by rw [h.places, lim]; have := hA.most; omega
  have e7 := fTuple_nD (p := backR pl R)
  have e8 := fTuple_ctD (p := backS A pl ws R S)
  generalize backS A pl ws R S = T1 at *
  generalize backR pl R = T2 at *
  simp [F_p_taken_back, b_p_taken_back, e1, e7, e8, hl, hp, prD_fold, -fTuple_new, -fTuple_cur]
theorem lback_rows (h : ShiftOk A B pl ws) (hB : BookOk B R S) : lcGo (tName 7) bYes c_law_back_1 [some (.d (formD A)), some (.d (prD pl ws)), some (.d (prD R S)), none, none, none, none, none, none] (pl.map nD) = some ((backR pl R).map nD) := back_rows h hB
theorem lback_eq (hA : A.Ok a b) (ha : a ≤ 1000) (hb : b ≤ 1000) (h : ShiftOk A B pl ws) (hB : BookOk B R S) (hR : ∀ r ∈ R, r ≤ 1000) :
    F_law_back [.d (formD A), .d (prD pl ws), .d (prD R S)] = some (.d (prD (backR pl R) (backS A pl ws R S))) := back_eq hA ha hb h hB hR

/-! ### map_back -/
theorem map_back_eq {C : List (List Nat)} (h : ∀ p ∈ pl, p < C.length) (hl : pl.length ≤ lim) : F_p_map_back [.d (prD pl ws), .d (ttD C)] = some (.d (ttD (pl.map fun k => C.getD k []))) := by
  have e1 : lcGo (tName 2) bYes c_p_map_back_1 [some (.d (prD pl ws)), some (.d (ttD C)), none] (pl.map nD) = some ((pl.map fun k => C.getD k []).map tD) :=
    lcGo_tup nD (fun k => C.getD k []) pl fun k hk => by
      have e : atD (C.map tD) (k : Int) = some (tD (C.getD k [])) := atD_map (h k hk) []
      exact ⟨_, rfl, by simp [c_p_map_back_1, e, -List.getD_eq_getElem?_getD]⟩
  have e2 := fTuple_tD (p := pl.map fun k => C.getD k [])
  generalize (pl.map fun k => C.getD k []) = T at *
  simp [F_p_map_back, b_p_map_back, e1, e2, hl, -fTuple_new]

/-! ### joined, own_shift -/
theorem way_le {n : Nat} (h : ∀ w ∈ ws, w.length ≤ n) : ∀ {p : List Nat}, (∀ i ∈ p, i < ws.length) → (wayN ws p).length ≤ p.length * n := fun {p} hp =>
  flatMap_le fun i hi => h _ (getD_mem (hp i hi) [])
theorem way_loop {c1 : AV} (h : ∀ w ∈ ws, w.length ≤ 1000) : ∀ {p : List Nat} {acc : List Nat}, (∀ i ∈ p, i < ws.length) → acc.length + p.length * 1000 ≤ lim →
    loopF [3] (tName 3) l_p_way_along_1 (p.map nD) [some (.d (prD pl ws)), some c1, some (.d (tD acc)), none] = some (.nx [some (.d (prD pl ws)), some c1, some (.d (tD (acc ++ wayN ws p))), none])
  | [], acc, _, _ => by simp [loopF, wayN]
  | i :: p, acc, hp, hl => by
    have hi := hp i List.mem_cons_self
    have e1 : atD (ws.map tD) (i : Int) = some (tD (ws.getD i [])) := atD_map hi []
    have hw := h _ (getD_mem hi [])
    rw [List.length_cons, Nat.succ_mul] at hl
    have e2 : wayN ws (i :: p) = ws.getD i [] ++ wayN ws p := List.flatMap_cons
    rw [e2, ← List.append_assoc, List.map_cons]
    generalize ws.getD i [] = w at *
    have hz : acc.length + w.length ≤ lim := by omega
    rw [loopF_nx (e2 := [some (.d (prD pl ws)), some c1, some (.d (tD (acc ++ w))), none])]
    · exact way_loop h (fun j hj => hp j (List.mem_cons_of_mem _ hj)) (by rw [List.length_append]; omega)
    · simp [l_p_way_along_1, e1, hz, -List.getD_eq_getElem?_getD]
theorem way_eq (h : ∀ w ∈ ws, w.length ≤ 1000) {p : List Nat} (hp : ∀ i ∈ p, i < ws.length) (hl : p.length ≤ 1000) : F_p_way_along [.d (prD pl ws), .d (tD p)] = some (.d (tD (wayN ws p))) := by
  have := way_loop (pl := pl) (c1 := .d (tD p)) (acc := []) h hp (by rw [lim]; simp; omega)
  rw [List.nil_append] at this
  have e : tD [] = .tuple [] := rfl
  rw [e] at this
  simp [F_p_way_along, b_p_way_along, this]
theorem joined_eq {p1 p2 : List Nat} {w1 w2 : List (List Nat)} (h1 : ∀ k ∈ p1, k < p2.length) (h2 : ∀ w ∈ w1, ∀ i ∈ w, i < w2.length) (h3 : ∀ w ∈ w1, w.length ≤ 1000) (h4 : ∀ w ∈ w2, w.length ≤ 1000) (h5 : p1.length ≤ lim) (h6 : w1.length ≤ lim) :
    F_p_joined [.d (prD p1 w1), .d (prD p2 w2)] = some (.d (prD (joinP p1 p2) (joinW w1 w2))) := by
  have e1 : lcGo (tName 3) bYes c_p_joined_1 [some (.d (prD p1 w1)), some (.d (prD p2 w2)), none, none, none] (p1.map nD) = some ((joinP p1 p2).map nD) :=
    lcGo_nat nD (fun k => p2.getD k 0) p1 fun k hk => by
      have e : atD (p2.map nD) (k : Int) = some (nD (p2.getD k 0)) := atD_nD (h1 k hk)
      exact ⟨_, rfl, by simp [c_p_joined_1, e, -List.getD_eq_getElem?_getD]⟩
  have e2 : lcGo (tName 4) bYes c_p_joined_2 [some (.d (prD p1 w1)), some (.d (prD p2 w2)), some (.d (tD (joinP p1 p2))), none, none] (w1.map tD) = some ((joinW w1 w2).map tD) :=
    lcGo_tup tD (wayN w2) w1 fun w hw => by
      have e := way_eq (pl := p2) h4 (h2 w hw) (h3 w hw)
      exact ⟨_, rfl, by simp [c_p_joined_2, e]⟩
  have e3 := fTuple_nD (p := joinP p1 p2)
  have e4 := fTuple_tD (p := joinW w1 w2)
  generalize joinP p1 p2 = T1 at *
  generalize joinW w1 w2 = T2 at *
  simp [F_p_joined, b_p_joined, e1, e2, e3, e4, h5, h6, prD_fold, -fTuple_new]
theorem lway_loop {c1 c2 c3 c4 c6 : Option AV} (h : ∀ w ∈ ws, w.length ≤ 1000) : ∀ {p : List Nat} {acc : List Nat}, (∀ i ∈ p, i < ws.length) → acc.length + p.length * 1000 ≤ lim →
    loopF [5] (tName 5) l_law_joined_1 (p.map nD) [c1, some (.d (prD pl ws)), c3, c4, some (.d (tD acc)), none, c6] = some (.nx [c1, some (.d (prD pl ws)), c3, c4, some (.d (tD (acc ++ wayN ws p))), none, c6])
  | [], acc, _, _ => by simp [loopF, wayN]
  | i :: p, acc, hp, hl => by
    have hi := hp i List.mem_cons_self
    have e1 : atD (ws.map tD) (i : Int) = some (tD (ws.getD i [])) := atD_map hi []
    have hw := h _ (getD_mem hi [])
    rw [List.length_cons, Nat.succ_mul] at hl
    have e2 : wayN ws (i :: p) = ws.getD i [] ++ wayN ws p := List.flatMap_cons
    rw [e2, ← List.append_assoc, List.map_cons]
    generalize ws.getD i [] = w at *
    have hz : acc.length + w.length ≤ lim := by omega
    rw [loopF_nx (e2 := [c1, some (.d (prD pl ws)), c3, c4, some (.d (tD (acc ++ w))), none, c6])]
    · exact lway_loop (c2 := c2) h (fun j hj => hp j (List.mem_cons_of_mem _ hj)) (by rw [List.length_append]; omega)
    · simp [l_law_joined_1, e1, hz, -List.getD_eq_getElem?_getD]
theorem ljoined_eq {p1 p2 : List Nat} {w1 w2 : List (List Nat)} (h1 : ∀ k ∈ p1, k < p2.length) (h2 : ∀ w ∈ w1, ∀ i ∈ w, i < w2.length) (h3 : ∀ w ∈ w1, w.length ≤ 1000) (h4 : ∀ w ∈ w2, w.length ≤ 1000) (h5 : p1.length ≤ lim) (h6 : w1.length ≤ lim) :
    F_law_joined [.d (prD p1 w1), .d (prD p2 w2)] = some (.d (prD (joinP p1 p2) (joinW w1 w2))) := by
  have e1 : ∀ c, lcGo (tName 6) bYes c_law_joined_1 [some (.d (prD p1 w1)), some (.d (prD p2 w2)), some c, none, none, none, none] (p1.map nD) = some ((joinP p1 p2).map nD) := fun c =>
    lcGo_nat nD (fun k => p2.getD k 0) p1 fun k hk => by
      have e : atD (p2.map nD) (k : Int) = some (nD (p2.getD k 0)) := atD_nD (h1 k hk)
      exact ⟨_, rfl, by simp [c_law_joined_1, e, -List.getD_eq_getElem?_getD]⟩
  have e2 : loopF [3, 4, 5] (tName 3) l_law_joined_2 (w1.map tD) [some (.d (prD p1 w1)), some (.d (prD p2 w2)), some (.own []), none, none, none, none] = some (.nx [some (.d (prD p1 w1)), some (.d (prD p2 w2)), some (.own ((joinW w1 w2).map tD)), none, none, none, none]) := by
    have e5 : (joinW w1 w2).map tD = w1.flatMap fun w => [tD (wayN w2 w)] := by
      rw [flatMap_one, joinW, List.map_map]
      rfl
    rw [e5]
    have := loopF_flat (w := [3, 4, 5]) (t := tName 3) (b := l_law_joined_2) tD (fun acc => [some (.d (prD p1 w1)), some (.d (prD p2 w2)), some (.own acc), none, none, none, none]) (fun w => [tD (wayN w2 w)]) w1 (by
      intro w hw acc hs
      have hs' : acc.length < lim := hs
      have := lway_loop (pl := p2) (c1 := some (.d (prD p1 w1))) (c2 := none) (c3 := some (.own acc)) (c4 := some (.d (tD w))) (c6 := none) (acc := []) h4 (h2 w hw) (by rw [lim]; have := h3 w hw; simp; omega)
      rw [List.nil_append] at this
      have e : tD [] = .tuple [] := rfl
      rw [e] at this
      simp [l_law_joined_2, this, hs']) [] (by rw [← e5, List.length_map, joinW, List.length_map, List.length_nil]; omega)
    simpa using this
  have e3 := fTuple_nD (p := joinP p1 p2)
  have e4 := fTuple_ctD (p := joinW w1 w2)
  generalize joinP p1 p2 = T1 at *
  generalize joinW w1 w2 = T2 at *
  simp [F_law_joined, b_law_joined, e1, e2, e3, e4, h5, h6, prD_fold, -fTuple_new, -fTuple_cur]
theorem own_eq (hA : A.Ok a b) (ha : a ≤ 1000) (hb : b ≤ 1000) : F_p_own_shift [.d (formD A)] = some (.d (prD (ownP A) (ownW A))) := by
  have hk : -1000000 ≤ (A.kinds : Int) ∧ (A.kinds : Int) ≤ 1000000 := by have := hA.most; omega
  have hn : -1000000 ≤ (A.arrows.length : Int) ∧ (A.arrows.length : Int) ≤ 1000000 := by have := hA.many; omega
  have hn2 : A.arrows.length ≤ lim := by rw [lim]; have := hA.many; omega
  have e1 : lcGo (tName 1) bYes c_p_own_shift_1 [some (.d (formD A)), none] ((List.range A.arrows.length).map nD) = some ((ownW A).map tD) :=
    lcGo_tup nD (fun k => [k]) (List.range A.arrows.length) fun k hk => ⟨_, rfl, by simp [c_p_own_shift_1, tD]⟩
  have e2 : fTupleRg (.d (nD A.kinds)) = some (.d (tD (ownP A))) := by
    show (if rngOk (A.kinds : Int) then _ else none) = _
    rw [if_pos (rngOk_iff.mpr hk), Int.toNat_natCast, upTo_nat]
    rfl
  have e4 := fTuple_tD (p := ownW A)
  generalize ownP A = T1 at *
  generalize ownW A = T2 at *
  simp [F_p_own_shift, b_p_own_shift, e1, e2, e4, hn, hn2, upTo_nat, prD_fold, -fTuple_new]
end
end FS
set_option Elab.async false
set_option linter.all false
set_option maxRecDepth 100000
set_option autoImplicit false
namespace FS
open PySem

theorem cmpEq_nilP {L : List (List Nat)} : cmpEq (.new (L.map tD)) (.new []) = some (.d (.bool L.isEmpty)) := by
  rw [cmpEq_iff (p := L = []) rfl rfl (nest_list fun x _ => nest_tD) (by decide) (by simp)]
  cases L <;> rfl
/-- whether a place serves a kind: to it there is a way from each place that is taken -/
def fitA (T : Form) (pl : List Nat) (kind spot : Nat) (q : Nat × Nat) : Bool := !(decide (q.2 = kind) && (pathsN T (pl.getD q.1 0) spot).isEmpty)
def fitsB (T : Form) (pl : List Nat) (A : List (Nat × Nat)) (kind spot : Nat) : Bool := A.all (fitA T pl kind spot)
theorem fits_eq {T : Form} {a b : Nat} (hT : T.Ok a b) (ha : a ≤ 1000) (hs : (b + 1) ^ a ≤ lim) {pl : List Nat} {A : List (Nat × Nat)} {kind spot : Nat} (h1 : ∀ q ∈ A, q.2 = kind → q.1 < pl.length) (h2 : ∀ p ∈ pl, p < T.kinds) :
    F_law_fits [.d (formD T), .bor (pl.map nD), .d (.tuple (A.map arrD)), .d (nD kind), .d (nD spot)] = some (.d (.bool (fitsB T pl A kind spot))) := by
  have hl := loopF_find (w := [5, 6]) (t := tTup [tName 5, tName 6]) (b := l_law_fits_1) arrD [some (.d (formD T)), some (.bor (pl.map nD)), some (.d (.tuple (A.map arrD))), some (.d (nD kind)), some (.d (nD spot)), none, none] (fun q => !fitA T pl kind spot q) (.d (.bool false)) A (by
    intro q hq
    unfold fitA
    rw [Bool.not_not]
    by_cases hk : q.2 = kind
    · have h3 := h1 q hq hk
      have e1 : atD (pl.map nD) (q.1 : Int) = some (nD (pl.getD q.1 0)) := atD_nD h3
      have h4 := h2 _ (getD_mem h3 0)
      have e2 := lpaths_eq (o := spot) hT ha h4 hs
      have e3 := cmpEq_nilP (L := pathsN T (pl.getD q.1 0) spot)
      have hk' : (q.2 : Int) = kind := by omega
      generalize pathsN T (pl.getD q.1 0) spot = L at *
      generalize pl.getD q.1 0 = z at *
      cases hL : L.isEmpty <;> rw [hL] at e3 <;> simp [l_law_fits_1, hk, hk', e1, e2, e3]
    · have hk' : ¬ (q.2 : Int) = kind := by omega
      simp [l_law_fits_1, hk, hk'])
  have hn : A.any (fun q => !fitA T pl kind spot q) = !fitsB T pl A kind spot := by
    unfold fitsB
    rw [List.all_eq_not_any_not, Bool.not_not]
  rw [hn] at hl
  cases hf : fitsB T pl A kind spot <;> rw [hf] at hl <;> simp only [Bool.not_false, Bool.not_true, Bool.false_eq_true, if_true, if_false] at hl <;> simp [F_law_fits, b_law_fits, hl]
/-- the law's shift -/
theorem const_ok {A T : Form} {a b : Nat} (hA : A.Ok a b) {spot : Nat} (h : spot < T.kinds) : ShiftOk A T (List.replicate A.kinds spot) (List.replicate A.arrows.length []) := by
  refine ⟨by simp, fun p hp => by rw [(List.mem_replicate.mp hp).2]; exact h, by simp, fun i hi => ?_⟩
  have g := hA.arr _ (getD_mem hi (0, 0))
  have e : ∀ k, k < A.kinds → (List.replicate A.kinds spot).getD k 0 = spot := fun k hk => by simp [List.getD_eq_getElem?_getD, hk]
  have e2 : (List.replicate A.arrows.length ([] : List Nat)).getD i [] = [] := by simp [List.getD_eq_getElem?_getD, hi]
  rw [e _ (by omega), e _ (by omega), e2]
  exact ⟨trivial, rfl⟩
section
variable {A T : Form} {a b c d : Nat}
theorem fits_all (hA : A.Ok a b) (hT : T.Ok c d) (hc : c ≤ 1000) (hs : (d + 1) ^ c ≤ lim) {pl : List Nat} {kind spot : Nat} (h2 : ∀ p ∈ pl, p < T.kinds) (h3 : pl.length = kind) :
    F_law_fits [.d (formD T), .bor (pl.map nD), .d (.tuple (A.arrows.map arrD)), .d (nD kind), .d (nD spot)] = some (.d (.bool (fitsB T pl A.arrows kind spot))) :=
  fits_eq hT hc hs (fun q hq he => by have := hA.arr q hq; omega) h2
theorem shift_turns (hA : A.Ok a b) (hT : T.Ok c d) (hc : c ≤ 1000) (hs : (d + 1) ^ c ≤ lim) {s1 s2 : AV} {pl : List Nat} {kind : Nat} (h2 : ∀ p ∈ pl, p < T.kinds) (h3 : pl.length = kind) : ∀ (xs : List Nat) (spot : Nat), spot < T.kinds → ∃ spot2, spot2 < T.kinds ∧
      loopF [10] (tName 10) l_law_shift_1 (xs.map nD) [some s1, some s2, some (.d (formD A)), some (.d (formD T)), some (.own (pl.map nD)), some (.d (nD kind)), none, none, none, some (.d (nD spot)), none, none]
        = some (.nx [some s1, some s2, some (.d (formD A)), some (.d (formD T)), some (.own (pl.map nD)), some (.d (nD kind)), none, none, none, some (.d (nD spot2)), none, none]) := by
  have hTp : (0 : Int) < T.kinds := by have := hT.pos; omega
  have hTp' : 0 < T.kinds := hT.pos
  intro xs
  induction xs with
  | nil => exact fun spot hsp => ⟨spot, hsp, rfl⟩
  | cons x xs ih =>
    intro spot hsp
    have hf := fits_all hA hT hc hs (spot := spot) h2 h3
    cases hb : fitsB T pl A.arrows kind spot with
    | true =>
      obtain ⟨s2, h4, h5⟩ := ih spot hsp
      refine ⟨s2, h4, ?_⟩
      rw [List.map_cons, loopF_nx]
      · exact h5
      · rw [hb] at hf
        simp [l_law_shift_1, hf]
    | false =>
      obtain ⟨m, hm⟩ : ∃ m : Nat, (m : Int) = ((spot : Int) + 1) % T.kinds := ⟨(((spot : Int) + 1) % T.kinds).toNat, by have := Int.emod_nonneg ((spot : Int) + 1) (show (T.kinds : Int) ≠ 0 by omega); omega⟩
      have hm2 : m < T.kinds := by have := Int.emod_lt_of_pos ((spot : Int) + 1) hTp; omega
      obtain ⟨s2, h4, h5⟩ := ih m hm2
      refine ⟨s2, h4, ?_⟩
      rw [List.map_cons, loopF_nx]
      · exact h5
      · rw [hb] at hf
        simp [l_law_shift_1, hf, hTp', ← hm]
/-- one kind: its place is added, or no place serves -/
theorem shift_kind (ns : List Int) (hA : A.Ok a b) (hT : T.Ok c d) (ha : a ≤ 1000) (hb : b ≤ 1000) (hc : c ≤ 1000) (hs : (d + 1) ^ c ≤ lim) {first ca : Int} (c0 : F_law_cell [.bor (ns.map PyData.int), .d (.int first)] = some (.d (.int ca)))
    {pl : List Nat} (hp : ∀ p ∈ pl, p < T.kinds) (hlt : pl.length < A.kinds) : ∃ s1, s1 < T.kinds ∧
      turn [5, 9, 10] (tName 5) l_law_shift_2 (nD pl.length) [some (.bor (ns.map PyData.int)), some (.d (.int first)), some (.d (formD A)), some (.d (formD T)), some (.own (pl.map nD)), none, none, none, none, none, none, none]
        = if fitsB T pl A.arrows pl.length s1 then some (.nx [some (.bor (ns.map PyData.int)), some (.d (.int first)), some (.d (formD A)), some (.d (formD T)), some (.own ((pl ++ [s1]).map nD)), none, none, none, none, none, none, none]) else some (.rt (.d (prD (List.replicate A.kinds s1) (List.replicate A.arrows.length [])))) := by
  have hTp : (0 : Int) < T.kinds := by have := hT.pos; omega
  have hk2 : -1000000 ≤ (T.kinds : Int) ∧ (T.kinds : Int) ≤ 1000000 := by have := hT.most; omega
  obtain ⟨s0, hn, hs0⟩ := drawN_ex ca pl.length hTp
  have hd := draw_eq ca pl.length T.kinds hTp
  rw [hn] at hd
  obtain ⟨s1, hs1, hlp⟩ := shift_turns hA hT hc hs (s1 := .bor (ns.map PyData.int)) (s2 := .d (.int first)) hp rfl (List.range T.kinds) s0 (by omega)
  have hf := fits_all hA hT hc hs (spot := s1) hp rfl
  have hlim : pl.length < lim := by rw [lim]; have := hA.most; omega
  refine ⟨s1, hs1, ?_⟩
  cases hb2 : fitsB T pl A.arrows pl.length s1 with
  | true =>
    rw [hb2] at hf
    simp [l_law_shift_2, c0, hd, hk2, upTo_nat, hlp, hf, hlim]
  | false =>
    rw [hb2] at hf
    have m1 := opMul_one (x := nD s1) (k := (A.kinds : Int)) (by omega) (by have := hA.most; omega)
    have m2 := opMul_one (x := .tuple []) (k := (A.arrows.length : Int)) (by omega) (by have := hA.many; omega)
    rw [Int.toNat_natCast] at m1 m2
    have m3 : PyData.tuple [.tuple (List.replicate A.kinds (nD s1)), .tuple (List.replicate A.arrows.length (.tuple []))] = prD (List.replicate A.kinds s1) (List.replicate A.arrows.length []) := by
      simp [prD, tD, ttD]
    rw [← m3]
    unfold l_law_shift_2
    generalize opMul = mul at m1 m2 ⊢
    simp [c0, hd, hk2, upTo_nat, hlp, hf, m1, m2]
theorem shift_places (ns : List Int) (hA : A.Ok a b) (hT : T.Ok c d) (ha : a ≤ 1000) (hb : b ≤ 1000) (hc : c ≤ 1000) (hs : (d + 1) ^ c ≤ lim) {first ca : Int} (c0 : F_law_cell [.bor (ns.map PyData.int), .d (.int first)] = some (.d (.int ca))) :
    (∃ pl : List Nat, loopF [5, 9, 10] (tName 5) l_law_shift_2 ((List.range A.kinds).map nD) [some (.bor (ns.map PyData.int)), some (.d (.int first)), some (.d (formD A)), some (.d (formD T)), some (.own []), none, none, none, none, none, none, none]
        = some (.nx [some (.bor (ns.map PyData.int)), some (.d (.int first)), some (.d (formD A)), some (.d (formD T)), some (.own (pl.map nD)), none, none, none, none, none, none, none])
        ∧ pl.length = A.kinds ∧ (∀ p ∈ pl, p < T.kinds) ∧ ∀ q ∈ A.arrows, pathsN T (pl.getD q.1 0) (pl.getD q.2 0) ≠ [])
    ∨ ∃ spot, spot < T.kinds ∧ loopF [5, 9, 10] (tName 5) l_law_shift_2 ((List.range A.kinds).map nD) [some (.bor (ns.map PyData.int)), some (.d (.int first)), some (.d (formD A)), some (.d (formD T)), some (.own []), none, none, none, none, none, none, none]
        = some (.rt (.d (prD (List.replicate A.kinds spot) (List.replicate A.arrows.length [])))) := by
  have hl := loopF_or (w := [5, 9, 10]) (t := tName 5) (b := l_law_shift_2) nD
    (fun r e => ∃ pl : List Nat, e = [some (.bor (ns.map PyData.int)), some (.d (.int first)), some (.d (formD A)), some (.d (formD T)), some (.own (pl.map nD)), none, none, none, none, none, none, none] ∧ r = List.range' pl.length (A.kinds - pl.length) ∧ pl.length ≤ A.kinds ∧ (∀ p ∈ pl, p < T.kinds) ∧ ∀ q ∈ A.arrows, q.2 < pl.length → pathsN T (pl.getD q.1 0) (pl.getD q.2 0) ≠ [])
    (fun v => ∃ spot, spot < T.kinds ∧ v = .d (prD (List.replicate A.kinds spot) (List.replicate A.arrows.length []))) (by
    intro e x r ⟨pl, he, hr, hl, hp, hq⟩
    subst he
    have hlt : pl.length < A.kinds := by
      rcases Nat.lt_or_ge pl.length A.kinds with h | h
      · exact h
      · rw [show A.kinds - pl.length = 0 by omega] at hr
        cases hr
    obtain ⟨m, hm⟩ : ∃ m, A.kinds - pl.length = m + 1 := ⟨A.kinds - pl.length - 1, by omega⟩
    rw [hm, List.range'_succ] at hr
    obtain ⟨hx, hr2⟩ := List.cons.inj hr
    clear hr
    subst hx
    obtain ⟨s1, hs1, ht⟩ := shift_kind ns hA hT ha hb hc hs c0 hp hlt
    cases hb : fitsB T pl A.arrows pl.length s1 with
    | true =>
      rw [hb, if_pos rfl] at ht
      refine .inl ⟨_, ht, pl ++ [s1], rfl, ?_, by simp; omega, ?_, ?_⟩
      · rw [hr2, List.length_append, List.length_singleton, show A.kinds - (pl.length + 1) = m by omega]
      · intro p hpm
        rcases List.mem_append.mp hpm with h | h
        · exact hp p h
        · rw [List.mem_singleton.mp h]; exact hs1
      · intro q hqm hlq
        have g := hA.arr q hqm
        rw [List.length_append, List.length_singleton] at hlq
        have e1 : ∀ k, k < pl.length → (pl ++ [s1]).getD k 0 = pl.getD k 0 := fun k hk => by simp [List.getD_eq_getElem?_getD, List.getElem?_append_left hk]
        rcases Nat.lt_or_ge q.2 pl.length with h | h
        · rw [e1 _ (by omega), e1 _ h]
          exact hq q hqm h
        · have hq2 : q.2 = pl.length := by omega
          rw [e1 _ (by omega), hq2, show (pl ++ [s1]).getD pl.length 0 = s1 by simp [List.getD_eq_getElem?_getD]]
          intro hnil
          have := List.all_eq_true.mp hb q hqm
          simp [fitA, hq2, hnil, -List.getD_eq_getElem?_getD] at this
    | false =>
      rw [hb, if_neg (by decide)] at ht
      exact .inr ⟨_, ht, s1, hs1, rfl⟩) (List.range A.kinds) [some (.bor (ns.map PyData.int)), some (.d (.int first)), some (.d (formD A)), some (.d (formD T)), some (.own []), none, none, none, none, none, none, none] ⟨[], rfl, by rw [List.range_eq_range']; rfl, by simp, by simp, by simp⟩
  rcases hl with ⟨e, hl, pl, he, hr, hle, hp, hq⟩ | ⟨v, hl, spot, hsp, rfl⟩
  · subst he
    have hpl : pl.length = A.kinds := by
      rcases Nat.lt_or_ge pl.length A.kinds with h | h
      · exfalso
        obtain ⟨m, hm⟩ : ∃ m, A.kinds - pl.length = m + 1 := ⟨A.kinds - pl.length - 1, by omega⟩
        rw [hm, List.range'_succ] at hr
        cases hr
      · omega
    exact .inl ⟨pl, hl, hpl, hp, fun q hqm => hq q hqm (by have := hA.arr q hqm; omega)⟩
  · exact .inr ⟨spot, hsp, hl⟩
theorem shift_way (hA : A.Ok a b) (hT : T.Ok c d) (hb : b ≤ 1000) (hc : c ≤ 1000) (hs : (d + 1) ^ c ≤ lim) (ns : List Int) {first cb : Int} (c1 : F_law_cell [.bor (ns.map PyData.int), .d (.int (first + 1))] = some (.d (.int cb)))
    {pl : List Nat} (hpl : pl.length = A.kinds) (hp : ∀ p ∈ pl, p < T.kinds) (hq : ∀ q ∈ A.arrows, pathsN T (pl.getD q.1 0) (pl.getD q.2 0) ≠ []) {S : List (List Nat)} (hlt : S.length < A.arrows.length) :
    ∃ w, (IsPath T.arrows (pl.getD (A.arrows.getD S.length (0, 0)).1 0) w ∧ endN T.arrows (pl.getD (A.arrows.getD S.length (0, 0)).1 0) w = pl.getD (A.arrows.getD S.length (0, 0)).2 0) ∧
      turn [7, 8, 11] (tTup [tName 7, tName 8]) l_law_shift_3 (.tuple [nD S.length, arrD (A.arrows.getD S.length (0, 0))]) [some (.bor (ns.map PyData.int)), some (.d (.int first)), some (.d (formD A)), some (.d (formD T)), some (.own (pl.map nD)), none, some (.own (S.map tD)), none, none, none, none, none]
        = some (.nx [some (.bor (ns.map PyData.int)), some (.d (.int first)), some (.d (formD A)), some (.d (formD T)), some (.own (pl.map nD)), none, some (.own ((S ++ [w]).map tD)), none, none, none, none, none]) := by
  have hmem := getD_mem hlt (0, 0)
  have g := hA.arr _ hmem
  have gq := hq _ hmem
  have hlim : S.length < lim := by rw [lim]; have := hA.many; omega
  generalize hqq : A.arrows.getD S.length (0, 0) = q at *
  have e1 : atD (pl.map nD) (q.1 : Int) = some (nD (pl.getD q.1 0)) := atD_nD (by omega)
  have e2 : atD (pl.map nD) (q.2 : Int) = some (nD (pl.getD q.2 0)) := atD_nD (by omega)
  have hz := hp _ (getD_mem (show q.1 < pl.length by omega) 0)
  have e3 := lpaths_eq (o := pl.getD q.2 0) hT hc hz hs
  have hok := fun p => pathsN_ok (F := T) (k := pl.getD q.1 0) (o := pl.getD q.2 0) p
  generalize hLL : pathsN T (pl.getD q.1 0) (pl.getD q.2 0) = L at *
  have hLp : 0 < L.length := List.length_pos_iff.mpr gq
  obtain ⟨n, hn1, hn2⟩ := drawN_ex cb S.length (b := (L.length : Int)) (by omega)
  have hd := draw_eq cb S.length (L.length : Int) (by omega)
  rw [hn1] at hd
  have e4 : atD (L.map tD) (n : Int) = some (tD (L.getD n [])) := atD_map (by omega) []
  refine ⟨L.getD n [], hok _ (getD_mem (by omega) []), ?_⟩
  simp [l_law_shift_3, e1, e2, e3, c1, hd, e4, hlim, -List.getD_eq_getElem?_getD]
theorem shift_ways (hA : A.Ok a b) (hT : T.Ok c d) (hb : b ≤ 1000) (hc : c ≤ 1000) (hs : (d + 1) ^ c ≤ lim) (ns : List Int) {first cb : Int} (c1 : F_law_cell [.bor (ns.map PyData.int), .d (.int (first + 1))] = some (.d (.int cb)))
    {pl : List Nat} (hpl : pl.length = A.kinds) (hp : ∀ p ∈ pl, p < T.kinds) (hq : ∀ q ∈ A.arrows, pathsN T (pl.getD q.1 0) (pl.getD q.2 0) ≠ []) :
    ∃ S : List (List Nat), loopF [7, 8, 11] (tTup [tName 7, tName 8]) l_law_shift_3 (enumD 0 (A.arrows.map arrD)) [some (.bor (ns.map PyData.int)), some (.d (.int first)), some (.d (formD A)), some (.d (formD T)), some (.own (pl.map nD)), none, some (.own []), none, none, none, none, none]
        = some (.nx [some (.bor (ns.map PyData.int)), some (.d (.int first)), some (.d (formD A)), some (.d (formD T)), some (.own (pl.map nD)), none, some (.own (S.map tD)), none, none, none, none, none]) ∧ ShiftOk A T pl S := by
  obtain ⟨e, l4, S, he, hr, hle2, hn⟩ := loopF_inv (w := [7, 8, 11]) (t := tTup [tName 7, tName 8]) (b := l_law_shift_3) (fun i => PyData.tuple [nD i, arrD (A.arrows.getD i (0, 0))])
      (fun r e => ∃ S : List (List Nat), e = [some (.bor (ns.map PyData.int)), some (.d (.int first)), some (.d (formD A)), some (.d (formD T)), some (.own (pl.map nD)), none, some (.own (S.map tD)), none, none, none, none, none]
        ∧ r = (List.range' S.length (A.arrows.length - S.length)) ∧ S.length ≤ A.arrows.length ∧ ∀ i < S.length, IsPath T.arrows (pl.getD (A.arrows.getD i (0, 0)).1 0) (S.getD i []) ∧ endN T.arrows (pl.getD (A.arrows.getD i (0, 0)).1 0) (S.getD i []) = pl.getD (A.arrows.getD i (0, 0)).2 0) (by
      intro e i r ⟨S, he, hr, hl, hn⟩
      subst he
      have hlt : S.length < A.arrows.length := by
        rcases Nat.lt_or_ge S.length A.arrows.length with h | h
        · exact h
        · rw [show A.arrows.length - S.length = 0 by omega] at hr
          cases hr
      obtain ⟨m, hm⟩ : ∃ m, A.arrows.length - S.length = m + 1 := ⟨A.arrows.length - S.length - 1, by omega⟩
      rw [hm, List.range'_succ] at hr
      obtain ⟨hi, hr2⟩ := List.cons.inj hr
      clear hr
      subst hi
      obtain ⟨w, hw, ht⟩ := shift_way hA hT hb hc hs ns c1 hpl hp hq hlt
      refine ⟨_, ht, S ++ [w], rfl, ?_, by simp; omega, ?_⟩
      · rw [hr2, List.length_append, List.length_singleton, show A.arrows.length - (S.length + 1) = m by omega]
      · intro j hj
        rw [List.length_append, List.length_singleton] at hj
        rcases Nat.lt_or_ge j S.length with h | h
        · rw [show (S ++ [w]).getD j [] = S.getD j [] by simp [List.getD_eq_getElem?_getD, List.getElem?_append_left h]]
          exact hn j h
        · obtain rfl : j = S.length := by omega
          rw [show (S ++ [w]).getD S.length [] = w by simp [List.getD_eq_getElem?_getD]]
          exact hw) (List.range A.arrows.length) [some (.bor (ns.map PyData.int)), some (.d (.int first)), some (.d (formD A)), some (.d (formD T)), some (.own (pl.map nD)), none, some (.own []), none, none, none, none, none] ⟨[], rfl, by rw [List.range_eq_range']; rfl, by simp, by simp⟩
  subst he
  have hSl : S.length = A.arrows.length := by
    rcases Nat.lt_or_ge S.length A.arrows.length with h | h
    · exfalso
      obtain ⟨m, hm⟩ : ∃ m, A.arrows.length - S.length = m + 1 := ⟨A.arrows.length - S.length - 1, by omega⟩
      rw [hm, List.range'_succ] at hr
      cases hr
    · omega
  rw [← enumD_map arrD A.arrows (0, 0)] at l4
  exact ⟨S, l4, hpl, hp, hSl, by rw [← hSl]; exact hn⟩
theorem shift_ex (ns : List Int) (hA : A.Ok a b) (hT : T.Ok c d) (ha : a ≤ 1000) (hb : b ≤ 1000) (hc : c ≤ 1000) (hs : (d + 1) ^ c ≤ lim) (first : Int) (h0 : 0 ≤ first) :
    ∃ pl ws, F_law_shift [.bor (ns.map PyData.int), .d (.int first), .d (formD A), .d (formD T)] = some (.d (prD pl ws)) ∧ ShiftOk A T pl ws := by
  have c0 := cell_eqI ns first h0
  have c1 := cell_eqI ns (first + 1) (by omega)
  generalize cellI ns first = ca at c0
  generalize cellI ns (first + 1) = cb at c1
  have hk1 : -1000000 ≤ (A.kinds : Int) ∧ (A.kinds : Int) ≤ 1000000 := by have := hA.most; omega
  rcases shift_places ns hA hT ha hb hc hs c0 with ⟨pl, hl, hpl, hp, hq⟩ | ⟨spot, hsp, hl⟩
  · obtain ⟨S, l4, hS⟩ := shift_ways hA hT hb hc hs ns c1 hpl hp hq
    refine ⟨pl, S, ?_, hS⟩
    simp [F_law_shift, b_law_shift, hk1, upTo_nat, hl, l4, prD, ttD, tD]
  · refine ⟨_, _, ?_, const_ok hA hsp⟩
    simp [F_law_shift, b_law_shift, hk1, upTo_nat, hl]
end
end FS
set_option Elab.async false
set_option linter.all false
set_option maxRecDepth 100000
set_option autoImplicit false
namespace FS
open PySem

/-! ### whole numbers of any sign -/
def iD (p : List Int) : D := .tuple (p.map PyData.int)
def iiD (ps : List (List Int)) : D := .tuple (ps.map iD)
def piD (a : List Int) (b : List (List Int)) : D := .tuple [iD a, iiD b]
def up (p : List Nat) : List Int := p.map fun (n : Nat) => (n : Int)
theorem tD_up {p : List Nat} : iD (up p) = tD p := by simp [iD, up, tD, List.map_map, Function.comp_def]
theorem ttD_up {ps : List (List Nat)} : iiD (ps.map up) = ttD ps := by
  simp only [iiD, ttD, List.map_map]
  congr 1
  exact List.map_congr_left fun p _ => tD_up
theorem prD_up {a : List Nat} {b : List (List Nat)} : piD (up a) (b.map up) = prD a b := by rw [piD, tD_up, ttD_up]; rfl
section
variable {p : List Int} {ps : List (List Int)}
@[simp] theorem opIx_pi0 : opIx (.d (piD p ps)) (.d (.int 0)) = some (.d (iD p)) := rfl
@[simp] theorem opIx_pi1 : opIx (.d (piD p ps)) (.d (.int 1)) = some (.d (iiD ps)) := rfl
@[simp] theorem opIx_iD {z : Int} : opIx (.d (iD p)) (.d (.int z)) = (atD (p.map PyData.int) z).map .d := rfl
@[simp] theorem opIx_iiD {z : Int} : opIx (.d (iiD ps)) (.d (.int z)) = (atD (ps.map iD) z).map .d := rfl
@[simp] theorem fix_iD : RV.fix (.d (iD p)) = some (p.map PyData.int) := rfl
@[simp] theorem fix_iiD : RV.fix (.d (iiD ps)) = some (ps.map iD) := rfl
@[simp] theorem seq_iD : RV.seq (.d (iD p)) = some (p.map PyData.int) := rfl
@[simp] theorem seq_iiD : RV.seq (.d (iiD ps)) = some (ps.map iD) := rfl
@[simp] theorem isT_iD : RV.isT (.d (iD p)) = true := rfl
@[simp] theorem isT_iiD : RV.isT (.d (iiD ps)) = true := rfl
@[simp] theorem fLen_iD : fLen (.d (iD p)) = some (.d (.int p.length)) := by simp [iD]
@[simp] theorem fLen_iiD : fLen (.d (iiD ps)) = some (.d (.int ps.length)) := by simp [iiD]
end
theorem lcGo_bool {α : Type} {t : TF} {f : EF} {e : Env} (dat : α → D) (p : α → Bool) (xs : List α) (h : ∀ x ∈ xs, ∃ e1, t (dat x) e = some e1 ∧ f e1 = some (.d (.bool (p x)))) : lcGo t bYes f e (xs.map dat) = some (xs.map fun x => PyData.bool (p x)) :=
  lcGo_map dat (fun x => PyData.bool (p x)) xs fun x hx => by
    obtain ⟨e1, h1, h2⟩ := h x hx
    exact ⟨e1, _, h1, h2, rfl⟩
theorem atD_int {xs : List Int} {i : Nat} (h : i < xs.length) : atD (xs.map PyData.int) (i : Int) = some (.int (xs.getD i 0)) := atD_map h 0
theorem any_not {α : Type} {p : α → Bool} {xs : List α} : xs.any (fun x => !p x) = !xs.all p := by rw [List.all_eq_not_any_not, Bool.not_not]

/-! ### is_book -/
def rowB (r : Int) : Bool := decide (0 ≤ r) && decide (r ≤ 200)
def stepB (R : List Int) (q : Nat × Nat) (s : List Int) : Bool := decide ((s.length : Int) = R.getD q.1 0) && s.all fun x => decide (0 ≤ x) && decide (x < R.getD q.2 0)
def isBookB (F : Form) (R : List Int) (S : List (List Int)) : Bool :=
  decide (R.length = F.kinds) && (R.all rowB && (decide (S.length = F.arrows.length) && (List.range F.arrows.length).all fun i => stepB R (F.arrows.getD i (0, 0)) (S.getD i [])))
theorem is_book_step {F : Form} {R : List Int} {S : List (List Int)} {q : Nat × Nat} {s : List Int} {c : AV} (h1 : q.1 < R.length) (h2 : q.2 < R.length) (hl : s.length ≤ lim) :
    turn [3, 4] (tTup [tName 3, tName 4]) l_p_is_book_1 (.tuple [arrD q, iD s]) [some c, some (.d (piD R S)), some (.d (iD R)), none, none, none, none]
      = if !stepB R q s then some (.rt (.d (.bool false))) else some (.nx [some c, some (.d (piD R S)), some (.d (iD R)), none, none, none, none]) := by
  have e1 := atD_int h1
  have e2 := atD_int h2
  have e3 : lcGo (tName 6) bYes c_p_is_book_2 [some c, some (.d (piD R S)), some (.d (iD R)), some (.d (arrD q)), some (.d (iD s)), none, none] (s.map PyData.int) = some (s.map fun x => PyData.bool (decide (0 ≤ x) && decide (x < R.getD q.2 0))) :=
    lcGo_bool PyData.int _ s fun x _ => by
      by_cases hx : 0 ≤ x
      · exact ⟨_, rfl, by simp [c_p_is_book_2, e2, hx, -List.getD_eq_getElem?_getD]⟩
      · exact ⟨_, rfl, by simp [c_p_is_book_2, e2, hx, -List.getD_eq_getElem?_getD]⟩
  have e4 := fAll_map (p := fun x => decide (0 ≤ x) && decide (x < R.getD q.2 0)) (xs := s)
  unfold stepB
  generalize (s.map fun x => PyData.bool (decide (0 ≤ x) && decide (x < R.getD q.2 0))) = L at *
  generalize (s.all fun x => decide (0 ≤ x) && decide (x < R.getD q.2 0)) = z at *
  by_cases hn : (s.length : Int) = R.getD q.1 0
  · cases z <;> simp [l_p_is_book_1, e1, e3, e4, hn, hl, -List.getD_eq_getElem?_getD]
  · simp [l_p_is_book_1, e1, e3, e4, hn, hl, -List.getD_eq_getElem?_getD]
theorem is_book_eq {F : Form} {a b : Nat} (hF : F.Ok a b) {R : List Int} {S : List (List Int)} (hR : R.length ≤ lim) (hS : ∀ s ∈ S, s.length ≤ lim) : F_p_is_book [.d (formD F), .d (piD R S)] = some (.d (.bool (isBookB F R S))) := by
  have e1 : lcGo (tName 5) bYes c_p_is_book_1 [some (.d (formD F)), some (.d (piD R S)), some (.d (iD R)), none, none, none, none] (R.map PyData.int) = some (R.map fun r => PyData.bool (rowB r)) :=
    lcGo_bool PyData.int rowB R fun r _ => by
      unfold rowB
      by_cases hr : 0 ≤ r
      · exact ⟨_, rfl, by simp [c_p_is_book_1, hr]⟩
      · exact ⟨_, rfl, by simp [c_p_is_book_1, hr]⟩
  have e2 := fAll_map (p := rowB) (xs := R)
  unfold isBookB
  by_cases h1 : R.length = F.kinds
  · have h1' : (R.length : Int) = F.kinds := by omega
    cases h2 : R.all rowB with
    | false => rw [h2] at e2; simp [F_p_is_book, b_p_is_book, h1, h1', e1, e2, hR]; rw [← h1]; simp [hR]; simp [hR, e2]
    | true =>
      rw [h2] at e2
      by_cases h3 : S.length = F.arrows.length
      · have h3' : (S.length : Int) = F.arrows.length := by omega
        have hl := loopF_find (w := [3, 4]) (t := tTup [tName 3, tName 4]) (b := l_p_is_book_1) (fun i => PyData.tuple [arrD (F.arrows.getD i (0, 0)), iD (S.getD i [])]) [some (.d (formD F)), some (.d (piD R S)), some (.d (iD R)), none, none, none, none]
          (fun i => !stepB R (F.arrows.getD i (0, 0)) (S.getD i [])) (.d (.bool false)) (List.range F.arrows.length) (by
            intro i hi
            have hi := List.mem_range.mp hi
            have g := hF.arr _ (getD_mem hi (0, 0))
            exact is_book_step (F := F) (by omega) (by omega) (hS _ (getD_mem (by omega) [])))
        rw [any_not, ← zipD_range (0, 0) [] h3] at hl
        generalize ((List.range F.arrows.length).all fun i => stepB R (F.arrows.getD i (0, 0)) (S.getD i [])) = z at *
        have hR' := hR
        rw [h1] at hR'
        cases z <;> simp only [Bool.not_false, Bool.not_true, Bool.false_eq_true, if_true, if_false] at hl <;> simp [F_p_is_book, b_p_is_book, h1, h1', e1, e2, hR, hR', h3, h3', hl]
      · have h3' : ¬ (S.length : Int) = F.arrows.length := by omega
        have hR' := hR
        rw [h1] at hR'
        simp [F_p_is_book, b_p_is_book, h1, h1', e1, e2, hR, hR', h3, h3']
  · have h1' : ¬ (R.length : Int) = F.kinds := by omega
    simp [F_p_is_book, b_p_is_book, h1, h1']
theorem getD_up {p : List Nat} {i : Nat} : (up p).getD i 0 = (p.getD i 0 : Nat) := by
  simp only [up, List.getD_eq_getElem?_getD, List.getElem?_map]
  cases p[i]? <;> rfl
theorem getD_ups {ps : List (List Nat)} {i : Nat} : (ps.map up).getD i [] = up (ps.getD i []) := by
  simp only [List.getD_eq_getElem?_getD, List.getElem?_map]
  cases ps[i]? <;> rfl
theorem up_len {p : List Nat} : (up p).length = p.length := List.length_map _
theorem isBook_ok {F : Form} {R : List Nat} {S : List (List Nat)} (h : BookOk F R S) (hR : ∀ r ∈ R, r ≤ 200) : isBookB F (up R) (S.map up) = true := by
  unfold isBookB
  rw [Bool.and_eq_true, Bool.and_eq_true, Bool.and_eq_true]
  refine ⟨decide_eq_true (by rw [up_len, h.rows]), ?_, decide_eq_true (by rw [List.length_map, h.steps]), ?_⟩
  · refine List.all_eq_true.mpr fun r hr => ?_
    obtain ⟨n, hn, rfl⟩ := List.mem_map.mp hr
    have := hR n hn
    unfold rowB
    rw [Bool.and_eq_true]
    exact ⟨decide_eq_true (by omega), decide_eq_true (by omega)⟩
  · refine List.all_eq_true.mpr fun i hi => ?_
    have hi := List.mem_range.mp hi
    unfold stepB
    rw [Bool.and_eq_true, getD_ups, getD_up, getD_up, up_len]
    refine ⟨decide_eq_true (by rw [h.len i hi]), List.all_eq_true.mpr fun x hx => ?_⟩
    obtain ⟨n, hn, rfl⟩ := List.mem_map.mp hx
    have := h.lt i hi n hn
    rw [Bool.and_eq_true]
    exact ⟨decide_eq_true (by omega), decide_eq_true (by omega)⟩
theorem is_book_true {F : Form} {a b : Nat} (hF : F.Ok a b) (ha : a ≤ 1000) {R : List Nat} {S : List (List Nat)} (h : BookOk F R S) (hR : ∀ r ∈ R, r ≤ 200) : F_p_is_book [.d (formD F), .d (prD R S)] = some (.d (.bool true)) := by
  have hl : (up R).length ≤ lim := by rw [up_len, h.rows, lim]; have := hF.most; omega
  have hs : ∀ s ∈ S.map up, s.length ≤ lim := by
    intro s hs
    obtain ⟨q, hq, rfl⟩ := List.mem_map.mp hs
    obtain ⟨i, hi, rfl⟩ := List.getElem_of_mem hq
    have hi' : i < F.arrows.length := by rw [← h.steps]; exact hi
    have h1 := h.len i hi'
    have g := hF.arr _ (getD_mem hi' (0, 0))
    have h2 := hR _ (getD_mem (show (F.arrows.getD i (0, 0)).1 < R.length by rw [h.rows]; omega) 0)
    rw [← h1] at h2
    simp [List.getD_eq_getElem?_getD, hi] at h2
    rw [up_len, lim]
    omega
  have := is_book_eq hF hl hs
  rw [prD_up, isBook_ok h hR] at this
  exact this

/-! ### sizes -/
@[simp] theorem isNot_bool {a b : Bool} : cmpIsNotB (.d (.bool a)) (.d (.bool b)) = some (.d (.bool (!decide (a = b)))) := rfl
theorem tupleRg_nat {n : Nat} (h : n ≤ 1000) : fTupleRg (.d (nD n)) = some (.d (tD (List.range n))) := by
  show (if rngOk (n : Int) then _ else none) = _
  rw [if_pos (rngOk_iff.mpr ⟨by omega, by omega⟩), Int.toNat_natCast, upTo_nat]
  rfl
theorem shift_len {A B : Form} {a b c d : Nat} {pl : List Nat} {ws : List (List Nat)} (hA : A.Ok a b) (hB : B.Ok c d) (h : ShiftOk A B pl ws) : ∀ w ∈ ws, w.length ≤ c ∧ ∀ i ∈ w, i < B.arrows.length := by
  intro w hw
  obtain ⟨i, hi, rfl⟩ := List.getElem_of_mem hw
  have hi' : i < A.arrows.length := by rw [← h.ways]; exact hi
  have h1 := h.path i hi'
  have g := hA.arr _ (getD_mem hi' (0, 0))
  have h2 := isPath_len hB h1.1
  rw [h1.2] at h2
  have h3 := h.at g.2
  have h4 := hB.most
  have e : ws.getD i [] = ws[i] := by simp [List.getD_eq_getElem?_getD, hi]
  rw [e] at h1 h2
  exact ⟨by omega, isPath_lt h1.1⟩
theorem shift_join {A B C : Form} {a b c d e f : Nat} {p1 p2 : List Nat} {w1 w2 : List (List Nat)} (hA : A.Ok a b) (hB : B.Ok c d) (h1 : ShiftOk A B p1 w1) (h2 : ShiftOk B C p2 w2) (ha : a ≤ 1000) (hb : b ≤ 1000) (hc : c ≤ 1000) (he : e ≤ 1000) (hC : C.Ok e f) :
    F_p_joined [.d (prD p1 w1), .d (prD p2 w2)] = some (.d (prD (joinP p1 p2) (joinW w1 w2))) :=
  joined_eq (fun k hk => by rw [h2.places]; exact h1.lt k hk) (fun w hw i hi => by rw [h2.ways]; exact (shift_len hA hB h1 w hw).2 i hi) (fun w hw => by have := (shift_len hA hB h1 w hw).1; omega) (fun w hw => by have := (shift_len hB hC h2 w hw).1; omega)
    (by rw [h1.places, lim]; have := hA.most; omega) (by rw [h1.ways, lim]; have := hA.many; omega)
theorem back_le {A B : Form} {pl R : List Nat} {ws S : List (List Nat)} (h : ShiftOk A B pl ws) (hB : BookOk B R S) {n : Nat} (hR : ∀ r ∈ R, r ≤ n) : ∀ r ∈ backR pl R, r ≤ n := by
  intro r hr
  obtain ⟨k, hk, rfl⟩ := List.mem_map.mp hr
  exact hR _ (getD_mem (by rw [hB.rows]; exact h.lt k hk) 0)
theorem book_len {F : Form} {a b : Nat} (hF : F.Ok a b) {R : List Nat} {S : List (List Nat)} (h : BookOk F R S) {n : Nat} (hR : ∀ r ∈ R, r ≤ n) : ∀ s ∈ S, s.length ≤ n := by
  intro s hs
  obtain ⟨i, hi, rfl⟩ := List.getElem_of_mem hs
  have hi' : i < F.arrows.length := by rw [← h.steps]; exact hi
  have h1 := h.len i hi'
  have g := hF.arr _ (getD_mem hi' (0, 0))
  have h2 := hR _ (getD_mem (show (F.arrows.getD i (0, 0)).1 < R.length by rw [h.rows]; omega) 0)
  rw [← h1] at h2
  have e : S.getD i [] = S[i] := by simp [List.getD_eq_getElem?_getD, hi]
  rw [e] at h2
  exact h2
theorem pair_book {F : Form} {a b : Nat} (hF : F.Ok a b) (ha : a ≤ 1000) (hb : b ≤ 1000) {R : List Nat} {S : List (List Nat)} (h : BookOk F R S) (hR : ∀ r ∈ R, r ≤ 200) : F_law_pair [.d (prD R S), .d (prD R S)] = some (.d (.bool true)) :=
  pair_self (by rw [h.rows, lim]; have := hF.most; omega) (by rw [h.steps, lim]; have := hF.many; omega) fun s hs => by
    have := book_len hF h hR s hs
    rw [lim]
    omega
end FS
set_option Elab.async false
set_option linter.all false
set_option maxRecDepth 100000
set_option autoImplicit false
namespace FS
open PySem

/-! ### is_path, is_shift -/
def isPathZ (A : List (Nat × Nat)) : Nat → Nat → List Int → Bool
  | k, o, [] => decide (k = o)
  | k, o, i :: p => decide (0 ≤ i) && (decide (i < A.length) && (decide ((A.getD i.toNat (0, 0)).1 = k) && isPathZ A (A.getD i.toNat (0, 0)).2 o p))
theorem isPathZ_up {A : List (Nat × Nat)} {o : Nat} : ∀ {p : List Nat} {k : Nat}, isPathZ A k o (up p) = true ↔ IsPath A k p ∧ endN A k p = o
  | [], k => by simp [isPathZ, up, IsPath, endN]
  | i :: p, k => by
    have ih := isPathZ_up (A := A) (o := o) (p := p) (k := (A.getD i (0, 0)).2)
    have e : up (i :: p) = (i : Int) :: up p := rfl
    rw [e, isPathZ, Bool.and_eq_true, Bool.and_eq_true, Bool.and_eq_true, decide_eq_true_iff, decide_eq_true_iff, decide_eq_true_iff, Int.toNat_natCast, ih]
    constructor
    · rintro ⟨_, h1, h2, h3, h4⟩
      exact ⟨⟨by omega, h2, h3⟩, h4⟩
    · rintro ⟨⟨h1, h2, h3⟩, h4⟩
      exact ⟨by omega, by omega, h2, h3, h4⟩
theorem isPathZ_nat {A : List (Nat × Nat)} {o : Nat} : ∀ {p : List Int} {k : Nat}, isPathZ A k o p = true → ∃ q : List Nat, p = up q
  | [], k, _ => ⟨[], rfl⟩
  | i :: p, k, h => by
    rw [isPathZ, Bool.and_eq_true, Bool.and_eq_true, Bool.and_eq_true, decide_eq_true_iff] at h
    obtain ⟨q, hq⟩ := isPathZ_nat h.2.2.2
    refine ⟨i.toNat :: q, ?_⟩
    rw [hq]
    show i :: up q = (i.toNat : Int) :: up q
    rw [Int.toNat_of_nonneg h.1]
/-- the walk meets each path -/
theorem goL_mem {F : Form} {k o : Nat} : ∀ {n : Nat} {L : List (List Nat)} {p q : List Nat}, p ∈ L → IsPath F.arrows (endN F.arrows k p) q → endN F.arrows k (p ++ q) = o → q.length < n → p ++ q ∈ goL F.arrows k o n L
  | 0, L, p, q, _, _, _, hl => by omega
  | n + 1, L, p, [], hp, _, he, _ => by
    rw [List.append_nil] at he ⊢
    exact List.mem_append_left _ (List.mem_filter.mpr ⟨hp, decide_eq_true he⟩)
  | n + 1, L, p, i :: q, hp, hq, he, hl => by
    refine List.mem_append_right _ ?_
    have e : p ++ i :: q = (p ++ [i]) ++ q := by simp
    rw [e] at he ⊢
    refine goL_mem (L := nextL F.arrows k L) ?_ ?_ he (by simp at hl; omega)
    · refine List.mem_flatMap.mpr ⟨p, hp, List.mem_map.mpr ⟨i, List.mem_filter.mpr ⟨List.mem_range.mpr hq.1, decide_eq_true hq.2.1⟩, rfl⟩⟩
    · rw [endN_snoc]
      exact hq.2.2
theorem pathsN_mem {F : Form} {a b k o : Nat} (hF : F.Ok a b) (hk : k < F.kinds) {q : List Nat} (h : IsPath F.arrows k q) (he : endN F.arrows k q = o) : q ∈ pathsN F k o := by
  have h1 := isPath_len hF h
  have h2 := isPath_end hF hk h
  have := goL_mem (F := F) (k := k) (o := o) (n := F.kinds) (L := [[]]) (p := []) (q := q) List.mem_cons_self h he (by omega)
  exact this
theorem pathsN_iff {F : Form} {a b k o : Nat} (hF : F.Ok a b) (hk : k < F.kinds) {p : List Int} : isPathZ F.arrows k o p = true ↔ p ∈ (pathsN F k o).map up := by
  constructor
  · intro h
    obtain ⟨q, rfl⟩ := isPathZ_nat h
    have := isPathZ_up.mp h
    exact List.mem_map.mpr ⟨q, pathsN_mem hF hk this.1 this.2, rfl⟩
  · intro h
    obtain ⟨q, hq, rfl⟩ := List.mem_map.mp h
    exact isPathZ_up.mpr (pathsN_ok q hq)
theorem is_path_loop {F : Form} {o : Nat} {c : AV} : ∀ (p : List Int) (k : Nat), 
    loopF [4] (tName 4) l_p_is_path_1 (p.map PyData.int) [some (.d (formD F)), some (.d (nD k)), some (.d (nD o)), some c, none] = some (.rt (.d (.bool false))) ∧ isPathZ F.arrows k o p = false
    ∨ ∃ k2 : Nat, loopF [4] (tName 4) l_p_is_path_1 (p.map PyData.int) [some (.d (formD F)), some (.d (nD k)), some (.d (nD o)), some c, none] = some (.nx [some (.d (formD F)), some (.d (nD k2)), some (.d (nD o)), some c, none]) ∧ isPathZ F.arrows k o p = decide (k2 = o)
  | [], k => .inr ⟨k, rfl, rfl⟩
  | i :: p, k => by
    by_cases h0 : 0 ≤ i
    · by_cases h1 : i < F.arrows.length
      · obtain ⟨n, rfl⟩ : ∃ n : Nat, i = n := ⟨i.toNat, by omega⟩
        have e1 : atD (F.arrows.map arrD) (n : Int) = some (arrD (F.arrows.getD n (0, 0))) := atD_map (by omega) (0, 0)
        have hz : isPathZ F.arrows k o ((n : Int) :: p) = (decide ((F.arrows.getD n (0, 0)).1 = k) && isPathZ F.arrows (F.arrows.getD n (0, 0)).2 o p) := by
          rw [isPathZ, decide_eq_true h0, decide_eq_true h1, Int.toNat_natCast]
          rfl
        have h1' : n < F.arrows.length := by omega
        by_cases h2 : (F.arrows.getD n (0, 0)).1 = k
        · have ih := is_path_loop (F := F) (o := o) (c := c) p (F.arrows.getD n (0, 0)).2
          have ht : turn [4] (tName 4) l_p_is_path_1 (.int (n : Int)) [some (.d (formD F)), some (.d (nD k)), some (.d (nD o)), some c, none] = some (.nx [some (.d (formD F)), some (.d (nD (F.arrows.getD n (0, 0)).2)), some (.d (nD o)), some c, none]) := by
            simp [l_p_is_path_1, h1', e1, h2, -List.getD_eq_getElem?_getD]
          rw [hz, decide_eq_true h2, Bool.true_and, List.map_cons, loopF_nx ht]
          exact ih
        · have h2' : ¬ ((F.arrows.getD n (0, 0)).1 : Int) = k := by omega
          have ht : turn [4] (tName 4) l_p_is_path_1 (.int (n : Int)) [some (.d (formD F)), some (.d (nD k)), some (.d (nD o)), some c, none] = some (.rt (.d (.bool false))) := by
            simp [l_p_is_path_1, h1', e1, h2, h2', -List.getD_eq_getElem?_getD]
          refine .inl ⟨by rw [List.map_cons, loopF_rt ht], ?_⟩
          rw [hz, decide_eq_false h2]
          rfl
      · refine .inl ⟨?_, by rw [isPathZ, decide_eq_false h1]; simp⟩
        rw [List.map_cons, loopF_rt]
        simp [l_p_is_path_1, h0, h1]
    · refine .inl ⟨?_, by rw [isPathZ, decide_eq_false h0]; simp⟩
      rw [List.map_cons, loopF_rt]
      simp [l_p_is_path_1, h0]
theorem is_path_eq {F : Form} {k o : Nat} {p : List Int} : F_p_is_path [.d (formD F), .d (nD k), .d (nD o), .d (iD p)] = some (.d (.bool (isPathZ F.arrows k o p))) := by
  rcases is_path_loop (F := F) (o := o) (c := .d (iD p)) p k with ⟨h1, h2⟩ | ⟨k2, h1, h2⟩
  · simp [F_p_is_path, b_p_is_path, h1, h2]
  · rw [h2]
    by_cases hk : k2 = o
    · simp [F_p_is_path, b_p_is_path, h1, hk]
    · have hk' : ¬ (k2 : Int) = o := by omega
      simp [F_p_is_path, b_p_is_path, h1, hk, hk']
def placeB (B : Form) (p : Int) : Bool := decide (0 ≤ p) && decide (p < B.kinds)
def wayB (B : Form) (pl : List Int) (q : Nat × Nat) (w : List Int) : Bool := isPathZ B.arrows (pl.getD q.1 0).toNat (pl.getD q.2 0).toNat w
def isShiftB (A B : Form) (pl : List Int) (ws : List (List Int)) : Bool :=
  decide (pl.length = A.kinds) && (pl.all (placeB B) && (decide (ws.length = A.arrows.length) && (List.range A.arrows.length).all fun i => wayB B pl (A.arrows.getD i (0, 0)) (ws.getD i [])))
theorem place_nat {B : Form} {pl : List Int} (h : pl.all (placeB B) = true) {k : Nat} (hk : k < pl.length) : ∃ n : Nat, pl.getD k 0 = n ∧ n < B.kinds := by
  have h1 := List.all_eq_true.mp h _ (getD_mem hk 0)
  unfold placeB at h1
  rw [Bool.and_eq_true, decide_eq_true_iff, decide_eq_true_iff] at h1
  exact ⟨(pl.getD k 0).toNat, by omega, by omega⟩
theorem is_shift_step {A B : Form} {pl : List Int} {ws : List (List Int)} {q : Nat × Nat} {w : List Int} (h1 : q.1 < pl.length) (h2 : q.2 < pl.length) (hp : pl.all (placeB B) = true) :
    turn [4, 5] (tTup [tName 4, tName 5]) l_p_is_shift_1 (.tuple [arrD q, iD w]) [some (.d (formD A)), some (.d (formD B)), some (.d (piD pl ws)), some (.d (iD pl)), none, none, none]
      = if !wayB B pl q w then some (.rt (.d (.bool false))) else some (.nx [some (.d (formD A)), some (.d (formD B)), some (.d (piD pl ws)), some (.d (iD pl)), none, none, none]) := by
  obtain ⟨m, hm, _⟩ := place_nat hp h1
  obtain ⟨n, hn, _⟩ := place_nat hp h2
  have e1 : atD (pl.map PyData.int) (q.1 : Int) = some (nD m) := by rw [atD_int h1, hm]
  have e2 : atD (pl.map PyData.int) (q.2 : Int) = some (nD n) := by rw [atD_int h2, hn]
  have e3 := is_path_eq (F := B) (k := m) (o := n) (p := w)
  unfold wayB
  rw [hm, hn, Int.toNat_natCast, Int.toNat_natCast]
  generalize isPathZ B.arrows m n w = z at *
  cases z <;> simp [l_p_is_shift_1, e1, e2, e3]
theorem is_shift_eq {A B : Form} {a b : Nat} (hA : A.Ok a b) {pl : List Int} {ws : List (List Int)} (hR : pl.length ≤ lim) : F_p_is_shift [.d (formD A), .d (formD B), .d (piD pl ws)] = some (.d (.bool (isShiftB A B pl ws))) := by
  have e1 : lcGo (tName 6) bYes c_p_is_shift_1 [some (.d (formD A)), some (.d (formD B)), some (.d (piD pl ws)), some (.d (iD pl)), none, none, none] (pl.map PyData.int) = some (pl.map fun r => PyData.bool (placeB B r)) :=
    lcGo_bool PyData.int (placeB B) pl fun r _ => by
      unfold placeB
      by_cases hr : 0 ≤ r
      · exact ⟨_, rfl, by simp [c_p_is_shift_1, hr]⟩
      · exact ⟨_, rfl, by simp [c_p_is_shift_1, hr]⟩
  have e2 := fAll_map (p := placeB B) (xs := pl)
  unfold isShiftB
  by_cases h1 : pl.length = A.kinds
  · have h1' : (pl.length : Int) = A.kinds := by omega
    have hR' := hR
    rw [h1] at hR'
    cases h2 : pl.all (placeB B) with
    | false => rw [h2] at e2; simp [F_p_is_shift, b_p_is_shift, h1, h1', e1, e2, hR, hR']
    | true =>
      rw [h2] at e2
      by_cases h3 : ws.length = A.arrows.length
      · have h3' : (ws.length : Int) = A.arrows.length := by omega
        have hl := loopF_find (w := [4, 5]) (t := tTup [tName 4, tName 5]) (b := l_p_is_shift_1) (fun i => PyData.tuple [arrD (A.arrows.getD i (0, 0)), iD (ws.getD i [])]) [some (.d (formD A)), some (.d (formD B)), some (.d (piD pl ws)), some (.d (iD pl)), none, none, none]
          (fun i => !wayB B pl (A.arrows.getD i (0, 0)) (ws.getD i [])) (.d (.bool false)) (List.range A.arrows.length) (by
            intro i hi
            have hi := List.mem_range.mp hi
            have g := hA.arr _ (getD_mem hi (0, 0))
            exact is_shift_step (by omega) (by omega) h2)
        rw [any_not, ← zipD_range (0, 0) [] h3] at hl
        generalize ((List.range A.arrows.length).all fun i => wayB B pl (A.arrows.getD i (0, 0)) (ws.getD i [])) = z at *
        cases z <;> simp only [Bool.not_false, Bool.not_true, Bool.false_eq_true, if_true, if_false] at hl <;> simp [F_p_is_shift, b_p_is_shift, h1, h1', e1, e2, hR, hR', h3, h3', hl]
      · have h3' : ¬ (ws.length : Int) = A.arrows.length := by omega
        simp [F_p_is_shift, b_p_is_shift, h1, h1', e1, e2, hR, hR', h3, h3']
  · have h1' : ¬ (pl.length : Int) = A.kinds := by omega
    simp [F_p_is_shift, b_p_is_shift, h1, h1']
theorem isShift_ok {A B : Form} {pl : List Nat} {ws : List (List Nat)} (h : ShiftOk A B pl ws) : isShiftB A B (up pl) (ws.map up) = true := by
  unfold isShiftB
  rw [Bool.and_eq_true, Bool.and_eq_true, Bool.and_eq_true]
  refine ⟨decide_eq_true (by rw [up_len, h.places]), ?_, decide_eq_true (by rw [List.length_map, h.ways]), ?_⟩
  · refine List.all_eq_true.mpr fun r hr => ?_
    obtain ⟨n, hn, rfl⟩ := List.mem_map.mp hr
    have := h.lt n hn
    unfold placeB
    rw [Bool.and_eq_true]
    exact ⟨decide_eq_true (by omega), decide_eq_true (by omega)⟩
  · refine List.all_eq_true.mpr fun i hi => ?_
    have hi := List.mem_range.mp hi
    unfold wayB
    rw [getD_ups, getD_up, getD_up, Int.toNat_natCast, Int.toNat_natCast]
    exact isPathZ_up.mpr (h.path i hi)
theorem is_shift_true {A B : Form} {a b : Nat} (hA : A.Ok a b) (ha : a ≤ 1000) {pl : List Nat} {ws : List (List Nat)} (h : ShiftOk A B pl ws) : F_p_is_shift [.d (formD A), .d (formD B), .d (prD pl ws)] = some (.d (.bool true)) := by
  have := is_shift_eq (B := B) (ws := ws.map up) hA (show (up pl).length ≤ lim by rw [up_len, h.places, lim]; have := hA.most; omega)
  rw [prD_up, isShift_ok h] at this
  exact this

/-! ### in a list, slices -/
theorem cmpNotIn_iff {p : Prop} [Decidable p] {a b : RV} {x : D} {ys : List D} (hx : a.val = some x) (hy : b.val = some (.list ys)) (nx : nest 40 x = true) (ny : ∀ y ∈ ys, nest 40 y = true) (h : x ∈ ys ↔ p) : cmpNotIn a b = some (.d (.bool (!decide p))) := by
  unfold cmpNotIn
  rw [hx, hy]
  simp only
  have n1 : nest 50 x = true := nest_le (by decide) nx
  have n2 : nest 50 (.list ys) = true := by
    simp only [nest]
    exact nests_of fun y hy => nest_le (by decide) (ny y hy)
  rw [if_pos ⟨nest_shaped n1, nest_shaped n2⟩]
  have h2 : (ys.any fun z => PyData.eqv z x) = decide p := by
    by_cases hp : p
    · rw [decide_eq_true hp]
      exact List.any_eq_true.mpr ⟨x, h.mpr hp, (nest_eqv 40 x 40 x nx nx).mpr rfl⟩
    · rw [decide_eq_false hp]
      refine Bool.eq_false_iff.mpr fun ht => hp (h.mp ?_)
      obtain ⟨z, hz, he⟩ := List.any_eq_true.mp ht
      rw [← (nest_eqv 40 z 40 x (ny z hz) nx).mp he]
      exact hz
  rw [h2]
theorem cutL_map {α β : Type} {f : α → β} {xs : List α} {lo hi : Option Int} : cutL (xs.map f) lo hi = (cutL xs lo hi).map f := by
  simp [cutL, List.map_take, List.map_drop]
theorem cutL_le {α : Type} {xs : List α} {lo hi : Option Int} : (cutL xs lo hi).length ≤ xs.length := by
  simp only [cutL, List.length_take, List.length_drop]
  omega
section
variable {xs ys : List D} {p : List Int} {z : Int} {lo hi : Option Int}
@[simp] theorem opCut_cur : opCut (.cur xs) lo hi = some (.new (cutL xs lo hi)) := rfl
@[simp] theorem opCut_tup : opCut (.d (.tuple xs)) lo hi = some (.d (.tuple (cutL xs lo hi))) := rfl
@[simp] theorem opCut_iD : opCut (.d (iD p)) lo hi = some (.d (iD (cutL p lo hi))) := by
  show some (RV.d (.tuple (cutL (p.map PyData.int) lo hi))) = _
  rw [cutL_map]
  rfl
@[simp] theorem opAdd_cn (h : xs.length + ys.length ≤ lim) : opAdd (.cur xs) (.new ys) = some (.new (xs ++ ys)) := if_pos h
@[simp] theorem opAdd_nc (h : xs.length + ys.length ≤ lim) : opAdd (.new xs) (.cur ys) = some (.new (xs ++ ys)) := if_pos h
@[simp] theorem opAdd_nn (h : xs.length + ys.length ≤ lim) : opAdd (.new xs) (.new ys) = some (.new (xs ++ ys)) := if_pos h
theorem opAdd_iD1 (h : p.length < lim) : opAdd (.d (iD p)) (.d (.tuple [.int z])) = some (.d (iD (p ++ [z]))) := by
  unfold iD
  rw [opAdd_tup (by simp; omega)]
  simp
end
theorem nest_iD {n : Nat} {p : List Int} : nest (n + 1) (iD p) = true := by
  simp only [iD, nest]
  exact nests_map fun x _ => nest_int
theorem iD_inj {p q : List Int} : iD p = iD q ↔ p = q := by
  unfold iD
  rw [PyData.tuple.injEq]
  exact map_inj fun x y h => PyData.int.inj h
end FS
set_option Elab.async false
set_option linter.all false
set_option maxRecDepth 100000
set_option autoImplicit false
/-! The meaning of blocks that write into a list that stands in a list. -/
namespace FS
open PySem
/-- [h for t in xs], h a new list each time -/
def lcNew (t : TF) (h : EF) (e : Env) : List D → Option (List (List D))
  | [] => some []
  | x :: xs => match t x e with
    | some e1 => (match h e1 with
      | some (.new y) => (match lcNew t h e xs with
        | some r => some (y :: r)
        | none => none)
      | _ => none)
    | none => none
def wr3 (c c' : Int) (v : D) (xss : List (List D)) : List (List D) :=
  if xss = [] then xss else if xss.getD (c % (xss.length : Int)).toNat [] = [] then xss
  else xss.set (c % (xss.length : Int)).toNat ((xss.getD (c % (xss.length : Int)).toNat []).set (c' % ((xss.getD (c % (xss.length : Int)).toNat []).length : Int)).toNat v)
def shp3 (xss : List (List D)) : Prop := SeqAt.shaped (.list (xss.map PyData.list)) = true ∧ ∀ xs ∈ xss, SeqAt.shaped (.list xs) = true
open Classical in
noncomputable def sNest3 (z : ZF) (h f3 : EF) (b3 b4 b5 : BF) (fc fq fv : EF) (f : SF) : SF := fun e =>
  match z e with
  | some xs => (match lcNew (tName 6) h (forget [6] e) xs with
    | some xss => (match f3 (e.set 4 none) with
      | some (.d x5) => (match b4 (putS (e.set 4 none) 5 (.d x5)) with
        | some false => (match b5 (putS (e.set 4 none) 5 (.d x5)) with
          | some false => (match b3 (putS (e.set 4 none) 5 (.d x5)) with
            | some true => (match fc (putS (e.set 4 none) 5 (.d x5)) with
              | some (.d (.int c)) => (match fq ((putS (e.set 4 none) 5 (.d x5)).set 6 none) with
                | some (.d (.int c')) => (match fv ((putS (e.set 4 none) 5 (.d x5)).set 6 none) with
                  | some (.d v) => if xs.length ≤ lim ∧ 6 < e.length ∧ shp3 xss then f (putS ((putS (e.set 4 none) 5 (.d x5)).set 6 none) 4 (.own ((wr3 c c' v xss).map PyData.list))) else none
                  | _ => none)
                | _ => none)
              | _ => none)
            | _ => none)
          | _ => none)
        | _ => none)
      | _ => none)
    | none => none)
  | none => none

/-- a list that nobody changes, and a new one -/
def opAddF : RV → RV → Option RV
  | .d (.list xs), .new ys => if xs.length + ys.length ≤ lim then some (.new (xs ++ ys)) else none
  | _, _ => none
/-! ### the judgement JN: a nest in a slot -/
abbrev NF := Env → List (List D) → Option (Env × List (List D))
abbrev NEF := Env → List (List D) → Option D
abbrev NBF := Env → List (List D) → Option Bool
abbrev NRF := Env → List (List D) → Option Out
@[simp] def nOf (fa : EF) : NEF := fun e _ => match fa e with
  | some (.d x) => some x
  | _ => none
@[simp] def nBin (f : RV → RV → Option RV) (fa fb : NEF) : NEF := fun e xss => match fa e xss with
  | some u => (match fb e xss with
    | some w => (match f (.d u) (.d w) with
      | some (.d z) => some z
      | _ => none)
    | none => none)
  | none => none
@[simp] def nLen : NEF := fun _ xss => some (.int xss.length)
/-- the item at a place, if it is there -/
def nIx (fk : NEF) (e : Env) (xss : List (List D)) : Option Nat := match fk e xss with
  | some (.int k) => ixN xss.length k
  | _ => none
@[simp] def nLenAt (fk : NEF) : NEF := fun e xss => match nIx fk e xss with
  | some j => some (.int (xss.getD j []).length)
  | none => none
@[simp] def nAt2 (fk fj : NEF) : NEF := fun e xss => match nIx fk e xss with
  | some j => (match fj e xss with
    | some (.int k) => (match ixN (xss.getD j []).length k with
      | some l => (xss.getD j [])[l]?
      | none => none)
    | _ => none)
  | none => none
@[simp] def ntOf (b : BF) : NBF := fun e _ => b e
@[simp] def ntAnd (b c : NBF) : NBF := fun e xss => match b e xss with
  | some true => c e xss
  | some false => some false
  | none => none
/-- chart[k] != [] -/
noncomputable def ntNil (fk : NEF) : NBF := fun e xss => match nIx fk e xss with
  | some j => if SeqAt.shaped (.list (xss.getD j [])) = true then some (!(xss.getD j []).isEmpty) else none
  | none => none
@[simp] def nSkip : NF := fun e xss => some (e, xss)
@[simp] def nSeq (f g : NF) : NF := fun e xss => match f e xss with
  | some (e', xss') => g e' xss'
  | none => none
@[simp] def nSet (j : Nat) (fa : NEF) : NF := fun e xss => match fa e xss with
  | some x => some (putS e j (.d x), xss)
  | none => none
@[simp] def nIf (b : NBF) (f g : NF) : NF := fun e xss => match b e xss with
  | some true => f e xss
  | some false => g e xss
  | none => none
/-- chart.append(a new list) -/
@[simp] def nApp (fa : EF) : NF := fun e xss => match fa e with
  | some (.new ys) => if xss.length < lim then some (e, xss ++ [ys]) else none
  | _ => none
/-- chart[k].append(v) -/
@[simp] def nAppAt (fk fv : NEF) : NF := fun e xss => match nIx fk e xss with
  | some j => (match fv e xss with
    | some v => if (xss.getD j []).length < lim then some (e, xss.set j (xss.getD j [] ++ [v])) else none
    | none => none)
  | none => none
/-- chart[k][l] = v -/
@[simp] def nPutAt (fk fl fv : NEF) : NF := fun e xss => match fv e xss with
  | some v => (match nIx fk e xss with
    | some j => (match fl e xss with
      | some (.int k) => (match ixN (xss.getD j []).length k with
        | some l => some (e, xss.set j ((xss.getD j []).set l v))
        | none => none)
      | _ => none)
    | none => none)
  | none => none
def nLoop (w : List Nat) (t : TF) (f : NF) : List D → NF
  | [], e, xss => some (e, xss)
  | x :: xs, e, xss => match t x e with
    | some e1 => (match f e1 xss with
      | some (e2, yss) => nLoop w t f xs (forget w e2) yss
      | none => none)
    | none => none
def nFor (w : List Nat) (z : ZF) (t : TF) (f : NF) : NF := fun e xss => match z e with
  | some xs => nLoop w t f xs (forget w e) xss
  | none => none
@[simp] def nrSeq (f : NF) (g : NRF) : NRF := fun e xss => match f e xss with
  | some (e', xss') => g e' xss'
  | none => none
@[simp] def nrEnd (i : Nat) (g : SF) : NRF := fun e xss => g (putS e i (.own (xss.map PyData.list)))
@[simp] def sStart (i : Nat) (g : NRF) : SF := fun e => if i < e.length then g (e.set i none) [] else none
/-- [a, b][k] -/
@[simp] def nPick (fa fb fk : NEF) : NEF := fun e xss => match fa e xss with
  | some x => (match fb e xss with
    | some y => (match fk e xss with
      | some (.int k) => if k = 0 then some x else if k = 1 then some y else none
      | _ => none)
    | none => none)
  | none => none
@[simp] def nNever : NF := fun _ _ => none
@[simp] def sNever : SF := fun _ => none
@[simp] def sPop (i : Nat) : SF := fun e => match getS e i with
  | some (.own (x :: xs)) => some (.nx (putS e i (.own (x :: xs).dropLast)))
  | _ => none
/-- the first reading that covers the state -/
def sAlt (f g : SF) : SF := fun e => match f e with
  | some o => some o
  | none => g e
/-- two readings of one block, by a number that a slot holds -/
noncomputable def sCaseN (i : Nat) (n : Int) (f g : SF) : SF := fun e => match getS e i with
  | some (.d (.int k)) => if k = n then f e else g e
  | _ => g e
end FS
set_option Elab.async false
set_option linter.all false
set_option maxRecDepth 100000
set_option maxHeartbeats 4000000
set_option autoImplicit false
/-! A list of the frame whose items are lists of the frame that still change. -/
namespace FS
open PySem L2 PyProof.Rows PySem.Spec

/-- lists of the frame, unlocked, at these places -/
def Inns (G : Gd) (H0 H : Hp) : List Addr → List (List D) → Prop
  | [], [] => True
  | b :: bs, xs :: xss => H0 b = none ∧ (∃ vs, H b = some (.lst vs) ∧ Dens G H xs vs) ∧ Inns G H0 H bs xss
  | _, _ => False
structure Nest (G : Gd) (H0 H : Hp) (a : Addr) (bs : List Addr) (xss : List (List D)) : Prop where
  free : H0 a = none
  top : H a = some (.lst (bs.map V.ref))
  nd : (a :: bs).Nodup
  inn : Inns G H0 H bs xss
/-- the frame's other lists are others -/
def Away (e : Env) (σ : L2.St) (as : List Addr) : Prop := ∀ (j : Nat) (c : AV) (u : Addr), e[j]? = some (some c) → isOwn c = true → σ[j]? = some (some (.ref u)) → u ∉ as

section
variable {G : Gd} {H0 H H' : Hp} {e : Env} {σ : L2.St}
theorem Inns.congr (st : Stab H H') : ∀ {bs : List Addr} {xss : List (List D)}, (∀ b ∈ bs, H' b = H b) → Inns G H0 H bs xss → Inns G H0 H' bs xss
  | [], [], _, h => h
  | b :: bs, xs :: xss, c, ⟨h1, ⟨vs, h2, h3⟩, h4⟩ => ⟨h1, ⟨vs, by rw [c b List.mem_cons_self]; exact h2, h3.stab st⟩, Inns.congr st (fun x hx => c x (List.mem_cons_of_mem _ hx)) h4⟩
  | [], _ :: _, _, h => h.elim
  | _ :: _, [], _, h => h.elim
theorem Inns.there : ∀ {bs : List Addr} {xss : List (List D)}, Inns G H0 H bs xss → ∀ b ∈ bs, ∃ o, H b = some o
  | [], [], _, b, h => by cases h
  | c :: bs, xs :: xss, ⟨_, ⟨vs, h2, _⟩, h4⟩, b, h => by
    rcases List.mem_cons.mp h with z | z
    · subst z; exact ⟨_, h2⟩
    · exact Inns.there h4 b z
  | [], _ :: _, h, _, _ => h.elim
  | _ :: _, [], h, _, _ => h.elim
theorem Inns.none0 : ∀ {bs : List Addr} {xss : List (List D)}, Inns G H0 H bs xss → ∀ b ∈ bs, H0 b = none
  | [], [], _, b, h => by cases h
  | c :: bs, xs :: xss, ⟨h1, _, h4⟩, b, h => by
    rcases List.mem_cons.mp h with z | z
    · subst z; exact h1
    · exact Inns.none0 h4 b z
  | [], _ :: _, h, _, _ => h.elim
  | _ :: _, [], h, _, _ => h.elim
theorem Inns.same (s : Same H H') {bs : List Addr} {xss : List (List D)} (h : Inns G H0 H bs xss) : Inns G H0 H' bs xss :=
  h.congr (FS.Same.stab s) fun b hb => by
    obtain ⟨o, z⟩ := h.there b hb
    rw [z, s b o z]
theorem Inns.len : ∀ {bs : List Addr} {xss : List (List D)}, Inns G H0 H bs xss → bs.length = xss.length
  | [], [], _ => rfl
  | c :: bs, xs :: xss, ⟨_, _, h4⟩ => by rw [List.length_cons, List.length_cons, Inns.len h4]
  | [], _ :: _, h => h.elim
  | _ :: _, [], h => h.elim
theorem Inns.snoc {b : Addr} {xs : List D} (h1 : H0 b = none) {vs : List V} (h2 : H b = some (.lst vs)) (h3 : Dens G H xs vs) : ∀ {bs : List Addr} {xss : List (List D)}, Inns G H0 H bs xss → Inns G H0 H (bs ++ [b]) (xss ++ [xs])
  | [], [], _ => ⟨h1, ⟨vs, h2, h3⟩, trivial⟩
  | c :: bs, ys :: xss, ⟨g1, g2, g3⟩ => ⟨g1, g2, Inns.snoc h1 h2 h3 g3⟩
  | [], _ :: _, h => h.elim
  | _ :: _, [], h => h.elim
theorem Inns.get : ∀ {bs : List Addr} {xss : List (List D)} {i : Nat}, Inns G H0 H bs xss → i < xss.length → ∃ b vs, bs[i]? = Option.some b ∧ H0 b = none ∧ H b = Option.some (.lst vs) ∧ Dens G H (xss.getD i []) vs
  | [], [], i, _, hi => by cases hi
  | c :: bs, ys :: xss, 0, ⟨g1, ⟨vs, g2, g3⟩, _⟩, _ => ⟨c, vs, rfl, g1, g2, g3⟩
  | c :: bs, ys :: xss, i + 1, ⟨_, _, g3⟩, hi => by
    obtain ⟨b, vs, h1, h2, h3, h4⟩ := Inns.get (i := i) g3 (by simpa using hi)
    exact ⟨b, vs, by simpa using h1, h2, h3, by simpa using h4⟩
  | [], _ :: _, _, h, _ => h.elim
  | _ :: _, [], _, h, _ => h.elim
/-- one of them is changed -/
theorem Inns.put {ys : List D} {ws : List V} : ∀ {bs : List Addr} {xss : List (List D)} {i : Nat} {b : Addr} {vs : List V}, Inns G H0 H bs xss → bs.Nodup → bs[i]? = Option.some b → H b = Option.some (.lst vs) → Dens G H ys ws →
    Inns G H0 (upd H b (.lst ws)) bs (xss.set i ys)
  | c :: bs, xs :: xss, 0, b, vs, ⟨g1, ⟨vs', g2, g3⟩, g4⟩, nd, hb, k, d => by
    have z : c = b := by simpa using hb
    subst z
    have st := Stab.upd (o := .lst ws) k
    refine ⟨g1, ⟨ws, upd_same, d.stab st⟩, g4.congr st fun x hx => upd_ne fun z => ?_⟩
    subst z
    exact (List.nodup_cons.mp nd).1 hx
  | c :: bs, xs :: xss, i + 1, b, vs, ⟨g1, ⟨vs', g2, g3⟩, g4⟩, nd, hb, k, d => by
    have st := Stab.upd (o := .lst ws) k
    have hb' : bs[i]? = Option.some b := by simpa using hb
    have ne : c ≠ b := fun z => by
      subst z
      exact (List.nodup_cons.mp nd).1 (List.mem_of_getElem? hb')
    exact ⟨g1, ⟨vs', by rw [upd_ne ne]; exact g2, g3.stab st⟩, Inns.put g4 (List.nodup_cons.mp nd).2 hb' k d⟩
  | [], [], _, _, _, _, _, hb, _, _ => by simp at hb
  | [], _ :: _, _, _, _, h, _, _, _, _ => h.elim
  | _ :: _, [], _, _, _, h, _, _, _, _ => h.elim
theorem Inns.dp : ∀ {bs : List Addr} {xss : List (List D)}, Inns G H0 H bs xss → PyData.canLayAll0 (xss.map PyData.list) = true → DpAll G.K H (bs.map V.ref) (xss.map PyData.list)
  | [], [], _, _ => .nil
  | c :: bs, xs :: xss, ⟨_, ⟨vs, g2, g3⟩, g4⟩, hc => by
    have c' : (PyData.list xs).canLay0 = true ∧ PyData.canLayAll0 (xss.map PyData.list) = true := by simpa [PyData.canLayAll0] using hc
    exact .cons (.lst (SqL.of g2) (Dens.dp xs vs (by simpa [PyData.canLay0] using c'.1) g3)) (Inns.dp g4 c'.2)
  | [], _ :: _, h, _ => h.elim
  | _ :: _, [], h, _ => h.elim
theorem Nest.same {a : Addr} {bs : List Addr} {xss : List (List D)} (s : Same H H') (h : Nest G H0 H a bs xss) : Nest G H0 H' a bs xss := ⟨h.free, s _ _ h.top, h.nd, h.inn.same s⟩
theorem Nest.put {a : Addr} {bs : List Addr} {xss : List (List D)} {i : Nat} {b : Addr} {vs ws : List V} {ys : List D} (h : Nest G H0 H a bs xss) (hb : bs[i]? = some b) (k : H b = some (.lst vs)) (d : Dens G H ys ws) : Nest G H0 (upd H b (.lst ws)) a bs (xss.set i ys) := by
  have ne : a ≠ b := fun z => by
    subst z
    exact (List.nodup_cons.mp h.nd).1 (List.mem_of_getElem? hb)
  exact ⟨h.free, by rw [upd_ne ne]; exact h.top, h.nd, h.inn.put (List.nodup_cons.mp h.nd).2 hb k d⟩
theorem Nest.dp {a : Addr} {bs : List Addr} {xss : List (List D)} (h : Nest G H0 H a bs xss) (hs : SeqAt.shaped (.list (xss.map PyData.list)) = true) : Dp G.K H (.ref a) (.list (xss.map PyData.list)) :=
  .lst (SqL.of h.top) (h.inn.dp (by simpa [PyData.canLay0] using lay_of_shaped hs))
theorem lock_all {X : Cx} {C : Addr} {pins : List (Addr × Obj)} {s : Shared} : ∀ {bs : List Addr} {xss : List (List D)} {H : Hp}, bs.Nodup → Inns (gd X C) H0 H bs xss → Inv X pins σ H s →
    ∃ H', Inv X pins σ H' s ∧ Stab H H' ∧ (∀ c, c ∉ bs → H' c = H c) ∧ Dens (gd X C) H' (xss.map PyData.list) (bs.map V.ref)
  | [], [], H, _, _, I => ⟨H, I, Stab.refl H, fun _ _ => rfl, dens_nil.mpr rfl⟩
  | b :: bs, xs :: xss, H, nd, ⟨g1, ⟨vs, g2, g3⟩, g4⟩, I => by
    obtain ⟨od, I1⟩ := I.lock g2 trivial
    have st := Stab.upd (o := .frz od (.lst vs)) g2
    have nb := (List.nodup_cons.mp nd).1
    have g4' := g4.congr (H' := upd H b (.frz od (.lst vs))) st fun x hx => upd_ne fun z => nb (by rw [← z]; exact hx)
    obtain ⟨H', I2, st2, oth, d⟩ := lock_all (List.nodup_cons.mp nd).2 g4' I1
    refine ⟨H', I2, st.trans st2, fun c hc => ?_, ?_⟩
    · simp only [List.mem_cons, not_or] at hc
      rw [oth c hc.2, upd_ne hc.1]
    · have e1 : H' b = some (.frz od (.lst vs)) := by rw [oth b nb]; exact upd_same
      exact Dens.cons (den_list.mpr ⟨b, vs, od, rfl, e1, g3.stab (st.trans st2)⟩) d
  | [], _ :: _, _, _, h, _ => h.elim
  | _ :: _, [], _, _, h, _ => h.elim
/-- what is not tracked may change -/
theorem Rel.away (R : Rel G H0 e σ H) {as : List Addr} (aw : Away e σ as) (st : Stab H H') (s0 : Same H0 H') (oth : ∀ c, c ∉ as → H' c = H c) : Rel G H0 e σ H' where
  same := s0
  len := R.len
  slot := fun j b q => by
    obtain ⟨u, q1, q2⟩ := R.slot j b q
    refine ⟨u, q1, ?_⟩
    cases b with
    | d x => exact q2.stab st
    | own xs =>
      obtain ⟨a', vs, e1, n1, k1, r1⟩ := q2
      subst e1
      exact ⟨a', vs, rfl, n1, by rw [oth _ (aw j _ _ q rfl q1)]; exact k1, r1.stab st⟩
    | bor xs => obtain ⟨a', vs, e1, k1, r1⟩ := q2; exact ⟨a', vs, e1, k1, r1.stab st⟩
    | owd ks =>
      obtain ⟨a', vs, e1, n1, k1, r1⟩ := q2
      subst e1
      exact ⟨a', vs, rfl, n1, by rw [oth _ (aw j _ _ q rfl q1)]; exact k1, r1.stab st⟩
    | bod ks => obtain ⟨a', vs, e1, k1, r1⟩ := q2; exact ⟨a', vs, e1, k1, r1.stab st⟩
    | obj fs => obtain ⟨a', dx, gs, e1, k1, r1⟩ := q2; exact ⟨a', dx, gs, e1, st _ _ k1 trivial, objs_stab st r1⟩
  apart := R.apart
/-- a slot takes what is not told -/
theorem Rel.blind (R : Rel G H0 e σ H) (i : Nat) (v : Option V) : Rel G H0 (e.set i none) (σ.set i v) H := by
  have back : ∀ {m : Nat} {c : AV}, (e.set i Option.none)[m]? = some (some c) → i ≠ m ∧ e[m]? = some (some c) := fun {m c} q => by
    by_cases hj : i = m
    · subst hj
      by_cases hl : i < e.length
      · rw [List.getElem?_set_self hl] at q; cases q
      · rw [List.getElem?_eq_none (by rw [List.length_set]; omega)] at q; cases q
    · rw [List.getElem?_set_ne hj] at q
      exact ⟨hj, q⟩
  refine ⟨R.same, by rw [List.length_set, List.length_set]; exact R.len, fun j b q => ?_, fun j k a b u hn h1 h2 o1 o2 s1 s2 => ?_⟩
  · obtain ⟨hj, q⟩ := back q
    obtain ⟨u, q1, q2⟩ := R.slot j b q
    exact ⟨u, by rw [List.getElem?_set_ne hj]; exact q1, q2⟩
  · obtain ⟨hj, q1⟩ := back h1
    obtain ⟨hk, q2⟩ := back h2
    rw [List.getElem?_set_ne hj] at s1
    rw [List.getElem?_set_ne hk] at s2
    exact R.apart j k a b u hn q1 q2 o1 o2 s1 s2
theorem Away.blind {as : List Addr} (h : Away e σ as) (i : Nat) (v : Option V) : Away (e.set i none) (σ.set i v) as := fun j c u q o w => by
  by_cases hj : i = j
  · subst hj
    by_cases hl : i < e.length
    · rw [List.getElem?_set_self hl] at q; cases q
    · rw [List.getElem?_eq_none (by rw [List.length_set]; omega)] at q; cases q
  · rw [List.getElem?_set_ne hj] at q w
    exact h j c u q o w
theorem Away.data {as : List Addr} (h : Away e σ as) (i : Nat) (x : D) (v : Option V) : Away (putS e i (.d x)) (σ.set i v) as := fun j c u q o w => by
  rcases set_at q with ⟨_, y⟩ | ⟨z, q⟩
  · cases y; cases o
  · rw [List.getElem?_set_ne fun x => z x.symm] at w
    exact h j c u q o w
theorem Away.fresh (R : Rel G H0 e σ H) {as : List Addr} (h : ∀ a ∈ as, H a = none) : Away e σ as := fun j c u q o w hu => by
  obtain ⟨v, q1, q2⟩ := R.slot j c q
  rw [w] at q1
  cases q1
  have n := h u hu
  cases c with
  | d x => cases o
  | bor xs => cases o
  | bod ks => cases o
  | obj fs => cases o
  | own xs => obtain ⟨a', vs, e1, n1, k1, r1⟩ := q2; cases e1; rw [n] at k1; cases k1
  | owd xs => obtain ⟨a', vs, e1, n1, k1, r1⟩ := q2; cases e1; rw [n] at k1; cases k1
end

section
variable {X : Cx} {C : Addr} {H0 : Hp} {W : List Nat}
theorem lcn_run {vs0 : List Nat} {z : ZF} {t : TF} {h : EF} (hW : ∀ j : Nat, j ∈ W → j ∈ vs0) {σ : L2.St} {H : Hp} {Q : VK} {e : Env} {xs : List D} {xss : List (List D)} (R : Rel (gd X C) H0 e σ H) (hx : z e = some xs) (hlen : xs.length ≤ lim) (hys : lcNew t h (forget vs0 e) xs = some xss)
    (q : ∀ a bs H', Same H H' → (∀ b ∈ a :: bs, H b = none) → Nest (gd X C) H0 H' a bs xss → Q (.ref a) H') :
    tLc (tJC (gd X C) H0 z) (tJG (gd X C) H0 W t) (tJT (gd X C) H0 bYes) (tJ (gd X C) H0 h) vs0 σ H Q := by
  refine ⟨e, xs, R, hx, fun J H1 s1 wk L nL => ?_⟩
  refine ⟨fun i m H' => m = xs.length - i ∧ i ≤ xs.length ∧ Same H1 H' ∧ ∃ bs yss rest, H' L = some (.lst (bs.map V.ref)) ∧ (L :: bs).Nodup ∧ (∀ b ∈ bs, H1 b = none) ∧ Inns (gd X C) H0 H' bs yss ∧ bs.length ≤ i ∧ lcNew t h (forget vs0 e) (xs.drop i) = some rest ∧ xss = yss ++ rest,
    ⟨xs.length, by simp, Nat.zero_le _, FS.Same.upd nL, [], [], xss, upd_same, by simp, by simp, trivial, Nat.zero_le _, hys, rfl⟩, ?_⟩
  rintro i m H' ⟨rfl, hi, sm, bs, yss, rest, hL, nd, fr, inn, hacc, hgo, hcat⟩
  obtain ⟨w1, w2⟩ := wk H' sm
  by_cases hlt : i < xs.length
  · have hx : xs[i]? = some xs[i] := List.getElem?_eq_getElem hlt
    obtain ⟨g1, g2⟩ := w1 i _ hx
    rw [List.drop_eq_getElem_cons hlt] at hgo
    unfold lcNew at hgo
    split at hgo
    · rename_i e1 he1
      refine .inr ⟨g1, fun H3 => Same H1 H3 ∧ ∃ bs yss rest, H3 L = some (.lst (bs.map V.ref)) ∧ (L :: bs).Nodup ∧ (∀ b ∈ bs, H1 b = none) ∧ Inns (gd X C) H0 H3 bs yss ∧ bs.length ≤ i + 1 ∧ lcNew t h (forget vs0 e) (xs.drop (i + 1)) = some rest ∧ xss = yss ++ rest,
        fun H3 ⟨a1, a2⟩ => ⟨xs.length - (i + 1), by omega, rfl, hlt, a1, a2⟩, fun v H3 hy => ?_⟩
      obtain ⟨s3, dv⟩ := g2 v H3 hy
      have s13 := sm.trans s3
      refine ⟨_, xs[i], e1, ((R.go s1).wipe vs0).go s13, dv, he1, fun σ2 R2 f2 l2 => ⟨wipe_far f2 l2 hW, ?_⟩⟩
      refine ⟨e1, true, R2, rfl, fun H4 s4 => ?_⟩
      refine iteT ?_
      split at hgo
      · rename_i y hy1
        split at hgo
        · rename_i rs hrs
          cases hgo
          refine ⟨e1, .new y, R2.go s4, hy1, fun u H5 s5 r5 => ?_⟩
          obtain ⟨b, ws, eu, nb, kb, db⟩ := r5
          subst eu
          have s45 := (s3.trans s4)
          have k4 := s45 _ _ hL
          have k5 := s5 _ _ k4
          have s15 := (s13.trans s4).trans s5
          have nb1 : H1 b = none := (s13.trans s4).free nb
          have neL : b ≠ L := fun z => by subst z; rw [k4] at nb; cases nb
          have nbs : b ∉ bs := fun z => by
            obtain ⟨o, ho⟩ := (inn.same s45).there b z
            rw [ho] at nb
            cases nb
          have st := Stab.upd (o := .lst ((bs ++ [b]).map V.ref)) k5
          have i5 : Inns (gd X C) H0 H5 (bs ++ [b]) (yss ++ [y]) := ((inn.same s45).same s5).snoc (R2.same.free ((s4).free nb)) kb db
          refine ⟨bs.map V.ref, k5, by rw [List.length_map]; exact lim_lt (by omega), FS.Same.put s15 nL, bs ++ [b], yss ++ [y], rs, ?_, ?_, ?_, ?_, by rw [List.length_append, List.length_singleton]; omega, hrs, by rw [hcat]; simp⟩
          · rw [upd_same, List.map_append]; rfl
          · rw [← List.cons_append, List.nodup_append]
            refine ⟨nd, by simp, fun x hx y hy => ?_⟩
            rw [List.mem_singleton] at hy
            subst hy
            rcases List.mem_cons.mp hx with z | z
            · subst z; exact fun w => neL w.symm
            · intro w; subst w; exact nbs z
          · intro x hx
            rcases List.mem_append.mp hx with z | z
            · exact fr x z
            · rw [List.mem_singleton] at z; subst z; exact nb1
          · rw [show [V.ref b] = [b].map V.ref from rfl, ← List.map_append]
            refine i5.congr st fun x hx => upd_ne fun z => ?_
            subst z
            rcases List.mem_append.mp hx with w | w
            · exact (List.nodup_cons.mp nd).1 w
            · rw [List.mem_singleton] at w; exact neL w.symm
        · cases hgo
      · cases hgo
    · cases hgo
  · have hi' : i = xs.length := by omega
    subst hi'
    rw [List.drop_length] at hgo
    cases hgo
    refine .inl ⟨w2, q L bs H' (s1.trans sm) (fun b hb => ?_) ⟨R.same.free (s1.free nL), hL, nd, by rw [hcat, List.append_nil]; exact inn⟩⟩
    rcases List.mem_cons.mp hb with z | z
    · subst z; exact s1.free nL
    · exact s1.free (fr b z)
theorem jss_caseN {W1 W2 : List Nat} {sts : List Stmt} {i : Nat} {n : Int} {f g : SF} (h1 : JSs X C H0 W1 sts f) (h2 : JSs X C H0 W2 sts g) : JSs X C H0 (W1 ++ W2) sts (sCaseN i n f g) := by
  constructor
  intro pn s σ H D I ⟨e, o, R, hf, q⟩
  unfold sCaseN at hf
  split at hf
  · split at hf
    · exact h1.run pn s σ H D I ⟨e, o, R, hf, q.less fun j z => List.mem_append_left _ z⟩
    · exact h2.run pn s σ H D I ⟨e, o, R, hf, q.less fun j z => List.mem_append_right _ z⟩
  · exact h2.run pn s σ H D I ⟨e, o, R, hf, q.less fun j z => List.mem_append_right _ z⟩
end
end FS
set_option Elab.async false
set_option linter.all false
set_option maxRecDepth 100000
set_option maxHeartbeats 4000000
set_option autoImplicit false
/-! JN: statements over a list of lists that still change. -/
namespace FS
open PySem L2 PyProof.Rows PySem.Spec

structure NS (G : Gd) (H0 : Hp) (i : Nat) (e : Env) (σ : L2.St) (H : Hp) (xss : List (List D)) : Prop where
  rel : Rel G H0 e σ H
  lt : i < e.length
  no : e[i]? = some none
  ex : ∃ a bs, Nest G H0 H a bs xss ∧ Away e σ (a :: bs) ∧ σ[i]? = some (some (.ref a))
def tN (G : Gd) (H0 : Hp) (i : Nat) (W : List Nat) (f : NF) : TS := fun D σ H => ∃ e xss e' xss', NS G H0 i e σ H xss ∧ f e xss = some (e', xss') ∧ ∀ σ' H', NS G H0 i e' σ' H' xss' → Far W σ σ' → Stab H H' → σ'.length = σ.length → D.nx σ' H'
def tNR (G : Gd) (H0 : Hp) (i : Nat) (W : List Nat) (f : NRF) : TS := fun D σ H => ∃ e xss o, NS G H0 i e σ H xss ∧ f e xss = some o ∧ OutD G H0 W σ H o D
def tNE (G : Gd) (H0 : Hp) (i : Nat) (f : NEF) : TE := fun σ H Q => ∃ e xss d, NS G H0 i e σ H xss ∧ f e xss = some d ∧ ∀ v H', Same H H' → Den G H' d v → Q v H'
def tNT (G : Gd) (H0 : Hp) (i : Nat) (f : NBF) : TT := fun σ H Q => ∃ e xss b, NS G H0 i e σ H xss ∧ f e xss = some b ∧ ∀ H', Same H H' → Q b H'
section
variable {G : Gd} {H0 H H' : Hp} {e : Env} {σ : L2.St} {i : Nat} {xss : List (List D)}
theorem NS.go (h : NS G H0 i e σ H xss) (s : Same H H') : NS G H0 i e σ H' xss := by
  obtain ⟨a, bs, n, aw, hs⟩ := h.ex
  exact ⟨h.rel.go s, h.lt, h.no, a, bs, n.same s, aw, hs⟩
/-- a plain slot is given data -/
theorem NS.put (h : NS G H0 i e σ H xss) {j : Nat} (hj : j ≠ i) {x : D} {v : V} (d : Den G H x v) : NS G H0 i (putS e j (.d x)) (σ.set j (some v)) H xss := by
  obtain ⟨a, bs, n, aw, hs⟩ := h.ex
  have R := h.rel.putA (Same.refl H) (r := .d x) (v := v) (av := .d x) (show Res G H0 H H (.d x) v from d) rfl j
  exact ⟨R, by unfold putS; rw [List.length_set]; exact h.lt, by unfold putS; rw [List.getElem?_set_ne hj]; exact h.no, a, bs, n, aw.data j x (some v), by rw [List.getElem?_set_ne hj]; exact hs⟩
end
section
variable {X : Cx} {C : Addr} {H0 : Hp} {i : Nat} {W W1 W2 : List Nat} {a b : Expr} {st : Stmt} {sts : List Stmt} {fa fb : NEF} {pos p : Pos}
theorem ne_of {f : EF} (h : JE X C H0 a f) : PE X a (tNE (gd X C) H0 i (nOf f)) := PE.weak h fun σ H Q ⟨e, xss, d, N, hf, q⟩ => by
  unfold nOf at hf
  split at hf
  · rename_i x hx
    cases hf
    exact ⟨e, .d d, N.rel, hx, fun v H1 s1 r1 => q v H1 s1 r1⟩
  · cases hf
theorem nbin_run {r : R2} {f : RV → RV → Option RV} (ho : Op2 (gd X C) r f) {σ : L2.St} {H : Hp} {Q : VK} (q : tNE (gd X C) H0 i (nBin f fa fb) σ H Q) : tOp r (tNE (gd X C) H0 i fa) (tNE (gd X C) H0 i fb) σ H Q := by
  obtain ⟨e, xss, d, N, hf, q⟩ := q
  unfold nBin at hf
  split at hf
  · rename_i u hu
    split at hf
    · rename_i w hw
      split at hf
      · rename_i z hz
        cases hf
        refine ⟨e, xss, u, N, hu, fun v H1 s1 d1 => ⟨e, xss, w, N.go s1, hw, fun v2 H2 s2 d2 => ?_⟩⟩
        exact ho H0 H H1 H2 (.d u) (.d w) (.d d) v v2 (show Den _ _ _ _ from d1.stab (FS.Same.stab s2)) d2 hz Q fun v3 H3 s3 r3 => q v3 H3 ((s1.trans s2).trans s3) r3
      · cases hf
    · cases hf
  · cases hf
theorem ne_op {op : Operator} {r : R2} {f : RV → RV → Option RV} (ho : OpR X (binaryOp op) r) (hf : Op2 (gd X C) r f) (ha : PE X a (tNE (gd X C) H0 i fa)) (hb : PE X b (tNE (gd X C) H0 i fb)) : PE X (.BinOp a op b pos) (tNE (gd X C) H0 i (nBin f fa fb)) :=
  PE.weak (pe_op ho ha hb) fun _ _ _ q => nbin_run hf q
theorem ne_mod (ha : PE X a (tNE (gd X C) H0 i fa)) (hb : PE X b (tNE (gd X C) H0 i fb)) : PE X (.BinOp a .Mod b pos) (tNE (gd X C) H0 i (nBin opMod fa fb)) := ne_op op_mod (o_mod (G := gd X C)) ha hb
theorem ne_add (ha : PE X a (tNE (gd X C) H0 i fa)) (hb : PE X b (tNE (gd X C) H0 i fb)) : PE X (.BinOp a .Add b pos) (tNE (gd X C) H0 i (nBin opAdd fa fb)) := ne_op op_addA (o_add (G := gd X C)) ha hb
theorem ne_len (hg : Gl X "len") (hm : X.mg "len" = none) (ha : PE X a (tVar i)) (h1 : St1 X a := by rfl) : PE X (.Call (.Name "len" p) [a] [] pos) (tNE (gd X C) H0 i nLen) :=
  PE.weak (pe_callB call_lenA hg hm PySem.boot_len (pa_cons ha pa_nil h1) (he := h1)) fun σ H Q ⟨e, xss, d, N, hf, q⟩ => by
  cases hf
  obtain ⟨l, bs, n, aw, hs⟩ := N.ex
  refine ⟨_, hs, .inr ⟨l, _, rfl, .inl (SqL.of n.top), ?_⟩⟩
  rw [List.length_map, n.inn.len]
  exact q _ H (Same.refl H) (den_int.mpr rfl)
/-- chart[k]: the inner list -/
theorem nix_run {fk : NEF} {σ : L2.St} {H : Hp} {e : Env} {xss : List (List D)} (N : NS (gd X C) H0 i e σ H xss) {j : Nat} (hj : nIx fk e xss = some j) {Q : VK}
    (q : ∀ l bs b vs H', Same H H' → Nest (gd X C) H0 H' l bs xss → Away e σ (l :: bs) → σ[i]? = some (some (.ref l)) → j < xss.length → bs[j]? = some b → H0 b = none → H' b = some (.lst vs) → Dens (gd X C) H' (xss.getD j []) vs → Q (.ref b) H') :
    tOp (rIx X.K) (tVar i) (tNE (gd X C) H0 i fk) σ H Q := by
  obtain ⟨l, bs, n, aw, hs⟩ := N.ex
  unfold nIx at hj
  split at hj
  · rename_i kk hkk
    refine ⟨_, hs, e, xss, .int kk, N, hkk, fun v H1 s1 d1 => ?_⟩
    have ev := den_int.mp d1
    subst ev
    have n1 := n.same s1
    have hlt : j < xss.length := by
      unfold FS.ixN at hj
      split at hj
      · split at hj
        · cases hj; omega
        · cases hj
      · split at hj
        · cases hj; omega
        · cases hj
    obtain ⟨b, vs, hb, h0, kb, db⟩ := n1.inn.get hlt
    refine .inl ⟨l, _, _, .ref b, rfl, rfl, SqL.of n1.top, ?_, q l bs b vs H1 s1 n1 aw hs hlt hb h0 kb db⟩
    show (FS.ixN _ _).bind _ = _
    rw [List.length_map, n1.inn.len, hj]
    show (bs.map V.ref)[j]? = _
    rw [List.getElem?_map, hb]
    rfl
  · cases hj
theorem ne_lenAt {k : Expr} {fk : NEF} {ps : Pos} (hg : Gl X "len") (hm : X.mg "len" = none) (ha : PE X a (tVar i)) (hk : PE X k (tNE (gd X C) H0 i fk)) (hp : PlainIx k := by exact fun _ _ => rfl) (h1 : St1 X (.Subscript a k ps) := by rfl) :
    PE X (.Call (.Name "len" p) [.Subscript a k ps] [] pos) (tNE (gd X C) H0 i (nLenAt fk)) :=
  PE.weak (pe_callB call_lenA hg hm PySem.boot_len (pa_cons (pe_ix ix_seq ha hk hp) pa_nil h1) (he := h1)) fun σ H Q ⟨e, xss, d, N, hf, q⟩ => by
  unfold nLenAt at hf
  split at hf
  · rename_i j hj
    cases hf
    refine nix_run N hj fun l bs b vs H1 s1 n1 aw hs hlt hb h0 kb db => .inr ⟨b, vs, rfl, .inl (SqL.of kb), ?_⟩
    rw [db.len]
    exact q _ H1 s1 (den_int.mpr rfl)
  · cases hf
theorem ne_at2 {k m : Expr} {fk fm : NEF} {ps : Pos} (ha : PE X a (tVar i)) (hk : PE X k (tNE (gd X C) H0 i fk)) (hm : PE X m (tNE (gd X C) H0 i fm)) (hp : PlainIx k := by exact fun _ _ => rfl) (hp2 : PlainIx m := by exact fun _ _ => rfl) :
    PE X (.Subscript (.Subscript a k ps) m pos) (tNE (gd X C) H0 i (nAt2 fk fm)) :=
  PE.weak (pe_ix ix_seq (pe_ix ix_seq ha hk hp) hm hp2) fun σ H Q ⟨e, xss, d, N, hf, q⟩ => by
  unfold nAt2 at hf
  split at hf
  · rename_i j hj
    split at hf
    · rename_i kk hkk
      split at hf
      · rename_i l hl
        refine nix_run N hj fun l' bs b vs H1 s1 n1 aw hs hlt hb h0 kb db => ⟨e, xss, .int kk, N.go s1, hkk, fun v H2 s2 d2 => ?_⟩
        have ev := den_int.mp d2
        subst ev
        obtain ⟨u, hu, du⟩ := (db.stab (FS.Same.stab s2)).get hf
        refine .inl ⟨b, vs, _, u, rfl, rfl, SqL.of (s2 _ _ kb), ?_, q u H2 (s1.trans s2) du⟩
        show (FS.ixN _ _).bind _ = _
        rw [db.len, hl]
        exact hu
      · cases hf
    · cases hf
  · cases hf
/-! ### tests -/
theorem nt_of {f : BF} (h : JT X C H0 a f) : PT X a (tNT (gd X C) H0 i (ntOf f)) := PT.weak h fun σ H Q ⟨e, xss, d, N, hf, q⟩ => ⟨e, d, N.rel, hf, q⟩
theorem nt_and {f g : NBF} (ha : PT X a (tNT (gd X C) H0 i f)) (hb : PT X b (tNT (gd X C) H0 i g)) : PT X (.BoolOp .And [a, b] pos) (tNT (gd X C) H0 i (ntAnd f g)) := PT.weak (PW.pt (pw_and ha (pw_and1 hb))) fun σ H Q ⟨e, xss, d, N, hf, q⟩ => by
  unfold ntAnd at hf
  split at hf
  · rename_i h1
    exact ⟨e, xss, true, N, h1, fun H1 s1 => iteT ⟨e, xss, d, N.go s1, hf, fun H2 s2 => q H2 (s1.trans s2)⟩⟩
  · rename_i h1
    cases hf
    exact ⟨e, xss, false, N, h1, fun H1 s1 => iteF (q H1 s1)⟩
  · cases hf
theorem eqv_nilN {xs : List D} : (!PyData.eqv (.list xs) (.list [])) = !xs.isEmpty := by
  cases xs <;> simp [PyData.eqv, PyData.eqvAll]
theorem nt_nil {k : Expr} {fk : NEF} {ps p2 : Pos} (hu : X.A.units + 64 < cLine) (ha : PE X a (tVar i)) (hk : PE X k (tNE (gd X C) H0 i fk)) (hp : PlainIx k := by exact fun _ _ => rfl) :
    PT X (.Compare (.Subscript a k ps) [.NotEq] [.List [] p2] pos) (tNT (gd X C) H0 i (ntNil fk)) :=
  PT.weak (pt_cmpR (op_neD hu) (pe_ix ix_seq ha hk hp) (je_lst (X := X) (C := C) (H0 := H0) jz_nil) (nomark _)) fun σ H Q ⟨e, xss, d, N, hf, q⟩ => by
  unfold ntNil at hf
  split at hf
  · rename_i j hj
    split at hf
    · rename_i hsh
      cases hf
      refine nix_run N hj fun l' bs b vs H1 s1 n1 aw hs hlt hb h0 kb db => ⟨e, .new [], (N.go s1).rel, rfl, fun v H2 s2 r2 => ?_⟩
      have sh0 : SeqAt.shaped (.list []) = true := by decide
      refine ⟨.list (xss.getD j []), .list [], .lst (SqL.of (s2 _ _ kb)) (Dens.dp _ vs (by simpa [PyData.canLay0] using lay_of_shaped hsh) (db.stab (FS.Same.stab s2))), r2.dp rfl (lay_of_shaped sh0), hsh, sh0, _, rfl, ?_⟩
      rw [eqv_nilN]
      exact q H2 (s1.trans s2)
    · cases hf
  · cases hf
end
end FS
set_option Elab.async false
set_option linter.all false
set_option maxRecDepth 100000
set_option maxHeartbeats 4000000
set_option autoImplicit false
/-! JN: the statements. -/
namespace FS
open PySem L2 PyProof.Rows PySem.Spec

theorem forget_len : ∀ (w : List Nat) (e : Env), (forget w e).length = e.length
  | [], _ => rfl
  | j :: r, e => by show (forget r (e.set j none)).length = _; rw [forget_len r, List.length_set]
theorem forget_sub : ∀ (w : List Nat) (e : Env) (j : Nat) (a : AV), (forget w e)[j]? = some (some a) → e[j]? = some (some a)
  | [], _, _, _, h => h
  | i :: r, e, j, a, h => by
    have h1 := forget_sub r (e.set i none) j a h
    by_cases hj : i = j
    · subst hj
      by_cases hl : i < e.length
      · rw [List.getElem?_set_self hl] at h1; cases h1
      · rw [List.getElem?_eq_none (by rw [List.length_set]; omega)] at h1; cases h1
    · rwa [List.getElem?_set_ne hj] at h1
theorem forget_none : ∀ (w : List Nat) (e : Env) (j : Nat), e[j]? = some none → (forget w e)[j]? = some none
  | [], _, _, h => h
  | i :: r, e, j, h => by
    refine forget_none r (e.set i none) j ?_
    by_cases hj : i = j
    · subst hj
      have hl := (List.getElem?_eq_some_iff.mp h).1
      rw [List.getElem?_set_self hl]
    · rwa [List.getElem?_set_ne hj]
section
variable {G : Gd} {H0 H H' : Hp} {e : Env} {σ : L2.St} {i : Nat} {xss : List (List D)}
theorem NS.forget (h : NS G H0 i e σ H xss) (w : List Nat) : NS G H0 i (forget w e) σ H xss := by
  obtain ⟨a, bs, n, aw, hs⟩ := h.ex
  exact ⟨h.rel.forget w, by rw [forget_len]; exact h.lt, forget_none w e i h.no, a, bs, n, fun j c u q => aw j c u (forget_sub w e j c q), hs⟩
/-- one inner list is changed -/
theorem NS.upd {l : Addr} {bs : List Addr} {j : Nat} {b : Addr} {vs ws : List V} {ys : List D} (R : Rel G H0 e σ H) (hlt : i < e.length) (no : e[i]? = some none) (n : Nest G H0 H l bs xss) (aw : Away e σ (l :: bs)) (hs : σ[i]? = some (some (.ref l)))
    (hb : bs[j]? = some b) (h0 : H0 b = none) (kb : H b = some (.lst vs)) (d : Dens G H ys ws) : NS G H0 i e σ (L2.upd H b (.lst ws)) (xss.set j ys) := by
  have st := Stab.upd (o := .lst ws) kb
  refine ⟨R.away aw st (FS.Same.put R.same h0) (fun c hc => upd_ne fun w => ?_), hlt, no, l, bs, n.put hb kb d, aw, hs⟩
  subst w
  exact hc (List.mem_cons_of_mem _ (List.mem_of_getElem? hb))
end
/-- a target that stores data only -/
def TDat (W : List Nat) (t : TF) : Prop := ∀ d e e1, t d e = some e1 → e1.length = e.length ∧ (∀ j, j ∉ W → e1[j]? = e[j]?) ∧ ∀ j c, j ∈ W → e1[j]? = some (some c) → isOwn c = false
def TDats (W : List Nat) (ts : List TF) : Prop := ∀ ds e e1, tAll ts ds e = some e1 → e1.length = e.length ∧ (∀ j, j ∉ W → e1[j]? = e[j]?) ∧ ∀ j c, j ∈ W → e1[j]? = some (some c) → isOwn c = false
theorem td_name {i : Nat} : TDat [i] (tName i) := fun d e e1 h => by
  cases h
  refine ⟨by unfold putS; rw [List.length_set], fun j hj => ?_, fun j c hj hc => ?_⟩
  · unfold putS
    rw [List.getElem?_set_ne fun z => hj (by rw [z]; exact List.mem_singleton.mpr rfl)]
  · rcases set_at hc with ⟨_, y⟩ | ⟨z, _⟩
    · cases y; rfl
    · exact absurd (List.mem_singleton.mp hj) z
theorem tds_nil : TDats [] [] := fun ds e e1 h => by
  cases ds with
  | nil => cases h; exact ⟨rfl, fun _ _ => rfl, fun _ _ hj => by cases hj⟩
  | cons d ds => cases h
theorem tds_cons {W1 W2 : List Nat} {t : TF} {ts : List TF} (h1 : TDat W1 t) (h2 : TDats W2 ts) : TDats (W1 ++ W2) (t :: ts) := fun ds e e1 h => by
  cases ds with
  | nil => cases h
  | cons d ds =>
    unfold tAll at h
    split at h
    · rename_i e2 he2
      obtain ⟨a1, a2, a3⟩ := h1 d e e2 he2
      obtain ⟨b1, b2, b3⟩ := h2 ds e2 e1 h
      refine ⟨b1.trans a1, fun j hj => ?_, fun j c hj hc => ?_⟩
      · rw [List.mem_append, not_or] at hj
        rw [b2 j hj.2, a2 j hj.1]
      · by_cases hw : j ∈ W2
        · exact b3 j c hw hc
        · rw [b2 j hw] at hc
          rcases List.mem_append.mp hj with z | z
          · exact a3 j c z hc
          · exact absurd z hw
    · cases h
theorem td_tup {W : List Nat} {ts : List TF} (h : TDats W ts) : TDat W (tTup ts) := fun d e e1 q => by
  unfold tTup at q
  split at q
  · exact h _ e e1 q
  · cases q
section
variable {X : Cx} {C : Addr} {H0 : Hp} {i : Nat} {W W1 W2 : List Nat} {a b : Expr} {st : Stmt} {sts : List Stmt} {fa fb fk fv fl : NEF} {f g : NF} {pos p : Pos}
abbrev JN (X : Cx) (C : Addr) (H0 : Hp) (i : Nat) (W : List Nat) (st : Stmt) (f : NF) : Prop := PS X st (tN (gd X C) H0 i W f)
abbrev JNs (X : Cx) (C : Addr) (H0 : Hp) (i : Nat) (W : List Nat) (sts : List Stmt) (f : NF) : Prop := PSs X sts (tN (gd X C) H0 i W f)
theorem jns_nil : JNs X C H0 i [] [] nSkip := PSs.weak pss_nil fun D σ H ⟨e, xss, e', xss', N, hf, q⟩ => by
  cases hf
  exact q σ H N (Far.refl _ _) (Stab.refl H) rfl
theorem jns_one (h : JN X C H0 i W st f) : JNs X C H0 i W [st] f := pss_one h
theorem jns_cons (h1 : JN X C H0 i W1 st f) (h2 : JNs X C H0 i W2 sts g) : JNs X C H0 i (W1 ++ W2) (st :: sts) (nSeq f g) := PSs.weak (pss_cons h1 h2) fun D σ H ⟨e, xss, e', xss', N, hf, q⟩ => by
  unfold nSeq at hf
  split at hf
  · rename_i e1 x1 h1
    exact ⟨e, xss, e1, x1, N, h1, fun σ1 H1 N1 f1 s1 l1 => ⟨e1, x1, e', xss', N1, hf, fun σ2 H2 N2 f2 s2 l2 => q σ2 H2 N2 (f1.trans f2) (s1.trans s2) (l2.trans l1)⟩⟩
  · cases hf
theorem jn_set {j : Nat} (h : PS X st (tAsg (tNE (gd X C) H0 i fa) (gName j))) (hj : j ≠ i := by decide) : JN X C H0 i [j] st (nSet j fa) := PS.weak h fun D σ H ⟨e, xss, e', xss', N, hf, q⟩ => by
  unfold nSet at hf
  split at hf
  · rename_i x hx
    cases hf
    exact ⟨e, xss, x, N, hx, fun v H1 s1 d1 => q _ H1 ((N.go s1).put hj d1) (Far.put (List.mem_singleton.mpr rfl)) (FS.Same.stab s1) (by rw [List.length_set])⟩
  · cases hf
theorem jn_if {c : Expr} {bt : NBF} {as bs : List Stmt} (hc : PT X c (tNT (gd X C) H0 i bt)) (h1 : JNs X C H0 i W1 as f) (h2 : JNs X C H0 i W2 bs g) : JN X C H0 i (W1 ++ W2) (.If c as bs pos) (nIf bt f g) := PS.weak (ps_if hc h1 h2) fun D σ H ⟨e, xss, e', xss', N, hf, q⟩ => by
  unfold nIf at hf
  split at hf
  · rename_i hb
    exact ⟨e, xss, true, N, hb, fun H1 s1 => iteT ⟨e, xss, e', xss', N.go s1, hf, fun σ2 H2 N2 f2 s2 l2 => q σ2 H2 N2 (f2.mono fun j z => List.mem_append_left _ z) ((FS.Same.stab s1).trans s2) l2⟩⟩
  · rename_i hb
    exact ⟨e, xss, false, N, hb, fun H1 s1 => iteF ⟨e, xss, e', xss', N.go s1, hf, fun σ2 H2 N2 f2 s2 l2 => q σ2 H2 N2 (f2.mono fun j z => List.mem_append_right _ z) ((FS.Same.stab s1).trans s2) l2⟩⟩
  · cases hf
/-- chart.append(a new list) -/
theorem jn_app {ff : EF} (h : PS X st (tDrop (tBM X.K "list" rAppend (tVar i) (tCons (tJ (gd X C) H0 ff) tNil)))) : JN X C H0 i [] st (nApp ff) := PS.weak h fun D σ H ⟨e, xss, e', xss', N, hf, q⟩ => by
  unfold nApp at hf
  split at hf
  · rename_i ys hys
    split at hf
    · rename_i hl
      cases hf
      obtain ⟨l, bs, n, aw, hs⟩ := N.ex
      refine ⟨_, hs, ty_own n.top, e, .new ys, N.rel, hys, fun v H1 s1 r1 => ?_⟩
      obtain ⟨b, vs, ev, nb, kb, db⟩ := r1
      subst ev
      have n1 := n.same s1
      have ne : b ≠ l := fun z => by subst z; rw [n.top] at nb; cases nb
      have nbs : b ∉ bs := fun z => by
        obtain ⟨o, ho⟩ := n.inn.there b z
        rw [ho] at nb
        cases nb
      have st := Stab.upd (o := .lst (bs.map V.ref ++ [.ref b])) n1.top
      refine ⟨l, _, .ref b, rfl, rfl, n1.top, by rw [List.length_map, n.inn.len]; exact lim_lt hl, ?_⟩
      have R1 := N.rel.go s1
      refine q σ _ ⟨R1.away aw st (FS.Same.put R1.same n.free) (fun c hc => upd_ne fun z => hc (by rw [z]; exact List.mem_cons_self)), N.lt, N.no, l, bs ++ [b], ⟨n.free, by rw [upd_same, List.map_append]; rfl, ?_, ?_⟩, ?_, hs⟩ (Far.refl _ _) ((FS.Same.stab s1).trans st) rfl
      · rw [← List.cons_append, List.nodup_append]
        refine ⟨n.nd, by simp, fun x hx y hy => ?_⟩
        rw [List.mem_singleton] at hy
        subst hy
        rcases List.mem_cons.mp hx with z | z
        · subst z; exact fun w => ne w.symm
        · intro w; subst w; exact nbs z
      · refine ((n1.inn).snoc (N.rel.same.free nb) kb db).congr st fun x hx => upd_ne fun z => ?_
        subst z
        rcases List.mem_append.mp hx with w | w
        · exact (List.nodup_cons.mp n.nd).1 w
        · rw [List.mem_singleton] at w; exact ne w.symm
      · intro j c u qq oo ww hu
        rw [← List.cons_append] at hu
        rcases List.mem_append.mp hu with z | z
        · exact aw j c u qq oo ww z
        · exact Away.fresh (as := [b]) N.rel (fun a ha => by rw [List.mem_singleton.mp ha]; exact nb) j c u qq oo ww z
    · cases hf
  · cases hf
/-- chart[k].append(v) -/
theorem jn_appAt (h : PS X st (tDrop (tBM X.K "list" rAppend (tOp (rIx X.K) (tVar i) (tNE (gd X C) H0 i fk)) (tCons (tNE (gd X C) H0 i fv) tNil)))) : JN X C H0 i [] st (nAppAt fk fv) := PS.weak h fun D σ H ⟨e, xss, e', xss', N, hf, q⟩ => by
  unfold nAppAt at hf
  split at hf
  · rename_i j hj
    split at hf
    · rename_i v hv
      split at hf
      · rename_i hl
        cases hf
        refine nix_run N hj fun l bs b vs H1 s1 n1 aw hs hlt hb h0 kb db => ⟨ty_own kb, e, xss, v, N.go s1, hv, fun u H2 s2 d2 => ?_⟩
        have kb2 := s2 _ _ kb
        refine ⟨b, vs, u, rfl, rfl, kb2, by rw [db.len]; exact lim_lt hl, ?_⟩
        have s12 := s1.trans s2
        exact q σ _ (NS.upd (N.rel.go s12) N.lt N.no (n1.same s2) aw hs hb h0 kb2 ((db.stab (FS.Same.stab s2)).app (Dens.one d2))) (Far.refl _ _) ((FS.Same.stab s12).trans (Stab.upd kb2)) rfl
      · cases hf
    · cases hf
  · cases hf
/-- chart[k][l] = v -/
theorem jn_putAt (h : PS X st (tAsg (tNE (gd X C) H0 i fv) (gSub (tOp (rIx X.K) (tVar i) (tNE (gd X C) H0 i fk)) (tNE (gd X C) H0 i fl) rSetL))) : JN X C H0 i [] st (nPutAt fk fl fv) := PS.weak h fun D σ H ⟨e, xss, e', xss', N, hf, q⟩ => by
  unfold nPutAt at hf
  split at hf
  · rename_i v hv
    split at hf
    · rename_i j hj
      split at hf
      · rename_i kk hkk
        split at hf
        · rename_i l2 hl2
          cases hf
          refine ⟨e, xss, v, N, hv, fun u H1 s1 d1 => ?_⟩
          have N1 := N.go s1
          refine nix_run N1 hj fun l bs b vs H2 s2 n2 aw hs hlt hb h0 kb db => ⟨e, xss, .int kk, N1.go s2, hkk, fun w H3 s3 d3 => ?_⟩
          have ev := den_int.mp d3
          subst ev
          have kb3 := s3 _ _ kb
          have db3 := db.stab (FS.Same.stab s3)
          have s123 := (s1.trans s2).trans s3
          have du := d1.stab (FS.Same.stab (s2.trans s3))
          refine ⟨b, vs, kk, l2, rfl, rfl, kb3, by rw [db.len]; exact hl2, ?_⟩
          exact q σ _ (NS.upd (N.rel.go s123) N.lt N.no (n2.same s3) aw hs hb h0 kb3 (Dens.setAt du l2 db3)) (Far.refl _ _) ((FS.Same.stab s123).trans (Stab.upd kb3)) rfl
        · cases hf
      · cases hf
    · cases hf
  · cases hf
theorem jn_for {tg it : Expr} {body : List Stmt} {z : ZF} {t : TF} (w : List Nat) (hp : PassesOwn (model X.prog X.w) X.A X.env X.xe) (hc : X.calm = true) (hi : JI X C H0 tg it z) (hg : JG X C H0 W1 tg t) (td : TDat W1 t) (hb : JNs X C H0 i W2 body f) (hW : i ∉ W1 := by decide)
    (hs : ∀ x, foldedSetIterable it X.env x = pure x := by intro _; rfl) : JN X C H0 i (W1 ++ W2) (.For tg it body [] pos) (nFor w z t f) := PS.weak (ps_for hp hc hi hg hb hs) fun D σ H ⟨e, xss, e', xss', N, h, q⟩ => by
  unfold nFor at h
  split at h
  · rename_i xs hx
    refine ⟨e, xs, N.rel, hx, fun J H1 s1 wk => ?_⟩
    refine ⟨fun k m σ1 H2 => ∃ e1 x1, m = xs.length - k ∧ k ≤ xs.length ∧ NS (gd X C) H0 i e1 σ1 H2 x1 ∧ nLoop w t f (xs.drop k) e1 x1 = some (e', xss') ∧ Far (W1 ++ W2) σ σ1 ∧ Stab H1 H2 ∧ σ1.length = σ.length, ⟨xs.length, forget w e, xss, by simp, Nat.zero_le _, (N.go s1).forget w, h, Far.refl _ _, Stab.refl _, rfl⟩, ?_⟩
    rintro k m σ1 H2 ⟨e1, x1, rfl, hk, N1, hl, fr, st, ln⟩
    obtain ⟨w1, w2⟩ := wk H2 st N1.rel.same
    by_cases hlt : k < xs.length
    · have hx : xs[k]? = some xs[k] := List.getElem?_eq_getElem hlt
      obtain ⟨g1, g2⟩ := w1 k _ hx
      rw [List.drop_eq_getElem_cons hlt] at hl
      unfold nLoop at hl
      split at hl
      · rename_i e2 he2
        split at hl
        · rename_i e3 x3 he3
          refine .inr ⟨g1, fun σ3 H3 => ∃ e4 x4, NS (gd X C) H0 i e4 σ3 H3 x4 ∧ nLoop w t f (xs.drop (k + 1)) e4 x4 = some (e', xss') ∧ Far (W1 ++ W2) σ σ3 ∧ Stab H1 H3 ∧ σ3.length = σ.length, fun σ3 H3 ⟨e4, x4, a1, a2, a3, a4, a5⟩ => ⟨xs.length - (k + 1), by omega, e4, x4, rfl, hlt, a1, a2, a3, a4, a5⟩, fun v H3 hy => ?_⟩
          obtain ⟨s3, dv⟩ := g2 v H3 hy
          have N3 := N1.go s3
          refine ⟨e1, xs[k], e2, N3.rel, dv, he2, fun σ2 R2 f2 l2 => ?_⟩
          obtain ⟨t1, t2, t3⟩ := td _ _ _ he2
          obtain ⟨a, bs, n, aw, hs⟩ := N3.ex
          have N4 : NS (gd X C) H0 i e2 σ2 H3 x1 := ⟨R2, by rw [t1]; exact N3.lt, by rw [t2 i hW]; exact N3.no, a, bs, n, fun j c u q1 o1 q2 => by
            by_cases hj : j ∈ W1
            · rw [t3 j c hj q1] at o1; cases o1
            · rw [t2 j hj] at q1
              rw [f2 j hj] at q2
              exact aw j c u q1 o1 q2, by rw [f2 i hW]; exact hs⟩
          exact ⟨e2, x1, e3, x3, N4, he3, fun σ5 H5 N5 f5 s5 l5 => ⟨_, x3, N5.forget w, hl, fr.join ((f2.mono fun j z => List.mem_append_left _ z).join (f5.mono fun j z => List.mem_append_right _ z)), (st.trans (FS.Same.stab s3)).trans s5, l5.trans (l2.trans ln)⟩⟩
        · cases hl
      · cases hl
    · have hk' : k = xs.length := by omega
      subst hk'
      rw [List.drop_length] at hl
      cases hl
      exact .inl ⟨w2, q σ1 H2 N1 fr ((FS.Same.stab s1).trans st) ln⟩
  · cases h
/-! ### into a nest and out of it -/
theorem jnr_cons {r : NRF} (h1 : JN X C H0 i W1 st f) (h2 : PSs X sts (tNR (gd X C) H0 i W2 r)) : PSs X (st :: sts) (tNR (gd X C) H0 i (W1 ++ W2) (nrSeq f r)) := PSs.weak (pss_cons h1 h2) fun D σ H ⟨e, xss, o, N, hf, q⟩ => by
  unfold nrSeq at hf
  split at hf
  · rename_i e1 x1 he1
    exact ⟨e, xss, e1, x1, N, he1, fun σ1 H1 N1 f1 s1 l1 => ⟨e1, x1, o, N1, hf, q.move (f1.mono fun j z => List.mem_append_left _ z) s1 fun j z => List.mem_append_right _ z⟩⟩
  · cases hf
theorem jnr_end {gg : SF} (h : JSs X C H0 W sts gg) : PSs X sts (tNR (gd X C) H0 i W (nrEnd i gg)) := by
  constructor
  intro pn s σ H D I ⟨e, xss, o, Ns, hf, q⟩
  obtain ⟨a, bs, N, aw, hσ⟩ := Ns.ex
  have nd := (List.nodup_cons.mp N.nd)
  obtain ⟨H', I', st, oth, d⟩ := lock_all nd.2 N.inn I
  have s0 : Same H0 H' := fun c u hc => by
    rw [oth c fun z => by rw [N.inn.none0 c z] at hc; cases hc]
    exact Ns.rel.same c u hc
  have R1 := Ns.rel.away aw st s0 fun c hc => oth c fun z => hc (List.mem_cons_of_mem _ z)
  have R2 := R1.put (i := i) (a := .own (xss.map PyData.list)) (v := .ref a) Ns.lt ⟨a, _, rfl, N.free, by rw [oth a nd.1]; exact N.top, d⟩ fun _ j b hj q1 o1 w => aw j b a q1 o1 w List.mem_cons_self
  have e1 : σ.set i (some (.ref a)) = σ := by
    apply List.ext_getElem?
    intro j
    by_cases hj : i = j
    · subst hj
      rw [hσ, List.getElem?_set_self (by rw [← Ns.rel.len]; exact Ns.lt)]
    · rw [List.getElem?_set_ne hj]
  rw [e1] at R2
  exact h.run pn s σ H' D I' ⟨_, o, R2, hf, q.move (Far.refl _ _) st fun _ w => w⟩
theorem jss_start {r : NRF} (h1 : PS X st (tAsg (tJ (gd X C) H0 (eLst zNil)) (gName i))) (h2 : PSs X sts (tNR (gd X C) H0 i W r)) : JSs X C H0 (i :: W) (st :: sts) (sStart i r) := PSs.weak (pss_cons h1 h2) fun D σ H ⟨e, o, R, hf, q⟩ => by
  unfold sStart at hf
  split at hf
  · rename_i hl
    refine ⟨e, .new [], R, rfl, fun v H1 s1 r1 => ?_⟩
    obtain ⟨a, vs, ev, na, ka, da⟩ := r1
    subst ev
    have hv := dens_nil.mp da
    subst hv
    have R1 := (R.go s1).blind i (some (.ref a))
    refine ⟨e.set i none, [], o, ⟨R1, by rw [List.length_set]; exact hl, List.getElem?_set_self hl, a, [], ⟨R.same.free na, ka, by simp, trivial⟩, ?_, List.getElem?_set_self (by rw [← R.len]; exact hl)⟩, hf, q.move (Far.put List.mem_cons_self) (FS.Same.stab s1) fun j z => List.mem_cons_of_mem _ z⟩
    exact (Away.fresh (as := [a]) R (fun x hx => by rw [List.mem_singleton.mp hx]; exact na)).blind i (some (.ref a))
  · cases hf
theorem jns_never : JNs X C H0 i [] sts nNever := PSs.weak pss_never fun D σ H ⟨e, xss, e', xss', N, hf, q⟩ => by cases hf
theorem jss_never : JSs X C H0 [] sts sNever := PSs.weak pss_never fun D σ H ⟨e, o, R, hf, q⟩ => by cases hf
theorem jss_alt {f g : SF} (h1 : JSs X C H0 W1 sts f) (h2 : JSs X C H0 W2 sts g) : JSs X C H0 (W1 ++ W2) sts (sAlt f g) := by
  constructor
  intro pn s σ H D I ⟨e, o, R, hf, q⟩
  unfold sAlt at hf
  split at hf
  · rename_i o' ho
    cases hf
    exact h1.run pn s σ H D I ⟨e, _, R, ho, q.less fun j z => List.mem_append_left _ z⟩
  · exact h2.run pn s σ H D I ⟨e, o, R, hf, q.less fun j z => List.mem_append_right _ z⟩
theorem ne_pick {k : Expr} {p2 : Pos} (ha : PE X a (tNE (gd X C) H0 i fa)) (hb : PE X b (tNE (gd X C) H0 i fb)) (hk : PE X k (tNE (gd X C) H0 i fk)) (hp : PlainIx k := by exact fun _ _ => rfl) (s1 : starEach [a, b] X.env = (false, eval a X.env) :: starEach [b] X.env := by rfl) (s2 : starEach [b] X.env = (false, eval b X.env) :: starEach [] X.env := by rfl) :
    PE X (.Subscript (.List [a, b] p2) k pos) (tNE (gd X C) H0 i (nPick fa fb fk)) :=
  PE.weak (pe_ix ix_seq (pe_lst (pa_cons ha (pa_cons hb pa_nil s2) s1)) hk hp) fun σ H Q ⟨e, xss, d, N, hf, q⟩ => by
  unfold nPick at hf
  split at hf
  · rename_i x hx
    split at hf
    · rename_i y hy
      split at hf
      · rename_i kk hkk
        refine ⟨e, xss, x, N, hx, fun u1 H1 s1 d1 => ⟨e, xss, y, N.go s1, hy, fun u2 H2 s2 d2 => ⟨by show 2 ≤ sizeLine; decide, fun l nl => ?_⟩⟩⟩
        have s3 := FS.Same.upd (o := .lst [u1, u2]) nl
        have s123 := (s1.trans s2).trans s3
        refine ⟨e, xss, .int kk, N.go s123, hkk, fun w H4 s4 d4 => ?_⟩
        have ev := den_int.mp d4
        subst ev
        have kl := s4 _ _ (upd_same (H := H2) (a := l) (o := .lst [u1, u2]))
        have e1 := (d1.stab (FS.Same.stab ((s2.trans s3).trans s4)))
        have e2 := (d2.stab (FS.Same.stab (s3.trans s4)))
        split at hf
        · rename_i h0
          cases hf
          subst h0
          exact .inl ⟨l, _, 0, u1, rfl, rfl, SqL.of kl, rfl, q u1 H4 (s123.trans s4) e1⟩
        · split at hf
          · rename_i h1
            cases hf
            subst h1
            exact .inl ⟨l, _, 1, u2, rfl, rfl, SqL.of kl, rfl, q u2 H4 (s123.trans s4) e2⟩
          · cases hf
      · cases hf
    · cases hf
  · cases hf
theorem dens_dropLast {G : Gd} {H : Hp} : ∀ {ds : List D} {vs : List V}, Dens G H ds vs → Dens G H ds.dropLast vs.dropLast
  | [], vs, h => by rw [dens_nil.mp h]; exact dens_nil.mpr rfl
  | [d], vs, h => by
    obtain ⟨v, r, e, d1, d2⟩ := dens_cons.mp h
    rw [e, dens_nil.mp d2]
    exact dens_nil.mpr rfl
  | d :: d' :: ds, vs, h => by
    obtain ⟨v, r, e, d1, d2⟩ := dens_cons.mp h
    obtain ⟨v', r', e', d1', d2'⟩ := dens_cons.mp d2
    have ih := dens_dropLast d2
    rw [e]
    rw [e'] at ih ⊢
    exact Dens.cons d1 ih
theorem js_pop (h : PS X st (tDrop (tBM0 X.K "list" rPop (tVar i)))) : JS X C H0 [] st (sPop i) := PS.weak h fun D σ H ⟨e, o, R, h, q⟩ => by
  unfold sPop at h
  split at h
  · rename_i x xs hx
    cases h
    obtain ⟨l, vs, h1, h2, h3, h4⟩ := R.ownAt hx
    have hl := h4.len
    have hlt : vs.length - 1 < vs.length := by rw [hl]; simp
    have st := Stab.upd (o := .lst vs.dropLast) h3
    refine ⟨_, h1, ty_own h3, l, vs, vs[vs.length - 1], rfl, rfl, h3, List.getElem?_eq_getElem hlt, ?_⟩
    exact q σ _ (R.chg hx rfl h1 h2 st ⟨l, _, rfl, h2, upd_same, (dens_dropLast h4).stab st⟩) (Far.refl _ _) st
  · cases h
end
end FS
set_option Elab.async false
set_option linter.all false
set_option maxRecDepth 100000
set_option autoImplicit false
/-! The meaning of defs that may raise (one class of their own, made of one text). -/
namespace FS
open PySem

/-- a value, or the error -/
inductive RX where
  | v (r : RV)
  | ex
/-- an end of a statement, or the error -/
inductive OX where
  | o (x : Out)
  | ex
abbrev EX := Env → Option RX
abbrev SX := Env → Option OX
abbrev FX := List AV → Option RX
@[simp] def xLast (f : SF) : SX := fun e => match f e with
  | some o => some (.o o)
  | none => none
@[simp] def xSeq (f : SF) (g : SX) : SX := fun e => match f e with
  | some (.nx e') => g e'
  | some o => some (.o o)
  | none => none
/-- if c: raise .. -/
@[simp] def xRaise (c : BF) (g : SX) : SX := fun e => match c e with
  | some true => some .ex
  | some false => g e
  | none => none
/-- if f(..) == k: th -/
@[simp] def xIfCall (F : FX) (a : AF) (k : Int) (th : SF) (g : SX) : SX := fun e => match a e with
  | some rs => (match argsOf rs with
    | some as => (match F as with
      | some .ex => some .ex
      | some (.v (.d (.int i))) => if i = k then (match th e with
        | some (.rt r) => some (.o (.rt r))
        | _ => none) else g e
      | _ => none)
    | none => none)
  | none => none
@[simp] def runX (n k : Nat) (b : SX) : FX := fun vs => if vs.length = k then (match b (vs.map some ++ List.replicate (n - vs.length) none) with
  | some (.o (.rt r)) => (match r.ret with
    | some z => some (.v z)
    | none => none)
  | some (.o (.nx _)) => some (.v (.d .none))
  | some .ex => some .ex
  | _ => none) else none
/-- try: return f(..) except X: return a tuple of truths -/
@[simp] def sTryRet (i : Nat) (F : FX) (a : AF) (bs : List Bool) : SF := fun e => if e.length ≤ i then none else match a e with
  | some rs => (match argsOf rs with
    | some as => (match F as with
      | some .ex => some (.rt (.d (.tuple (bs.map PyData.bool))))
      | some (.v r) => some (.rt r)
      | none => none)
    | none => none)
  | none => none
end FS
set_option Elab.async false
set_option linter.all false
set_option maxRecDepth 100000
set_option maxHeartbeats 4000000
set_option autoImplicit false
/-! Defs that may raise: their promise, their bodies, their calls. -/
namespace FS
open PySem L2 PyProof.Rows PySem.Spec

/-- what such a def promises; CE: the class -/
def spX (G : Gd) (CE : Addr) (n : Nat) (F : FX) : Sp := fun vs H Q E => vs.length = n ∧ ∃ as r, ArgsOk G H as vs ∧ F as = some r ∧ match r with
  | .v z => ∀ v H', Same H H' → Res G H H H' z v → Q v H'
  | .ex => ∀ H', Same H H' → E (.ref CE) none H'
def tX (G : Gd) (CE : Addr) (H0 : Hp) (W : List Nat) (E : XK) (g : SX) : TS := fun D σ H => ∃ e o, Rel G H0 e σ H ∧ g e = some o ∧ match o with
  | .o x => OutD G H0 W σ H x D
  | .ex => ∀ H', Same H0 H' → E (.ref CE) none H'
abbrev JXs (X : Cx) (C CE : Addr) (H0 : Hp) (W : List Nat) (E : XK) (sts : List Stmt) (g : SX) : Prop := PSs X sts (tX (gd X C) CE H0 W E g)
section
variable {X : Cx} {C CE : Addr} {H0 : Hp} {E : XK} {W W1 W2 : List Nat} {st r : Stmt} {sts th : List Stmt} {f : SF} {g : SX} {pos : Pos}
theorem PS.nox {t : TS} (h : PS X.nox st t) : PS X st t := ⟨fun pins s σ H D I hw =>
  wpAny_mono (h.run pins s σ H D (I.wish _) hw) (fun _ _ q => q.unwish) fun _ _ z => False.elim z⟩
theorem jxs_last (h : JSs X.nox C H0 W sts f) : JXs X C CE H0 W E sts (xLast f) := PSs.weak (PSs.nox h) fun D σ H ⟨e, o, R, hg, q⟩ => by
  unfold xLast at hg
  split at hg
  · rename_i x hx
    cases hg
    exact ⟨e, x, R, hx, q⟩
  · cases hg
theorem jxs_cons (h1 : JS X.nox C H0 W1 st f) (h2 : JXs X C CE H0 W2 E sts g) : JXs X C CE H0 (W1 ++ W2) E (st :: sts) (xSeq f g) := PSs.weak (pss_cons (PS.nox h1) h2) fun D σ H ⟨e, o, R, hg, q⟩ => by
  have a1 : ∀ j : Nat, j ∈ W1 → j ∈ W1 ++ W2 := fun j z => List.mem_append_left _ z
  have a2 : ∀ j : Nat, j ∈ W2 → j ∈ W1 ++ W2 := fun j z => List.mem_append_right _ z
  unfold xSeq at hg
  split at hg
  · rename_i e' he
    refine ⟨e, .nx e', R, he, fun σ' H' R' fr s => ⟨e', o, R', hg, ?_⟩⟩
    cases o with
    | o x => exact OutD.move q (fr.mono a1) s a2
    | ex => exact q
  · rename_i x hn hx
    cases hg
    refine ⟨e, x, R, hx, ?_⟩
    cases x with
    | nx e' => exact absurd rfl (hn e')
    | rt r => exact q
    | bk e' => exact fun σ' H' R' fr s => q σ' H' R' (fr.mono a1) s
    | ct e' => exact fun σ' H' R' fr s => q σ' H' R' (fr.mono a1) s
  · cases hg
/-- if c: raise X('..') -/
theorem jxs_raise {c : Expr} {ga : BF} (hc : JT X.nox C H0 c ga) (hr : PS X r (fun _ _ H => E (.ref CE) none H)) (h2 : JXs X C CE H0 W E sts g) : JXs X C CE H0 W E (.If c [r] [] pos :: sts) (xRaise ga g) :=
  PSs.weak (pss_cons (ps_if (PT.nox hc) (pss_one hr) pss_nil) h2) fun D σ H ⟨e, o, R, hg, q⟩ => by
  unfold xRaise at hg
  split at hg
  · rename_i hb
    cases hg
    exact ⟨e, true, R, hb, fun H1 s1 => iteT (q H1 (R.same.trans s1))⟩
  · rename_i hb
    refine ⟨e, false, R, hb, fun H1 s1 => iteF ⟨e, o, R.go s1, hg, ?_⟩⟩
    cases o with
    | o x => exact OutD.move q (Far.refl _ _) (FS.Same.stab s1) fun _ z => z
    | ex => exact q
  · cases hg
/-- a def that may raise -/
theorem fn_okX {P : Program} {w : World} {K : PySem.W.Frag} {mg : Str → Option Value} {base : Heap} {x qual : Str} {st : Stmt} {f : Addr} {fd : FuncData} {N ps : List Str} {k : Nat} {C CE : Addr} {W : List Nat} {b : SX} {m n : Nat} (F : Fun K x qual st f fd) (S : FnScope N ps (defScope st)) (hm : N.length = m) (hn : ps.length = n)
    (hb : ∀ (cdv : Value) (A : Around) (outer : List PySem.Env) (s : Shared) (H : Hp) (E : XK), Room k (A.deeper (envOfC qual (defScope st) s.heap.objs.size f cdv)) → JXs (cxOf (L2.CX P w) P w K mg base N qual (defScope st) f cdv A outer s H E) C CE H W E (defBody st) b) :
    FnOk P w K mg base (L2.CX P w) (k + 1) f fd ps (spX ⟨P, w, K, C⟩ CE n (runX m n b)) := by
  refine F.okX S (fun vs H Q E h => by rw [hn]; exact h.1) fun cdv A outer s H vs Q E hr h => ?_
  obtain ⟨hl, as, r, h1, h2, q⟩ := h
  refine ⟨_, hb cdv A outer s H E hr, ?_⟩
  have hle := argsOk_len h1
  have R := rel_start (N := N) h1
  unfold runX at h2
  rw [if_pos (by rw [hle]; exact hl), ← hm] at h2
  split at h2
  · rename_i r' hr'
    split at h2
    · rename_i z hz
      cases h2
      obtain ⟨e1, _⟩ := ret_is hz
      subst e1
      exact ⟨_, .o (.rt _), R, hr', fun v H' s' r' => q v H' s' r'⟩
    · cases h2
  · rename_i e' he'
    cases h2
    exact ⟨_, .o (.nx e'), R, he', fun σ' H' R' _ _ => q _ H' R'.same q_none⟩
  · rename_i hx
    cases h2
    exact ⟨_, .ex, R, hx, fun H' s' => q H' s'⟩
  · cases h2
theorem shaped_intM {i : Int} : SeqAt.shaped (.int i) = true := by simp [SeqAt.shaped, PyData.canLay0, PyData.depth]
theorem eqv_intM {i j : Int} : PyData.eqv (.int i) (.int j) = decide (i = j) := by simp [PyData.eqv, Bool.beq_eq_decide_eq]
/-- if f(..) == k: th, f may raise; the error goes on its way -/
theorem jxs_call {CX : CXT} {k n : Nat} {fa : Addr} {fd : FuncData} {ps : List Str} {F : FX} {x : Str} {e : Expr} {es : List Expr} {ra : AF} {p pc pp : Pos} {kk : Int} {ec : Expr} (hu : X.A.units + 64 < cLine) (G : FnOk X.prog X.w X.K X.mg X.base CX k fa fd ps (spX (gd X C) CE n F)) (hr : Room k X.A) (hg : Gl X x) (hm : X.mg x = some (.ref fa))
    (hk : PySem.W.keepIn X.K (.ref fa) = true) (hb : Binds X.K fd ps []) (hx : ∀ σ, PassesAt CX X σ E) (hA : ∀ as r, F as = some r → as.length = n) (ha : JA X C H0 (e :: es) ra) (hc : PE X ec (tC (.int kk))) (hth : JSs X.nox C H0 W1 th f) (h2 : JXs X C CE H0 W2 E sts g)
    (hdb : (x == ("__debug__" : Str)) = false := by decide)
    (he : starEach (e :: es) X.env = (false, eval e X.env) :: starEach es X.env := by rfl) (hpl : (backTo pc (starEach es X.env)).any (·.1) = false := by rfl) :
    JXs X C CE H0 (W1 ++ W2) E (.If (.Compare (.Call (.Name x p) (e :: es) [] pc) [.Eq] [ec] pp) th [] pos :: sts) (xIfCall F ra kk f g) :=
  PSs.weak (pss_cons (ps_if (pt_cmpR (op_eqD hu) (pe_callS G hr hg hm hk hb (E := fun _ => E) hx ha hdb he hpl) hc (nomark _)) (PSs.nox hth) pss_nil) h2) fun D σ H ⟨en, o, R, hg, q⟩ => by
  unfold xIfCall at hg
  split at hg
  · rename_i rs hrs
    split at hg
    · rename_i as has
      split at hg
      · rename_i hF
        cases hg
        refine ⟨en, rs, R, hrs, fun vs H1 s1 r1 => ⟨by rw [resL_len r1, ← argsOf_len has]; exact hA as _ hF, as, .ex, argsOk_of has r1, hF, fun H2 s2 => q H2 ((R.same.trans s1).trans s2)⟩⟩
      · rename_i i hF
        refine ⟨en, rs, R, hrs, fun vs H1 s1 r1 => ⟨by rw [resL_len r1, ← argsOf_len has]; exact hA as _ hF, as, _, argsOk_of has r1, hF, fun v H2 s2 r2 => ?_⟩⟩
        have e1 := r_int r2
        subst e1
        have s12 := s1.trans s2
        refine ⟨.int i, .int kk, .int i, .int kk, shaped_intM, shaped_intM, _, rfl, ?_⟩
        rw [eqv_intM]
        by_cases hi : i = kk
        · rw [if_pos hi] at hg
          split at hg
          · rename_i r' hr'
            cases hg
            rw [decide_eq_true hi]
            exact iteT ⟨en, .rt r', R.go s12, hr', q⟩
          · cases hg
        · rw [if_neg hi] at hg
          rw [decide_eq_false hi]
          refine iteF ⟨en, o, R.go s12, hg, ?_⟩
          cases o with
          | o x => exact OutD.move q (Far.refl _ _) (FS.Same.stab s12) fun j z => List.mem_append_right _ z
          | ex => exact q
      · cases hg
    · cases hg
  · cases hg
/-- what isinstance is asked of the caught error: a class of the program, a built-in one -/
structure IsQ (X : Cx) (CE : Addr) (t : Expr) (b : Bool) : Prop where
  ex : ∃ (c : V) (cv : Value), (∀ (a : Addr) (pn : List (Addr × Obj)), PE (X.suite a pn) t (tC c)) ∧ (∀ u, RelV c u → u = cv) ∧ PySem.W.kitOne X.K (.ref CE) cv = some b
/-- try: return f(..) except Y as n: return (isinstance(n, T1), isinstance(n, T2), isinstance(n, T3)) -/
theorem js_try {k n i : Nat} {fa CY : Addr} {fd : FuncData} {ps : List Str} {F : FX} {x y nn : Str} {e t1 t2 t3 : Expr} {es : List Expr} {ra : AF} {p pc pr np pos' pr2 i1 i2 i3 j1 j2 j3 m1 m2 m3 ptup : Pos} {kt : Nat} {c1 c2 c3 : Bool}
    (hs : X.stack = X.env :: X.outer) (hf : X.env.frame = some X.env.locals) (hN : X.N.Nodup) (hi : X.N[i]? = some nn) (hln : X.env.kindOf nn = some .local) (hc : Names X y (.ref CY))
    (G : FnOk X.prog X.w X.K X.mg X.base (L2.CX X.prog X.w) k fa fd ps (spX (gd X C) CE n F)) (hr : Room k X.A) (hg : Gl X x) (hm : X.mg x = some (.ref fa))
    (hk : PySem.W.keepIn X.K (.ref fa) = true) (hb : Binds X.K fd ps []) (hA : ∀ as r, F as = some r → as.length = n ∧ ∀ z, r = .v z → isRet z = true)
    (ha : ∀ (pn : List (Addr × Obj)) (xe : Value → Shared → Prop), JA (X.tr pn xe) C H0 (e :: es) ra) (eC : ExcC X.K CE) (eM : PySem.W.exmOne X.K (.ref CE) (.ref CY) = some true)
    (pn1 : ∀ (a : Addr) (pn : List (Addr × Obj)), PE (X.suite a pn) (.Name nn m1) (tVar i)) (pn2 : ∀ (a : Addr) (pn : List (Addr × Obj)), PE (X.suite a pn) (.Name nn m2) (tVar i)) (pn3 : ∀ (a : Addr) (pn : List (Addr × Obj)), PE (X.suite a pn) (.Name nn m3) (tVar i))
    (q1 : IsQ X CE t1 c1) (q2 : IsQ X CE t2 c2) (q3 : IsQ X CE t3 c3) (gi : Gl X "isinstance") (mi : X.mg "isinstance" = none)
    (n1 : starEach [.Name nn m1, t1] X.env = (false, eval (.Name nn m1) X.env) :: starEach [t1] X.env) (n2 : starEach [.Name nn m2, t2] X.env = (false, eval (.Name nn m2) X.env) :: starEach [t2] X.env) (n3 : starEach [.Name nn m3, t3] X.env = (false, eval (.Name nn m3) X.env) :: starEach [t3] X.env)
    (o1 : starEach [t1] X.env = (false, eval t1 X.env) :: starEach [] X.env) (o2 : starEach [t2] X.env = (false, eval t2 X.env) :: starEach [] X.env) (o3 : starEach [t3] X.env = (false, eval t3 X.env) :: starEach [] X.env)
    (hdb : (x == ("__debug__" : Str)) = false := by decide)
    (he : starEach (e :: es) X.env = (false, eval e X.env) :: starEach es X.env := by rfl) (hpl : (backTo pc (starEach es X.env)).any (·.1) = false := by rfl) :
    JS X C H0 [] (.Try [.Return (some (.Call (.Name x p) (e :: es) [] pc)) pr] [.ExceptHandler (some (.Name y np)) (some nn)
      [.Return (some (.Tuple [.Call (.Name "isinstance" i1) [.Name nn m1, t1] [] j1, .Call (.Name "isinstance" i2) [.Name nn m2, t2] [] j2, .Call (.Name "isinstance" i3) [.Name nn m3, t3] [] j3] kt ptup)) pr2] pos'] [] [] pos) (sTryRet i F ra [c1, c2, c3]) := by
  have ask : ∀ (a : Addr) (oe : Obj) (pn : List (Addr × Obj)) (t : Expr) (b : Bool) (m ii jj : Pos), Zc (.ref CE) none oe → (∃ vs, oe.data = .fields vs) → IsQ X CE t b → PE (X.suite a ((a, oe) :: pn)) (.Name nn m) (tVar i) →
      starEach [.Name nn m, t] X.env = (false, eval (.Name nn m) X.env) :: starEach [t] X.env → starEach [t] X.env = (false, eval t X.env) :: starEach [] X.env →
      PE (X.suite a ((a, oe) :: pn)) (.Call (.Name "isinstance" ii) [.Name nn m, t] [] jj) (fun σ H Q => σ[i]? = some (some (.ref a)) ∧ Q (.bl b) H) := by
    intro a oe pn t b m ii jj hz hfl q hv s1 s2
    obtain ⟨c, cv, hp, hcv, hkit⟩ := q.ex
    refine PE.weak (pe_callB (call_isE eC hz hfl) gi mi (by decide +kernel) (pa_cons hv (pa_cons (hp a _) pa_nil s2) s1) (he := s1) (hpl := by rw [s2]; rfl)) fun σ H Q ⟨h1, h2⟩ => ?_
    exact ⟨_, h1, c, cv, b, rfl, hcv, hkit, h2⟩
  refine PS.weak (ps_try_as (i := i) (tb := fun W => tRet (tCallS (spX (gd X C) CE n F) (WE W) (tJA (gd X C) H0 ra)))
    (ts := fun a cls d => fun D σ H => cls = .ref CE ∧ d = none ∧ σ[i]? = some (some (.ref a)) ∧ ∀ q H', H q = none → Same H H' → H' q = some (.tup [.bl c1, .bl c2, .bl c3]) → D.rt (.ref q) H') (Wout := fun _ _ _ _ => False) hs hf hN hi hln hc takes0
    (fun W pn xe tk _ => pss_one (ps_ret (pe_callS (X := X.tr pn xe) G hr hg hm hk hb (fun σ => passAt tk σ) (ha pn xe) hdb he hpl))) (fun a oe cls d pn hz hfl => ?_)) fun D σ H ⟨en, o, R, hg, q⟩ => ?_
  · constructor
    intro pins s σ H D I ⟨ec, ed, h1, h2⟩
    subst ec
    subst ed
    have h3 := pss_one (ps_ret (pos := pr2) (pe_tup (x1 := kt) (pos := ptup) (pa_cons (ask a oe pn t1 c1 m1 i1 j1 hz hfl q1 (pn1 a _) n1 o1) (pa_cons (ask a oe pn t2 c2 m2 i2 j2 hz hfl q2 (pn2 a _) n2 o2) (pa_cons (ask a oe pn t3 c3 m3 i3 j3 hz hfl q3 (pn3 a _) n3 o3) pa_nil)))))
    refine h3.run pins s σ H D I ?_
    exact ⟨h1, h1, h1, by show 3 ≤ sizeLine; decide, fun q hq => h2 q _ hq (FS.Same.upd hq) upd_same⟩
  · unfold sTryRet at hg
    split at hg
    · cases hg
    rename_i hil
    split at hg
    · rename_i rs hrs
      split at hg
      · rename_i as has
        split at hg
        · rename_i hF
          cases hg
          refine ⟨en, rs, R, hrs, fun vs H1 s1 r1 => ⟨by rw [resL_len r1, ← argsOf_len has]; exact (hA as _ hF).1, as, .ex, argsOk_of has r1, hF, fun H2 s2 => ?_⟩⟩
          refine ⟨true, eM, fun _ a na => ⟨rfl, rfl, ?_, fun qq H3 nq s3 k3 => ?_⟩, fun z => Bool.noConfusion z⟩
          · exact List.getElem?_set_self (by rw [← R.len]; omega)
          · exact q _ H3 (((R.same.trans s1).trans s2).trans s3) (q_tup (SqT.of k3) (Dens.cons (den_bool.mpr rfl) (Dens.cons (den_bool.mpr rfl) (Dens.one (den_bool.mpr rfl)))))
        · rename_i r hF
          cases hg
          refine ⟨en, rs, R, hrs, fun vs H1 s1 r1 => ⟨by rw [resL_len r1, ← argsOf_len has]; exact (hA as _ hF).1, as, _, argsOk_of has r1, hF, fun v H2 s2 r2 => ?_⟩⟩
          exact q v H2 ((R.same.trans s1).trans s2) (isRet_move ((hA as _ hF).2 _ rfl) (Res.back (R.same.trans s1) r2))
        · cases hg
      · cases hg
    · cases hg
theorem arX_run {n k : Nat} {b : SX} : ∀ as r, runX n k b as = some r → as.length = k := fun as r h => by
  unfold runX at h
  split at h
  · assumption
  · cases h
theorem arX_run2 {n k : Nat} {b : SX} : ∀ as r, runX n k b as = some r → as.length = k ∧ ∀ z, r = .v z → isRet z = true := fun as r h => by
  unfold runX at h
  split at h
  · refine ⟨by assumption, ?_⟩
    split at h
    · split at h
      · rename_i z hz
        cases h
        intro z' hz'
        cases hz'
        exact (ret_is hz).2
      · cases h
    · cases h
      intro z' hz'
      cases hz'
      rfl
    · cases h
      intro z' hz'
      cases hz'
    · cases h
  · cases h
theorem isq_own {x : Str} {D : Addr} {b : Bool} {p : Pos} (hg : Gl X x) (hm : X.mg x = some (.ref D)) (hk : PySem.W.kitOne X.K (.ref CE) (.ref D) = some b) (hd : (x == ("__debug__" : Str)) = false := by decide) : IsQ X CE (.Name x p) b :=
  ⟨.ref D, .ref D, fun a pn => pe_glob (X := X.suite a pn) hg hm rfl hd, fun u h => by cases h; rfl, hk⟩
theorem isq_ty {x : Str} {Tn : String} {b : Bool} {p : Pos} (hg : Gl X x) (hm : X.mg x = none) (hv : bootBuiltins x = some (.type Tn)) (hk : PySem.W.kitOne X.K (.ref CE) (.type Tn) = some b) (hn : x ≠ "__name__" := by decide) (hd : (x == ("__debug__" : Str)) = false := by decide) : IsQ X CE (.Name x p) b :=
  ⟨.ty Tn, .type Tn, fun a pn => pe_bltn (X := X.suite a pn) (v := .ty Tn) hg hm hv rfl hn hd, fun u h => by cases h; rfl, hk⟩
end
theorem kit_ref {K : PySem.W.Frag} {CE C : Addr} {b : Bool} (hd : PySem.W.hasDictIn K C = true) (ht : PySem.W.typeIn K (.ref C) = some (.type "type")) (hs : PySem.W.subIn K (.ref CE) (.ref CE) = some true) (h : PySem.W.subIn K (.ref CE) (.ref C) = some b) : PySem.W.kitOne K (.ref CE) (.ref C) = some b := by
  obtain ⟨cd, hc, _⟩ := PySem.W.any_some hd
  have e1 : ((PySem.W.clsIn K C).isSome && PySem.W.typeIn K (.ref C) == some (.type "type")) = true := by rw [hc, ht] <;> rfl
  unfold PySem.W.kitOne
  split
  · rename_i hq
    have e : CE = C := Value.ref.inj (beq_iff_eq.mp hq)
    subst e
    rw [hs] at h
    exact h
  · show (if ((PySem.W.clsIn K C).isSome && PySem.W.typeIn K (.ref C) == some (.type "type")) = true then PySem.W.subIn K (.ref CE) (.ref C) else none) = some b
    rw [if_pos e1]
    exact h
theorem kit_typ {K : PySem.W.Frag} {CE : Addr} {T : String} {b : Bool} (hm : PySem.W.kitMeta T = true) (h : PySem.W.subIn K (.ref CE) (.type T) = some b) : PySem.W.kitOne K (.ref CE) (.type T) = some b := by
  unfold PySem.W.kitOne
  rw [if_neg (by simp)]
  show (if PySem.W.kitMeta T = true then PySem.W.subIn K (.ref CE) (.type T) else none) = some b
  rw [if_pos hm]
  exact h
end FS
set_option Elab.async false
set_option linter.all false
set_option maxRecDepth 100000
set_option autoImplicit false
/-! The meaning of work on texts, and of steps that may raise. -/
namespace FS
open PySem

/-! ### texts -/
/-- str(n) -/
def fStr : RV → Option RV
  | .d (.int i) => if i.natAbs ≤ lim then some (.d (.str (toString i))) else none
  | _ => none
/-- int(text) -/
def fIntS : RV → Option RV
  | .d (.str a) => (match PySem.intText? a with
    | some n => if a.length ≤ 600 then some (.d (.int n)) else none
    | none => none)
  | _ => none
def fSplit : RV → RV → Option RV
  | .d (.str a), .d (.str b) => if (b.length == 0) = false ∧ a.length + 2 ≤ lim then some (.new ((Txt.split a b).map PyData.str)) else none
  | _, _ => none
def strsOf : List D → Option (List Str)
  | [] => some []
  | .str z :: r => (strsOf r).map (z :: ·)
  | _ => none
def fJoin (a l : RV) : Option RV := match a, l.lst with
  | .d (.str z), some xs => (match strsOf xs with
    | some ys => if (ys.map (·.length)).sum + ys.length * z.length ≤ lim then some (.d (.str (Txt.join z ys))) else none
    | none => none)
  | _, _ => none
def fFind : RV → RV → Option RV
  | .d (.str a), .d (.str b) => some (.d (.int (Txt.find a b)))
  | _, _ => none
/-- one sign, not in a text -/
def cmpNotInS : RV → RV → Option RV
  | .d (.str a), .d (.str z) => (match a.cps.toList with
    | [c] => some (.d (.bool (!decide (c ∈ z.cps.toList))))
    | _ => none)
  | _, _ => none
def signD (c : Nat) : D := .str ⟨#[c]⟩
/-- the signs of a text -/
def RV.signs : RV → Option (List D)
  | .d (.str z) => some (z.cps.toList.map signD)
  | _ => none
@[simp] def iStrS (a : EF) : ZF := fun e => match a e with
  | some r => RV.signs r
  | none => none

/-! ### steps that may raise -/
@[simp] def eXCall (F : FX) (a : AF) : EX := fun e => match a e with
  | some rs => (match argsOf rs with
    | some as => F as
    | none => none)
  | none => none
/-- f of what may raise -/
@[simp] def eXUn (f : RV → Option RV) (a : EX) : EX := fun e => match a e with
  | some (.v r) => (match f r with
    | some z => some (.v z)
    | none => none)
  | some .ex => some .ex
  | none => none
/-- (a, b), a may raise -/
@[simp] def eXPair (a : EX) (b : EF) : EX := fun e => match a e with
  | some (.v (.d x)) => (match b e with
    | some (.d y) => some (.v (.d (.tuple [x, y])))
    | _ => none)
  | some .ex => some .ex
  | _ => none
def lcGoX (t : TF) (h : EX) (e : Env) : List D → Option (Option (List D))
  | [] => some (some [])
  | x :: xs => match t x e with
    | some e1 => (match h e1 with
      | some (.v (.d y)) => (match lcGoX t h e xs with
        | some (some ys) => some (some (y :: ys))
        | some none => some none
        | none => none)
      | some .ex => some none
      | _ => none)
    | none => none
@[simp] def eXLc (w : List Nat) (s : ZF) (t : TF) (h : EX) : EX := fun e => match s e with
  | some xs => if xs.length ≤ lim then (match lcGoX t h (forget w e) xs with
    | some (some ys) => some (.v (.new ys))
    | some none => some .ex
    | none => none) else none
  | none => none
@[simp] def xThen (f g : SX) : SX := fun e => match f e with
  | some (.o (.nx e')) => g e'
  | some (.o (.rt r)) => some (.o (.rt r))
  | some .ex => some .ex
  | _ => none
@[simp] def xIf (c : BF) : SX := fun e => match c e with
  | some true => some .ex
  | some false => some (.o (.nx e))
  | none => none
@[simp] def xApp (i : Nat) (a : EX) : SX := fun e => match getS e i with
  | some (.own xs) => (match a e with
    | some (.v (.d y)) => if xs.length < lim then some (.o (.nx (putS e i (.own (xs ++ [y]))))) else none
    | some .ex => some .ex
    | _ => none)
  | _ => none
@[simp] def xSet (i : Nat) (a : EX) : SX := fun e => match a e with
  | some (.v r) => (match r.av with
    | some v => some (.o (.nx (putS e i v)))
    | none => none)
  | some .ex => some .ex
  | none => none
def loopX (w : List Nat) (t : TF) (f : SX) : List D → Env → Option OX
  | [], e => some (.o (.nx e))
  | x :: xs, e => match t x e with
    | some e1 => (match f e1 with
      | some (.o (.nx e2)) => loopX w t f xs (forget w e2)
      | some (.o (.rt r)) => some (.o (.rt r))
      | some .ex => some .ex
      | _ => none)
    | none => none
def xFor (w : List Nat) (z : ZF) (t : TF) (f : SX) : SX := fun e => match z e with
  | some xs => loopX w t f xs (forget w e)
  | none => none
/-- try: return f(..) except X: return a new list of truths -/
@[simp] def sTryRetL (i : Nat) (F : FX) (a : AF) (bs : List Bool) : SF := fun e => if e.length ≤ i then none else match a e with
  | some rs => (match argsOf rs with
    | some as => (match F as with
      | some .ex => some (.rt (.new (bs.map PyData.bool)))
      | some (.v r) => some (.rt r)
      | none => none)
    | none => none)
  | none => none
end FS
set_option Elab.async false
set_option linter.all false
set_option maxRecDepth 100000
set_option maxHeartbeats 4000000
set_option autoImplicit false
/-! A comprehension whose step may raise. -/
namespace FS
open PySem L2 PyProof.Rows PySem.Spec

/-! ### the model's comprehension, the error's way out told with the frame -/
section
variable {M : Model} {A : Around} {E : Value → Shared → Prop} {s : Shared} {env : PySem.Env}
def endX (M : Model) (A : Around) (E : Value → Shared → Prop) (fr : Option Addr) (Q : Value → Shared → Prop) (acc : Value) (C : Addr) (r : Result) (s' : Shared) : Prop :=
  match r with
  | .error x => ∃ m, s'.heap.Ns C m ∧ ∀ g, Heap.SameBut C s'.heap g → ∀ ce : PySem.Env, ce.locals = C → ce.frame = fr →
      wpAny M A (passOn "comprehension.variables-let-go" x ce : Sem Value) (fun _ _ => False) E { s' with heap := g }
  | .ok _ => ∃ m, s'.heap.Ns C m ∧ ∀ g, Heap.SameBut C s'.heap g → Q acc { s' with heap := g }
theorem comp_frame {e : Expr} {scope : Scope} {pos : Pos} {mk first : Sem Value} {c : Comprehension} {cs : List Comprehension} {cl : List (Str × Addr)} {Q : Value → Shared → Prop}
    (h1 : clausesOf e = c :: cs) (h2 : ∀ x, foldedSetIterable c.iter env x = pure x) (h3 : closureFor scope env = pure cl) (h4 : scope.kind = .function) (h5 : ∀ x ∈ scope.names, x.2 = .local → scope.names.lookup x.1 = some .local)
    (h : wpAny M A first (fun x t1 => wpAny M A (pyIter x) (fun it t2 => wpAny M A mk (fun acc t3 => wpAny M A (newFunctionEnv scope env.globals cl [] env.qual none .none (some env)) (fun ce t4 =>
      ce.frame = env.frame ∧ codeAny M A (.compStart e 0 it acc { ce with scope := relabel scope env }) (endX M A E env.frame Q acc ce.locals) t4) E t3) E t2) E t1) E s) :
    wpAny M A (comprehension e scope env pos mk false first none) Q E s := by
  unfold comprehension
  rw [h3, h1]
  apply wpAny_bind
  refine wpAny_mono h (fun x t1 k1 => ?_) fun _ _ z => z
  apply wpAny_bind
  apply wpAny_standAt
  apply wpAny_bind
  refine wpAny_of_eq (h2 x) ?_
  apply wpAny_bind
  apply wpAny_holding
  refine wpAny_mono k1 (fun it t2 k2 => ?_) fun _ _ z => z
  apply wpAny_standIf
  apply wpAny_bind
  refine wpAny_mono k2 (fun acc t3 k3 => ?_) fun _ _ z => z
  apply wpAny_bind
  apply wpAny_pure
  apply wpAny_bind
  refine wpAny_mono k3 (fun ce t4 ⟨kf, k4⟩ => ?_) fun _ _ z => z
  dsimp only
  have own : ∀ x ∈ (scope.names.filter fun x => (x.2 == .local || x.2 == .cell) && x.1 != (".0" : Str)).reverse, x.2 = .local → PySem.Env.kindOf { ce with scope := relabel scope env } x.1 = some .local := by
    intro x hx hl
    exact lookup_relabel_local (h5 x (List.mem_filter.mp (List.mem_reverse.mp hx)).1 hl)
  apply wpAny_holding
  apply wpAny_bind
  apply wpAny_attempt
  apply wpAny_holding
  refine wpAny_run (codeAny_mono k4 fun r s' hr => ?_)
  cases r with
  | ok f =>
    obtain ⟨m, hn, hr⟩ := hr
    apply wpAny_bind
    apply wpAny_holding
    exact wpAny_comp_letGo (cenv := { ce with scope := relabel scope env }) h4 _ s' m own hn fun g m' _ sb => wpAny_pure (hr g sb)
  | error x =>
    obtain ⟨m, hn, hr⟩ := hr
    apply wpAny_bind
    apply wpAny_holding
    refine wpAny_comp_letGo (cenv := { ce with scope := relabel scope env }) h4 _ s' m own hn fun g m' _ sb => ?_
    exact wpAny_mono (hr g sb { ce with scope := relabel scope env } rfl kf) (fun _ _ f => f.elim) fun _ _ y => y
end
/-- the block of such a comprehension: what flies there comes out of a call -/
abbrev blkE (X : Cx) (E : XK) (s : Shared) (H : Hp) (scope : Scope) (ce : PySem.Env) (fp : List Addr) : Cx :=
  (X.blk s H scope ce fp).wish fun u s' => ∃ pins σ H1 s1, Inv (X.blk s H scope ce fp) pins σ H1 s1 ∧ L2.CX X.prog X.w X.stack H1 s1 E u s'
theorem pass_blkE {X : Cx} {E : XK} {s : Shared} {H : Hp} {scope : Scope} {ce : PySem.Env} {fp : List Addr} (σ : L2.St) : PassesAt (L2.CX X.prog X.w) (blkE X E s H scope ce fp) σ E :=
  fun pins H1 s1 e s' I c => ⟨pins, σ, H1, s1, I.unwish, c⟩
section
variable {X : Cx} {E : XK}
theorem note_as {a : Value} {c d : PySem.Env} (h : c.frame = d.frame) : noteFrame a c = noteFrame a d := by
  unfold noteFrame PySem.frameOf
  rw [h]
theorem frames_but {h g base base' : Heap} {C : Addr} (sb : Heap.SameBut C h g) (nb : ∀ L, base.get? L = none → base'.get? L = none) : ∀ l : List PySem.Env, C ∉ frs l → h.FunFrames base l → g.FunFrames base' l
  | [], _, _ => trivial
  | c :: l, n, ⟨hk, ⟨L, o, hf, hn, ho, hd⟩, hr⟩ => by
    have e : frs (c :: l) = L :: frs l := by
      show List.filterMap _ _ = _
      rw [List.filterMap_cons, hf]
      rfl
    rw [e] at n
    simp only [List.mem_cons, not_or] at n
    exact ⟨hk, ⟨L, o, hf, nb L hn, (sb.2 L fun z => n.1 z.symm).trans ho, hd⟩, frames_but sb nb l n.2 hr⟩
/-- on its way out of the block -/
theorem lc_fly {pins0 : List (Addr × Obj)} {σ0 : L2.St} {H3 : Hp} {s3 : Shared} {scope : Scope} {ce : PySem.Env} {fp : List Addr} {pins : List (Addr × Obj)} {σ' : L2.St} {H1 : Hp} {s1 s' : Shared} {u acc : Value} {Q : Value → Shared → Prop}
    (hs : X.stack = X.env :: X.outer) (hf : X.env.frame = some X.env.locals) (tk : Takes X (fun cls d _ H => E cls d H)) (I3 : Inv X pins0 σ0 H3 s3) (I1 : Inv (X.blk s3 H3 scope ce fp) pins σ' H1 s1) (c : L2.CX X.prog X.w X.stack H1 s1 E u s')
    (cf : ce.frame = X.env.frame) (cL : ce.locals = s3.heap.objs.size) (f3 : ∀ b ∈ fp, FpOk X pins0 H3 b) :
    notedBy (model X.prog X.w) X.A ce (fun e s'' => endX (model X.prog X.w) X.A X.xe X.env.frame Q acc s3.heap.objs.size (.error e) s'') u s' := by
  obtain ⟨a, B, H', cls, d, rfl, fl, hok, ub, na, os, ag, hE⟩ := c
  have I7 : Inv X pins0 σ0 H1 s1 := I3.call' (ch := fp) I1.os I1.base I1.hok I1.bare fun b hb => by
    obtain ⟨_, g1, _, g2, g3, g4⟩ := f3 b hb
    exact ⟨g2, g1, g3, g4⟩
  have nC : H1 s3.heap.objs.size = none := by
    have z : H1 ce.locals = none := I1.free
    rw [cL] at z
    exact z
  obtain ⟨m, hn, _⟩ := I1.loc
  have hn : s1.heap.Ns ce.locals m := hn
  rw [cL] at hn
  have fC := I3.fpOk (H' := H1) (Nat.le_refl _) nC
  generalize s3.heap.objs.size = C at *
  obtain ⟨c0, c1, c2, c3, c4, c5⟩ := fC
  have nfC : C ∉ frs X.stack := fun hm => by
    rcases List.mem_cons.mp (I7.stkSub C hm) with z | z
    · exact c1 z
    · exact c2 z
  obtain ⟨oC, es, ep, hC, rC⟩ := hn
  have bC : B.get? C = some oC := ub.keep C oC hC nC nfC
  have nC' : H' C = none := ub.free C oC hC nC
  rw [hs] at fl
  unfold notedBy
  rw [note_as cf]
  refine HandSPX.looks_onZ Zc.steady (by rw [I7.ok.frames, hs]) hf fl fun h1 held up => ?_
  obtain ⟨k1, k2, k3, oe, vs, T, oT, ts, he, hz, hd, e1, hnT, hTe, hT, hdT, e3⟩ := held
  refine ⟨m, ⟨oC, es, ep, k1 C oC bC, rC⟩, fun g sb ce' _ cf' => ?_⟩
  have aC : a ≠ C := fun z => by rw [z, bC] at k2; cases k2
  have tC : T ≠ C := fun z => by rw [z, bC] at hnT; cases hnT
  have hB : ∀ b o, (PySem.W.hideAll B [C]).get? b = some o → B.get? b = some o ∧ b ≠ C := fun b o e => ⟨PySem.W.of_hideAll [C] e, fun z => by
    rw [z, PySem.W.hideAll_none [C] List.mem_cons_self] at e
    cases e⟩
  have hB' : ∀ b o, B.get? b = some o → b ≠ C → (PySem.W.hideAll B [C]).get? b = some o := fun b o e n => PySem.W.hideAll_get [C] e fun z => n (List.mem_singleton.mp z)
  have none' : ∀ b, B.get? b = none → (PySem.W.hideAll B [C]).get? b = none := fun b n => by
    cases q : (PySem.W.hideAll B [C]).get? b with
    | none => rfl
    | some o => rw [(hB b o q).1] at n; cases n
  -- held, the block's own frame set aside
  have held : HandSPX.HeldZ (PySem.W.hideAll B [C]) (X.env :: X.outer) a (Zc cls d) X.env.locals g := by
    refine ⟨fun b o e => ?_, none' a k2, ?_, oe, vs, T, oT, ts, (sb.2 a aC).trans he, hz, hd, e1, none' T hnT, hTe, (sb.2 T tC).trans hT, hdT, e3⟩
    · obtain ⟨q1, q2⟩ := hB b o e
      exact (sb.2 b q2).trans (k1 b o q1)
    · rw [← hs]
      rw [← hs] at k3
      exact frames_but sb none' _ nfC k3
  -- the state without it
  obtain ⟨G, g1, g2⟩ := restrict s'.heap fun b => ((PySem.W.hideAll B [C]).get? b).isSome || decide (b ∈ frs X.stack)
  have st : B.StaysIn s'.heap := fl.1
  have og : ∀ b o, G.get? b = some o → s'.heap.get? b = some o ∧ b ≠ C ∧ ((PySem.W.hideAll B [C]).get? b = some o ∨ b ∈ frs X.stack) := fun b o e => by
    cases q : (((PySem.W.hideAll B [C]).get? b).isSome || decide (b ∈ frs X.stack)) with
    | false => rw [g2 b q] at e; cases e
    | true =>
      rw [g1 b q] at e
      rcases (by simpa [Bool.or_eq_true] using q : ((PySem.W.hideAll B [C]).get? b).isSome = true ∨ b ∈ frs X.stack) with z | z
      · obtain ⟨o2, q2⟩ := Option.isSome_iff_exists.mp z
        obtain ⟨q3, q4⟩ := hB b o2 q2
        have q5 := st b o2 q3
        rw [e] at q5
        cases q5
        exact ⟨e, q4, .inl q2⟩
      · exact ⟨e, fun y => nfC (y ▸ z), .inr z⟩
  have gB : ∀ b o, (PySem.W.hideAll B [C]).get? b = some o → G.get? b = some o := fun b o e => by
    rw [g1 b (by simp [e])]
    exact st b o (hB b o e).1
  have gF : ∀ b, b ∈ frs X.stack → G.get? b = s'.heap.get? b := fun b hb => g1 b (by simp [hb])
  have I8 := I7.turned (t' := s1.toks) (h' := PySem.W.hideAll s1.heap [C]) (it := C) (fun b o n e => PySem.W.hideAll_get [C] e fun z => n (List.mem_singleton.mp z)) c0 c1 c3 c4 c5
  have hokB : HOk X.prog X.w H' (PySem.W.hideAll B [C]) := fun b o q => (hok b o q).stay (fun e v he r => hB' e v r fun z => by
    rcases he with he | he
    · rw [← he, z, nC'] at q; cases q
    · rw [z, nC'] at he; cases he) (fun _ r => r) fun _ _ r => r
  have h8 : ∀ b o, (PySem.W.hideAll s1.heap [C]).get? b = some o → s1.heap.get? b = some o ∧ b ≠ C := fun b o e => ⟨PySem.W.of_hideAll [C] e, fun z => by
    rw [z, PySem.W.hideAll_none [C] List.mem_cons_self] at e
    cases e⟩
  have I9 := I8.call (ch := []) (h' := G) (g' := s'.gens) (t' := s'.toks) (d' := s'.drawn) (H' := H')
    ⟨fun b o e n hb _ => gB b o (hB' b o (ub.keep b o (h8 b o e).1 n hb) (h8 b o e).2), fun b o e n hb _ => by
      obtain ⟨sl, q⟩ := ub.slot b o (h8 b o e).1 hb
      exact ⟨sl, by rw [gF b hb]; exact q⟩, fun b o e n _ => ub.free b o (h8 b o e).1 n, fun b o e _ => by
      by_cases hb : b ∈ frs X.stack
      · obtain ⟨sl, q⟩ := ub.slot b o (h8 b o e).1 hb
        exact ⟨_, by rw [gF b hb]; exact q⟩
      · obtain ⟨o', q⟩ := ub.there b o (h8 b o e).1 hb
        exact ⟨o', gB b o' (hB' b o' q (h8 b o e).2)⟩, ub.tups, ub.frzs, ub.tbls⟩ (hokB.kept gB) ag (fun _ z => nomatch z)
  -- passed on
  obtain ⟨f1, f2, f4, oe, vs, T, oT, ts, he, hz, hd, e1, hnT, hTe, hT, hdT, e3⟩ := id held
  unfold PySem.passOn
  refine wpAny_bind (wpAny_field he hd e1 ?_)
  rw [if_neg (show ¬ ((Value.ref T == Value.none) = true) from by simp)]
  refine wpAny_bind ?_
  rw [cf', hf]
  refine HandSPX.setFlight_onZ held fun g3 held3 up3 => ?_
  refine wpAny_throw (tk _ _ ⟨a, PySem.W.hideAll B [C], _, pins0, σ0, H', cls, d, rfl, I9, fun b o e hb => ?_, fun b o e hnf => ?_, .inr (.inr (by rw [hs]; exact held3)), na, os, ag, hE⟩)
  · rcases (og b o e).2.2 with z | z
    · exact z
    · exact absurd z hb
  · obtain ⟨q1, q2, _⟩ := og b o e
    obtain ⟨sl, w1⟩ := up b o q1 hnf
    obtain ⟨sl2, w2⟩ := up3 b { o with slots := sl } ((sb.2 b q2).trans w1) hnf
    exact ⟨sl2, w2⟩
end
section
variable {X : Cx} {E : XK}
/-- [elt for tg in iter if ..], where elt may raise -/
theorem pe_lcX {elt tg iter : Expr} {ifs : List Expr} {scope : Scope} {own : List (Str × Nat)} {pos : Pos} {wi : TI} {g : TG} {tt : TT} {te : TE} (hs : X.stack = X.env :: X.outer) (hf : X.env.frame = some X.env.locals) (tk : Takes X (fun cls d _ H => E cls d H))
    (hc : X.calm = true) (hN : X.N.Nodup) (hi : PI X tg iter wi) (ok : BlkOk X.N X.env.scope scope own)
    (hg : ∀ (s : Shared) (H : Hp) (B : Addr) (cl : List (Str × Addr)) (fp : List Addr), PG (X.blk s H scope (compEnvC scope cl B X.env) fp) tg g)
    (ht : ∀ (s : Shared) (H : Hp) (B : Addr) (cl : List (Str × Addr)) (fp : List Addr), PTs (X.blk s H scope (compEnvC scope cl B X.env) fp) ifs tt)
    (he : ∀ (s : Shared) (H : Hp) (B : Addr) (cl : List (Str × Addr)) (fp : List Addr), PE (blkE X E s H scope (compEnvC scope cl B X.env) fp) elt te)
    (hz : ∀ x, foldedSetIterable iter X.env x = pure x := by intro _; rfl) :
    PE X (.ListComp elt [⟨tg, iter, ifs, 0⟩] scope pos) (tLc wi g tt te (own.map (·.2))) := by
  refine ⟨fun pins s σ H Q I h => ?_⟩
  rw [eval_ListComp]
  have captured : ∀ y ∈ scope.names, y.2 = .free → ∃ c, X.env.cells.lookup y.1 = some c := by
    intro y hy e
    exact (ok.free y hy e).elim (fun k => I.ok.has _ (.inl k)) fun k => I.ok.has _ (.inr k)
  refine comp_frame rfl hz (closure_ok captured) ok.kind (fun y hy e => by rw [ok.uniq y hy, e]) ?_
  refine thn (hi.run pins s σ H _ I h) fun xv t1 hx => thn hx fun itv t2 k2 => ?_
  obtain ⟨it, fp, tn, J, H2, e, I2, T, st2, f2, q⟩ := k2
  subst e
  refine wpAny_newObj_type (newEnv_comp ⟨rfl, ?_⟩) (by show 0 ≤ sizeLine; decide)
  generalize hL : t2.heap.objs.size = L
  have nL : H2 L = none := I2.hok.fresh (Nat.le_of_eq hL)
  obtain ⟨W, ⟨m0, w0⟩, turn⟩ := q L nL
  -- laid: the list
  generalize hu : ({ t2 with heap := t2.heap.push { cls := .type "list", data := .seq ([] : List Value).toArray } } : Shared) = u3
  have hu3 : u3.heap = t2.heap.push { cls := .type "list", data := .seq ([] : List Value).toArray } := by rw [← hu]
  have I3 : Inv X pins σ (upd H2 L (.lst [])) u3 := by
    subst hu
    refine I2.laid (t' := t2.toks) (fun _ _ z => Heap.get?_push_of_some _ z) (Nat.le_of_eq hL) ⟨Nat.zero_le _, [], 0, .nil, ?_⟩
    subst hL
    exact Heap.get?_push_size _ rfl
  have below : ∀ b ∈ fp, b < t2.heap.objs.size := by
    intro b hb
    obtain ⟨o, z, _⟩ := T.obj _ _ st2 b hb
    exact Heap.lt_size z
  have f3 : ∀ b ∈ fp, FpOk X pins (upd H2 L (.lst [])) b ∧ b < u3.heap.objs.size := by
    intro b hb
    obtain ⟨y1, y2⟩ := f2 b hb
    have lt := below b hb
    refine ⟨⟨?_, y2⟩, ?_⟩
    · rw [upd_ne (by subst hL; exact Nat.ne_of_lt lt)]
      exact y1
    · rw [hu3, Heap.size_push]
      exact Nat.lt_succ_of_lt lt
  have st3 : tn 0 u3.heap := T.keep _ _ _ st2 fun b _ o z => by
    rw [hu3]
    exact Heap.get?_push_of_some _ z
  have I4 := block_start I3 ok hN f3
  have pg := hg u3 (upd H2 L (.lst [])) u3.heap.objs.size (cellsFrom (u3.heap.objs.size + 1) scope.names (cloFrom X.env.cells scope.names [])) fp
  have pt := ht u3 (upd H2 L (.lst [])) u3.heap.objs.size (cellsFrom (u3.heap.objs.size + 1) scope.names (cloFrom X.env.cells scope.names [])) fp
  have pe := he u3 (upd H2 L (.lst [])) u3.heap.objs.size (cellsFrom (u3.heap.objs.size + 1) scope.names (cloFrom X.env.cells scope.names [])) fp
  have nfp : ∀ b ∈ fp, (upd H2 L (.lst [])) b = none := fun b hb => (f3 b hb).1.1
  show codeAny _ _ (.compStart (.ListComp elt [⟨tg, iter, ifs, 0⟩] scope pos) 0 (.ref it) (.ref L) (compEnvC scope (cellsFrom (u3.heap.objs.size + 1) scope.names (cloFrom X.env.cells scope.names [])) u3.heap.objs.size X.env))
    (endX (model X.prog X.w) X.A X.xe X.env.frame _ (.ref L) u3.heap.objs.size) { u3 with heap := pushCells (u3.heap.push { cls := .type "dict", data := .dict #[] }) scope.names }
  generalize hce : compEnvC scope (cellsFrom (u3.heap.objs.size + 1) scope.names (cloFrom X.env.cells scope.names [])) u3.heap.objs.size X.env = ce at I4 pg pt pe ⊢
  have cL : ce.locals = u3.heap.objs.size := by subst hce; rfl
  have cf : ce.frame = X.env.frame := by subst hce; rfl
  generalize hH3 : upd H2 L (.lst []) = H3 at I3 I4 pg pt pe w0 nfp f3
  generalize hu4 : ({ u3 with heap := pushCells (u3.heap.push { cls := .type "dict", data := .dict #[] }) scope.names } : Shared) = u4 at I4 ⊢
  have st4 : tn 0 u4.heap := T.keep _ _ _ st3 fun b _ o z => by
    subst hu4
    exact pushCells_keeps _ _ _ _ (Heap.get?_push_of_some _ z)
  have iters : ∀ {σ' : L2.St} {H' : Hp} {s' : Shared}, Inv (X.blk u3 H3 scope ce fp) [] σ' H' s' → (∀ b ∈ fp, H' b = none) → ∀ b ∈ fp, FpOk (X.blk u3 H3 scope ce fp) [] H' b := by
    intro σ' H' s' I' n b hb
    obtain ⟨y1, y2⟩ := I'.ok.exf b hb
    refine ⟨n b hb, y1, I'.ok.exfs b hb, .inl hb, fun x c z => y2 x c z, fun p hp => ?_⟩
    cases (show p ∈ ([] : List (Addr × Obj)) from hp)
  have loop : codeAny (model X.prog X.w) X.A (.compLoop (.ListComp elt [⟨tg, iter, ifs, 0⟩] scope pos) 0 (.ref it) (.ref L) ce) (endX (model X.prog X.w) X.A X.xe X.env.frame (EP X pins σ Q) (.ref L) u3.heap.objs.size) u4 := by
    refine compLoop_any (fun n s' => ∃ i H', Inv (X.blk u3 H3 scope ce fp) [] (wipe σ (own.map (·.2))) H' s' ∧ tn i s'.heap ∧ (∀ b ∈ fp, H' b = none) ∧ W i n H') ?_ m0 ⟨0, H3, I4, st4, nfp, w0⟩
    rintro n s5 ⟨i, H5, I5, st5, n5, w5⟩
    rcases turn i n H5 w5 with ⟨stop, qq⟩ | ⟨go, Nx, hNx, step⟩
    · have td := T.done (X.blk u3 H3 scope ce fp) rfl rfl rfl hc i [] s5 _ H5 (fun _ _ => False) I5 (iters I5 n5) st5 stop
      refine thnF td fun r s6 ⟨hr, I6⟩ => ?_
      subst hr
      have nC : H5 u3.heap.objs.size = none := by
        have z : H5 ce.locals = none := I6.free
        rwa [cL] at z
      have fC := I3.fpOk (H' := H5) (Nat.le_refl _) nC
      have I7 : Inv X pins σ H5 s6 := I3.call' (ch := fp) I6.os I6.base I6.hok I6.bare fun b hb => by
        obtain ⟨⟨_, y1, _, y2, y3, y4⟩, _⟩ := f3 b hb
        exact ⟨y2, y1, y3, y4⟩
      obtain ⟨m, hn, _⟩ := I6.loc
      have hn : s6.heap.Ns ce.locals m := hn
      rw [cL] at hn
      obtain ⟨c0, c1, _, c3, c4, c5⟩ := fC
      exact ⟨m, hn, fun h'' sb => ⟨.ref L, H5, I7.turned (t' := s6.toks) (fun b o hb z => (sb.2 b hb).trans z) c0 c1 c3 c4 c5, rfl, qq⟩⟩
    · have ti := T.item (X.blk u3 H3 scope ce fp) rfl rfl rfl hc i [] s5 _ H5 (fun _ _ => False) I5 (iters I5 n5) st5 go
      refine thnF ti fun r s6 ⟨u, hr, h6⟩ => ?_
      subst hr
      refine thnF h6 fun _ s7 ⟨x, H7, I7, r7, y7, st7, n7⟩ => ?_
      have I8 := I7.pinned (iters I7 n7) (T.obj _ _ st7)
      refine thnF (pg.run _ s7 _ H7 x u _ I8 r7 (step x H7 y7)) fun _ s8 ⟨σ8, H8, I8, hw8, q8⟩ => ?_
      refine thnF (pt.run _ s8 σ8 H8 _ I8 q8) fun b s9 ⟨H9, I9, q9⟩ => ?_
      have again : ∀ {s' : Shared} {H' : Hp}, Inv (X.blk u3 H3 scope ce fp) ([] ++ pinsAt fp s7.heap) σ8 H' s' → Nx H' →
          ∃ m, m < n ∧ ∃ i H', Inv (X.blk u3 H3 scope ce fp) [] (wipe σ (own.map (·.2))) H' s' ∧ tn i s'.heap ∧ (∀ b ∈ fp, H' b = none) ∧ W i m H' := by
        intro s' H' I' nx
        obtain ⟨m', hm, w'⟩ := hNx H' nx
        have pinned : ∀ b ∈ fp, ∀ o, s7.heap.get? b = some o → s'.heap.get? b = some o ∧ H' b = none := by
          intro b hb o z
          obtain ⟨y1, y2, _⟩ := I'.pin (b, o) (List.mem_append_right _ (List.mem_append_right _ (mem_pinsAt hb z)))
          exact ⟨y1, y2⟩
        refine ⟨m', hm, i + 1, H', (I'.unpinned (pins := [])).weak (by rw [← hw8, wipe_length]) (fun j v z => ?_), T.keep _ _ _ st7 fun b hb o z => (pinned b hb o z).1, fun b hb => ?_, w'⟩
        · rw [← hw8] at z
          exact (wipe_some z).1
        · obtain ⟨o, z, _⟩ := T.obj _ _ st7 b hb
          exact (pinned b hb o z).2
      cases b with
      | false =>
        rw [if_neg Bool.false_ne_true] at q9 ⊢
        exact again I9 q9
      | true =>
        rw [if_pos rfl] at q9 ⊢
        refine wpAny_mono (pe.run _ s9 σ8 H9 _ (I9.wish _) q9) (fun z s10 ⟨yv, H10, I10, r10, acc, hD, hl, nx⟩ => ?_) fun u s' ⟨p1, σ1, H1, s1, I1, c1⟩ => ?_
        · exact app_ok (X := X.blk u3 H3 scope ce fp) I10.unwish hD hl r10 fun s11 I11 => again I11 nx
        · exact lc_fly hs hf tk I3 I1 c1 cf cL fun b hb => (f3 b hb).1
  exact codeAny_compStart_list loop (T.self X.A 0 _ _ _ st4 loop)
end
end FS
set_option Elab.async false
set_option linter.all false
set_option maxRecDepth 100000
set_option maxHeartbeats 4000000
set_option autoImplicit false
/-! Rules: texts; steps that may raise. -/
namespace FS
open PySem L2 PyProof.Rows PySem.Spec

section
variable {X : Cx} {C : Addr} {H0 : Hp} {a b o : Expr} {fa fb : EF} {p pos apos : Pos}
theorem c_str {G : Gd} : Cal1 G (fun xs H Q => ∃ i, xs = [.int i] ∧ i.natAbs.log2 < 1920 ∧ Q (.str (toString i)) H) fStr := by
  intro K0 Ha H x z v r h Q q
  unfold fStr at h
  split at h
  · rename_i i
    split at h
    · rename_i hl
      cases h
      refine ⟨i, by rw [r_int r], ?_, q _ H (Same.refl H) q_str⟩
      by_cases h0 : i.natAbs = 0
      · rw [h0]; decide
      · refine (Nat.log2_lt h0).mpr (Nat.lt_of_le_of_lt hl ?_)
        exact Nat.lt_of_lt_of_le (show lim < 2 ^ 20 by decide) (Nat.pow_le_pow_right (by decide) (by decide))
    · cases h
  · cases h
theorem je_str1 (hg : Gl X "str") (hm : X.mg "str" = none) (ha : JE X C H0 a fa) (h1 : St1 X a := by rfl) : JE X C H0 (.Call (.Name "str" p) [a] [] pos) (eUn fStr fa) := je_t1 call_str_int (c_str (G := gd X C)) hg hm (by decide +kernel) ha h1
theorem c_intS {G : Gd} : Cal1 G (fun xs H Q => ∃ a n, xs = [.str a] ∧ PySem.intText? a = some n ∧ a.length ≤ 640 ∧ Q (.int n) H) fIntS := by
  intro K0 Ha H x z v r h Q q
  unfold fIntS at h
  split at h
  · rename_i w
    split at h
    · rename_i n hn
      split at h
      · rename_i hl
        cases h
        exact ⟨w, n, by rw [r_str r], hn, by omega, q _ H (Same.refl H) q_int⟩
      · cases h
    · cases h
  · cases h
theorem je_intS (hg : Gl X "int") (hm : X.mg "int" = none) (ha : JE X C H0 a fa) (h1 : St1 X a := by rfl) : JE X C H0 (.Call (.Name "int" p) [a] [] pos) (eUn fIntS fa) := je_t1 call_int_str (c_intS (G := gd X C)) hg hm (by decide +kernel) ha h1
/-- a method of a text with one argument -/
def Txt1 (G : Gd) (r : V → List V → Hp → VK → Prop) (f : RV → RV → Option RV) : Prop :=
  ∀ (H0 Ha Hb H : Hp) (x y z : RV) (vx vy : V), Res G H0 Ha H x vx → Res G H0 Hb H y vy → f x y = some z → ∀ Q : VK, (∀ v H', Same H H' → Res G H0 H H' z v → Q v H') → r vx [vy] H Q
theorem je_m1 {id : String} {name : Str} {r : V → List V → Hp → VK → Prop} {f : RV → RV → Option RV} (slot : Slot "str" name id) (ty : typeOf (.builtin id) = pure (.type "method_descriptor")) (rule : MtR X id r) (hf : Txt1 (gd X C) r f)
    (hs : ∀ x y z, f x y = some z → ∃ w, x = .d (.str w)) (ho : JE X C H0 o fa) (he : JE X C H0 a fb)
    (h1 : starEach [a] X.env = [(false, eval a X.env)] := by rfl) (hbase : attributeBase o name X.env (eval o X.env) = eval o X.env := by rfl) (hline : (apos.endLine == pos.line) = true := by rfl) :
    JE X C H0 (.Call (.Attribute o name apos) [a] [] pos) (eBin f fa fb) :=
  PE.weak (pe_m1 slot ty rule ho he h1 hbase hline) fun σ H Q ⟨en, z, R, h, q⟩ => by
    unfold eBin at h
    split at h
    · rename_i x hx
      split at h
      · rename_i y hy
        obtain ⟨w, rfl⟩ := hs x y z h
        refine ⟨en, _, R, hx, fun v H1 s1 r1 => ⟨⟨w, r_str r1⟩, en, y, R.go s1, hy, fun u H2 s2 r2 => ?_⟩⟩
        exact hf H0 H H1 H2 _ y z v u (r1.same s2) r2 h Q fun w H3 s3 r3 => q w H3 ((s1.trans s2).trans s3) (r3.back (s1.trans s2))
      · cases h
    · cases h
theorem dens_strs {G : Gd} {H : Hp} : ∀ ys : List Str, Dens G H (ys.map PyData.str) (ys.map V.str)
  | [] => dens_nil.mpr rfl
  | y :: ys => Dens.cons (den_str.mpr rfl) (dens_strs ys)
theorem m_split {G : Gd} : Txt1 G (fun x xs H Q => ∃ a b, x = .str a ∧ xs = [.str b] ∧ (b.length == 0) = false ∧ a.length + 2 ≤ sizeLine ∧ rNewStrs (Txt.split a b) H Q) fSplit := by
  intro K0 Ha Hb H x y z vx vy rx ry h Q q
  unfold fSplit at h
  split at h
  · rename_i a b
    split at h
    · rename_i hc
      cases h
      refine ⟨a, b, r_str rx, by rw [r_str ry], hc.1, lim_line hc.2, fun l nl => ?_⟩
      have s := FS.Same.upd (o := .lst ((Txt.split a b).map V.str)) nl
      exact q _ _ s ⟨l, _, rfl, nl, upd_same, dens_strs _⟩
    · cases h
  · cases h
theorem je_split (ho : JE X C H0 o fa) (he : JE X C H0 a fb)
    (h1 : starEach [a] X.env = [(false, eval a X.env)] := by rfl) (hbase : attributeBase o "split" X.env (eval o X.env) = eval o X.env := by rfl) (hline : (apos.endLine == pos.line) = true := by rfl) :
    JE X C H0 (.Call (.Attribute o "split" apos) [a] [] pos) (eBin fSplit fa fb) :=
  je_m1 PySem.F.slot_str_split PySem.F.type_str_split mt_split (m_split (G := gd X C)) (fun x y z h => by
    unfold fSplit at h
    split at h
    · exact ⟨_, rfl⟩
    · cases h) ho he h1 hbase hline
theorem strsOf_map {G : Gd} {H : Hp} : ∀ {xs : List D} {ys : List Str} {vs : List V}, strsOf xs = some ys → Dens G H xs vs → vs = ys.map V.str
  | [], ys, vs, h, d => by cases h; rw [dens_nil.mp d]; rfl
  | .str b :: r, ys, vs, h, d => by
    obtain ⟨bs', h1, h2⟩ := Option.map_eq_some_iff.mp (show (strsOf r).map (b :: ·) = some ys from h)
    obtain ⟨v, ws, e1, d1, d2⟩ := dens_cons.mp d
    rw [e1, den_str.mp d1, strsOf_map h1 d2, ← h2]
    rfl
  | .none :: r, ys, vs, h, d => by cases h
  | .int _ :: r, ys, vs, h, d => by cases h
  | .bool _ :: r, ys, vs, h, d => by cases h
  | .tuple _ :: r, ys, vs, h, d => by cases h
  | .list _ :: r, ys, vs, h, d => by cases h
  | .dict _ :: r, ys, vs, h, d => by cases h
theorem m_join {G : Gd} : Txt1 G (fun x xs H Q => ∃ a p, ∃ ys : List Str, x = .str a ∧ xs = [.ref p] ∧ (SqL G.K H p (ys.map V.str) ∨ SqT G.K H p (ys.map V.str)) ∧ (ys.map (·.length)).sum + ys.length * a.length ≤ 16777216 ∧ Q (.str (Txt.join a ys)) H) fJoin := by
  intro K0 Ha Hb H x y z vx vy rx ry h Q q
  unfold fJoin at h
  split at h
  · rename_i w xs hl
    split at h
    · rename_i ys hy
      split at h
      · rename_i hc
        cases h
        obtain ⟨l, vs, e1, k, ds⟩ := ry.sqL hl
        rw [strsOf_map hy ds] at k
        exact ⟨w, l, ys, r_str rx, by rw [e1], .inl k, by unfold lim at hc; omega, q _ H (Same.refl H) q_str⟩
      · cases h
    · cases h
  · cases h
theorem je_join (ho : JE X C H0 o fa) (he : JE X C H0 a fb)
    (h1 : starEach [a] X.env = [(false, eval a X.env)] := by rfl) (hbase : attributeBase o "join" X.env (eval o X.env) = eval o X.env := by rfl) (hline : (apos.endLine == pos.line) = true := by rfl) :
    JE X C H0 (.Call (.Attribute o "join" apos) [a] [] pos) (eBin fJoin fa fb) :=
  je_m1 PySem.F.slot_str_join PySem.F.type_str_join mt_join (m_join (G := gd X C)) (fun x y z h => by
    unfold fJoin at h
    split at h
    · exact ⟨_, rfl⟩
    · cases h) ho he h1 hbase hline
theorem m_find {G : Gd} : Txt1 G (fun x xs H Q => ∃ a b, x = .str a ∧ xs = [.str b] ∧ Q (.int (Txt.find a b)) H) fFind := by
  intro K0 Ha Hb H x y z vx vy rx ry h Q q
  unfold fFind at h
  split at h
  · cases h
    exact ⟨_, _, r_str rx, by rw [r_str ry], q _ H (Same.refl H) q_int⟩
  · cases h
theorem je_find (ho : JE X C H0 o fa) (he : JE X C H0 a fb)
    (h1 : starEach [a] X.env = [(false, eval a X.env)] := by rfl) (hbase : attributeBase o "find" X.env (eval o X.env) = eval o X.env := by rfl) (hline : (apos.endLine == pos.line) = true := by rfl) :
    JE X C H0 (.Call (.Attribute o "find" apos) [a] [] pos) (eBin fFind fa fb) :=
  je_m1 PySem.F.slot_str_find PySem.F.type_str_find mt_find (m_find (G := gd X C)) (fun x y z h => by
    unfold fFind at h
    split at h
    · exact ⟨_, rfl⟩
    · cases h) ho he h1 hbase hline
theorem o_notInS {G : Gd} : Op2 G (fun x y H Q => ∃ (c : Nat) (z : Str), x = .str ⟨#[c]⟩ ∧ y = .str z ∧ Q (.bl (!decide (c ∈ z.cps.toList))) H) cmpNotInS := by
  intro K0 Ha Hb H x y z vx vy rx ry h Q q
  unfold cmpNotInS at h
  split at h
  · rename_i w w2
    split at h
    · rename_i c hc
      cases h
      have e : w = ⟨#[c]⟩ := TL.ext_tl hc
      subst e
      exact ⟨c, w2, r_str rx, r_str ry, q _ H (Same.refl H) q_bool⟩
    · cases h
  · cases h
theorem ji_str {tg : Expr} (ha : JE X C H0 a fa) : JI X C H0 tg a (iStrS fa) := PI.weak (pi_str ha) fun σ H Rr ⟨e, xs, R, hz, q⟩ => by
  unfold iStrS at hz
  split at hz
  · rename_i r0 hr
    obtain ⟨w, rfl, hz⟩ : ∃ w : Str, r0 = .d (.str w) ∧ some (w.cps.toList.map signD) = some xs := by
      unfold RV.signs at hz
      split at hz
      · exact ⟨_, rfl, hz⟩
      · cases hz
    cases hz
    refine ⟨e, _, R, hr, fun v H1 s1 r1 => ⟨w, r_str r1, q _ H1 s1 fun H2 _ _ => ?_⟩⟩
    refine ⟨fun i x hx => ?_, ?_⟩
    · rw [List.getElem?_map] at hx
      obtain ⟨c, hc, rfl⟩ := Option.map_eq_some_iff.mp hx
      have hc' : w.cps[i]? = some c := by rw [← Array.getElem?_toList]; exact hc
      refine ⟨(Array.getElem?_eq_some_iff.mp hc').1, fun v H3 ⟨e2, c2, h2, e3⟩ => ?_⟩
      subst e2 e3
      rw [hc'] at h2
      cases h2
      exact ⟨Same.refl _, den_str.mpr rfl⟩
    · show w.cps.size ≤ _
      rw [List.length_map, Array.length_toList]
      exact Nat.le_refl _
  · cases hz
end
end FS
set_option Elab.async false
set_option linter.all false
set_option maxRecDepth 100000
set_option maxHeartbeats 4000000
set_option autoImplicit false
/-! Rules: expressions and statements that may raise. -/
namespace FS
open PySem L2 PyProof.Rows PySem.Spec

/-- E: where an error goes; H0: the def's entry -/
def tE (G : Gd) (CE : Addr) (H0 : Hp) (E : XK) (g : EX) : TE := fun σ H Q => ∃ e r, Rel G H0 e σ H ∧ g e = some r ∧ match r with
  | .v z => ∀ v H', Same H H' → Res G H0 H H' z v → Q v H'
  | .ex => ∀ H', Same H0 H' → E (.ref CE) none H'
abbrev JXe (X : Cx) (C CE : Addr) (H0 : Hp) (E : XK) (e : Expr) (g : EX) : Prop := PE X e (tE (gd X C) CE H0 E g)
abbrev JX (X : Cx) (C CE : Addr) (H0 : Hp) (W : List Nat) (E : XK) (st : Stmt) (g : SX) : Prop := PS X st (tX (gd X C) CE H0 W E g)
theorem PA.nox {X : Cx} {es : List Expr} {t : TA} (h : PA X.nox es t) : PA X es t := ⟨fun pos pins s σ H Q I hw =>
  wpAny_mono (h.run pos pins s σ H Q (I.wish _) hw) (fun _ _ ⟨xs, H', I', z⟩ => ⟨xs, H', I'.unwish, z⟩) fun _ _ z => False.elim z⟩
theorem PG.nox {X : Cx} {tg : Expr} {g : TG} (h : PG X.nox tg g) : PG X tg g := ⟨fun pins s σ H v u Q I r hw =>
  wpAny_mono (h.run pins s σ H v u Q (I.wish _) r hw) (fun _ _ ⟨σ', H', I', z⟩ => ⟨σ', H', I'.unwish, z⟩) fun _ _ z => False.elim z⟩
section
variable {X : Cx} {C CE : Addr} {H0 : Hp} {E : XK} {e a b : Expr} {es : List Expr} {ra : AF} {ga gb : EX} {fa fb : EF} {p pos : Pos} {x : Str}
theorem jxe_call {k n : Nat} {fd : FuncData} {fad : Addr} {ps : List Str} {F : FX} {CX : CXT} (G : FnOk X.prog X.w X.K X.mg X.base CX k fad fd ps (spX (gd X C) CE n F)) (hr : Room k X.A) (hg : Gl X x) (hm : X.mg x = some (.ref fad))
    (hk : PySem.W.keepIn X.K (.ref fad) = true) (hb : Binds X.K fd ps []) (hx : ∀ σ, PassesAt CX X σ E) (hA : ∀ as r, F as = some r → as.length = n ∧ ∀ z, r = .v z → isRet z = true) (ha : JA X C H0 (e :: es) ra)
    (hdb : (x == ("__debug__" : Str)) = false := by decide) (he : starEach (e :: es) X.env = (false, eval e X.env) :: starEach es X.env := by rfl) (hpl : (backTo pos (starEach es X.env)).any (·.1) = false := by rfl) :
    JXe X C CE H0 E (.Call (.Name x p) (e :: es) [] pos) (eXCall F ra) :=
  PE.weak (pe_callS G hr hg hm hk hb (E := fun _ => E) hx ha hdb he hpl) fun σ H Q ⟨en, r, R, h, q⟩ => by
    unfold eXCall at h
    split at h
    · rename_i rs hrs
      split at h
      · rename_i as has
        refine ⟨en, rs, R, hrs, fun vs H1 s1 r1 => ⟨by rw [resL_len r1, ← argsOf_len has]; exact (hA as _ h).1, as, r, argsOk_of has r1, h, ?_⟩⟩
        cases r with
        | v z => exact fun v H2 s2 r2 => q v H2 (s1.trans s2) (isRet_move ((hA as _ h).2 _ rfl) (r2.back s1))
        | ex => exact fun H2 s2 => q H2 ((R.same.trans s1).trans s2)
      · cases h
    · cases h
/-- tuple(what may raise) -/
theorem jxe_tuple (hg : Gl X "tuple") (hm : X.mg "tuple" = none) (ha : JXe X C CE H0 E a ga) (h1 : St1 X a := by rfl) : JXe X C CE H0 E (.Call (.Name "tuple" p) [a] [] pos) (eXUn fTuple ga) :=
  PE.weak (pe_callTy call_tupA hg hm boot_tuple (pa_cons ha pa_nil h1) (by decide) (by decide) h1) fun σ H Q ⟨en, r, R, h, q⟩ => by
    unfold eXUn at h
    split at h
    · rename_i y hy
      split at h
      · rename_i z hz
        cases h
        refine ⟨en, .v y, R, hy, fun v H1 s1 r1 => ?_⟩
        exact c_tuple (G := gd X C) H0 H H1 y z v r1 hz _ fun w H2 s2 r2 => q w H2 (s1.trans s2) (r2.back s1)
      · cases h
    · rename_i hy
      cases h
      exact ⟨en, .ex, R, hy, fun H1 s1 => q H1 s1⟩
    · cases h
/-- (a, b), a may raise -/
theorem jxe_pair {k : Nat} (ha : JXe X C CE H0 E a ga) (hb : JE X C H0 b fb) (h2 : starEach [a, b] X.env = (false, eval a X.env) :: starEach [b] X.env := by rfl) (h1 : starEach [b] X.env = (false, eval b X.env) :: starEach [] X.env := by rfl) :
    JXe X C CE H0 E (.Tuple [a, b] k pos) (eXPair ga fb) := PE.weak (pe_tup (pa_cons ha (pa_cons hb pa_nil h1) h2)) fun σ H Q ⟨en, r, R, h, q⟩ => by
  unfold eXPair at h
  split at h
  · rename_i x hx
    split at h
    · rename_i y hy
      cases h
      refine ⟨en, _, R, hx, fun v H1 s1 r1 => ⟨en, _, R.go s1, hy, fun u H2 s2 r2 => ?_⟩⟩
      refine ⟨by show 2 ≤ sizeLine; decide, fun l nl => ?_⟩
      have s3 := FS.Same.upd (o := .tup [v, u]) nl
      refine q _ _ ((s1.trans s2).trans s3) (q_tup (SqT.of upd_same) ?_)
      exact Dens.cons (Den.stab (FS.Same.stab (s2.trans s3)) _ _ r1) (Dens.one (Den.stab (FS.Same.stab s3) _ _ r2))
    · cases h
  · rename_i hx
    cases h
    exact ⟨en, .ex, R, hx, fun H1 s1 => q H1 s1⟩
  · cases h
theorem lcGoX_len {t : TF} {h : EX} {e : Env} : ∀ {xs ys : List D}, lcGoX t h e xs = some (some ys) → ys.length ≤ xs.length
  | [], ys, q => by cases q; exact Nat.le_refl _
  | x :: xs, ys, q => by
    unfold lcGoX at q
    split at q
    · split at q
      · split at q
        · rename_i zs hz
          cases q
          exact Nat.succ_le_succ (lcGoX_len hz)
        · cases q
        · cases q
      · cases q
      · cases q
    · cases q
theorem lcX_run {W : List Nat} {own : List (Str × Nat)} {z : ZF} {t : TF} {h : EX} (hW : ∀ j : Nat, j ∈ W → j ∈ own.map (·.2)) {σ : L2.St} {H : Hp} {Q : VK} (w : tE (gd X C) CE H0 E (eXLc (own.map (·.2)) z t h) σ H Q) :
    tLc (tJC (gd X C) H0 z) (tJG (gd X C) H0 W t) (tJT (gd X C) H0 bYes) (tE (gd X C) CE H0 E h) (own.map (·.2)) σ H Q := by
  obtain ⟨e, r, R, q0, q⟩ := w
  unfold eXLc at q0
  split at q0
  · rename_i xs hx
    split at q0
    · rename_i hlen
      obtain ⟨out, hout, qo⟩ : ∃ out, lcGoX t h (forget (own.map (·.2)) e) xs = some out ∧ match out with
          | some ys => ∀ v H', Same H H' → Res (gd X C) H0 H H' (.new ys) v → Q v H'
          | none => ∀ H', Same H0 H' → E (.ref CE) none H' := by
        split at q0
        · rename_i ys hys
          cases q0
          exact ⟨_, hys, q⟩
        · rename_i hys
          cases q0
          exact ⟨_, hys, q⟩
        · cases q0
      refine ⟨e, xs, R, hx, fun J H1 s1 wk L nL => ?_⟩
      refine ⟨fun i m H' => m = xs.length - i ∧ i ≤ xs.length ∧ Same H1 H' ∧ ∃ acc as rest, H' L = some (.lst acc) ∧ Dens (gd X C) H' as acc ∧ acc.length ≤ i ∧ lcGoX t h (forget (own.map (·.2)) e) (xs.drop i) = some rest ∧ out = rest.map (as ++ ·),
        ⟨xs.length, by simp, Nat.zero_le _, FS.Same.upd nL, [], [], out, upd_same, dens_nil.mpr rfl, Nat.zero_le _, hout, by cases out <;> rfl⟩, ?_⟩
      rintro i m H' ⟨rfl, hi, sm, acc, as, rest, hL, dA, hacc, hgo, hcat⟩
      obtain ⟨w1, w2⟩ := wk H' sm
      by_cases hlt : i < xs.length
      · have hx : xs[i]? = some xs[i] := List.getElem?_eq_getElem hlt
        obtain ⟨g1, g2⟩ := w1 i _ hx
        rw [List.drop_eq_getElem_cons hlt] at hgo
        unfold lcGoX at hgo
        split at hgo
        · rename_i e1 he1
          refine .inr ⟨g1, fun H3 => Same H1 H3 ∧ ∃ acc as rest, H3 L = some (.lst acc) ∧ Dens (gd X C) H3 as acc ∧ acc.length ≤ i + 1 ∧ lcGoX t h (forget (own.map (·.2)) e) (xs.drop (i + 1)) = some rest ∧ out = rest.map (as ++ ·),
            fun H3 ⟨a1, a2⟩ => ⟨xs.length - (i + 1), by omega, rfl, hlt, a1, a2⟩, fun v H3 hy => ?_⟩
          obtain ⟨s3, dv⟩ := g2 v H3 hy
          have s13 := sm.trans s3
          refine ⟨_, xs[i], e1, ((R.go s1).wipe (own.map (·.2))).go s13, dv, he1, fun σ2 R2 f2 l2 => ⟨wipe_far f2 l2 hW, ?_⟩⟩
          refine ⟨e1, true, R2, rfl, fun H4 s4 => ?_⟩
          refine iteT ?_
          split at hgo
          · rename_i y hy1
            obtain ⟨rs, hrs, hre⟩ : ∃ rs, lcGoX t h (forget (own.map (·.2)) e) (xs.drop (i + 1)) = some rs ∧ rest = rs.map (y :: ·) := by
              split at hgo
              · rename_i ys hys
                cases hgo
                exact ⟨_, hys, rfl⟩
              · rename_i hys
                cases hgo
                exact ⟨_, hys, rfl⟩
              · cases hgo
            refine ⟨e1, _, R2.go s4, hy1, fun u H5 s5 r5 => ?_⟩
            have k5 := s5 _ _ (s4 _ _ (s3 _ _ hL))
            have s15 := (s13.trans s4).trans s5
            refine ⟨acc, k5, lim_lt (by omega), FS.Same.put s15 nL, acc ++ [u], as ++ [y], rs, upd_same, ?_, by rw [List.length_append, List.length_singleton]; omega, hrs, ?_⟩
            · have st := Stab.upd (o := .lst (acc ++ [u])) k5
              exact ((dA.stab (FS.Same.stab ((s3.trans s4).trans s5))).app (Dens.one r5)).stab st
            · rw [hcat, hre]
              cases rs <;> simp
          · rename_i hy1
            cases hgo
            subst hcat
            exact ⟨e1, .ex, R2.go s4, hy1, fun H5 s5 => qo H5 s5⟩
          · cases hgo
        · cases hgo
      · have hi' : i = xs.length := by omega
        subst hi'
        rw [List.drop_length] at hgo
        cases hgo
        subst hcat
        refine .inl ⟨w2, qo _ H' (s1.trans sm) ⟨L, acc, rfl, s1.free nL, hL, ?_⟩⟩
        show Dens (gd X C) H' (as ++ []) acc
        rw [List.append_nil]
        exact dA
    · cases q0
  · cases q0
theorem jxe_lc {W : List Nat} {elt tg it : Expr} {scope : Scope} {own : List (Str × Nat)} {z : ZF} {t : TF} {h : EX} (hs : X.stack = X.env :: X.outer) (hf : X.env.frame = some X.env.locals) (tk : Takes X (fun cls d _ H => E cls d H))
    (hc : X.calm = true) (hN : X.N.Nodup) (hi : JC X C H0 tg it z) (ok : BlkOk X.N X.env.scope scope own)
    (hg : ∀ (s : Shared) (H : Hp) (B : Addr) (cl : List (Str × Addr)) (fp : List Addr), JG (X.blk s H scope (compEnvC scope cl B X.env) fp) C H0 W tg t)
    (he : ∀ (s : Shared) (H : Hp) (B : Addr) (cl : List (Str × Addr)) (fp : List Addr), JXe (blkE X E s H scope (compEnvC scope cl B X.env) fp) C CE H0 E elt h) (hW : ∀ j : Nat, j ∈ W → j ∈ own.map (·.2) := by decide) (hz : ∀ x, foldedSetIterable it X.env x = pure x := by intro _; rfl) :
    JXe X C CE H0 E (.ListComp elt [⟨tg, it, [], 0⟩] scope pos) (eXLc (own.map (·.2)) z t h) :=
  PE.weak (pe_lcX (wi := tJC (gd X C) H0 z) (g := tJG (gd X C) H0 W t) (tt := tJT (gd X C) H0 bYes) (te := tE (gd X C) CE H0 E h) hs hf tk hc hN hi ok hg (fun s H B cl fp => jts_nil) he hz) fun _ _ _ q => lcX_run hW q
end
/-! ### statements -/
section
variable {X : Cx} {C CE : Addr} {H0 : Hp} {E : XK} {W W1 W2 : List Nat} {st : Stmt} {sts body : List Stmt} {f g : SX} {ga : EX} {pos : Pos} {i : Nat}
theorem jx_last {F : SF} (h : JS X.nox C H0 W st F) : JX X C CE H0 W E st (xLast F) := PS.weak (PS.nox h) fun D σ H ⟨e, o, R, hg, q⟩ => by
  unfold xLast at hg
  split at hg
  · rename_i x hx
    cases hg
    exact ⟨e, x, R, hx, q⟩
  · cases hg
theorem jxs_one (h : JX X C CE H0 W E st f) : JXs X C CE H0 W E [st] f := pss_one h
theorem jxs_then (h1 : JX X C CE H0 W1 E st f) (h2 : JXs X C CE H0 W2 E sts g) : JXs X C CE H0 (W1 ++ W2) E (st :: sts) (xThen f g) := PSs.weak (pss_cons h1 h2) fun D σ H ⟨e, o, R, hg, q⟩ => by
  have a1 : ∀ j : Nat, j ∈ W1 → j ∈ W1 ++ W2 := fun j z => List.mem_append_left _ z
  have a2 : ∀ j : Nat, j ∈ W2 → j ∈ W1 ++ W2 := fun j z => List.mem_append_right _ z
  unfold xThen at hg
  split at hg
  · rename_i e' he
    refine ⟨e, .o (.nx e'), R, he, fun σ' H' R' fr s => ⟨e', o, R', hg, ?_⟩⟩
    cases o with
    | o x => exact OutD.move q (fr.mono a1) s a2
    | ex => exact q
  · rename_i r hr
    cases hg
    exact ⟨e, .o (.rt r), R, hr, q⟩
  · rename_i hr
    cases hg
    exact ⟨e, .ex, R, hr, q⟩
  · cases hg
theorem jx_if {c : Expr} {r : Stmt} {gc : BF} (hc : JT X.nox C H0 c gc) (hr : PS X r (fun _ _ H => E (.ref CE) none H)) : JX X C CE H0 [] E (.If c [r] [] pos) (xIf gc) :=
  PS.weak (ps_if (PT.nox hc) (pss_one hr) pss_nil) fun D σ H ⟨e, o, R, hg, q⟩ => by
  unfold xIf at hg
  split at hg
  · rename_i hb
    cases hg
    exact ⟨e, true, R, hb, fun H1 s1 => iteT (q H1 (R.same.trans s1))⟩
  · rename_i hb
    cases hg
    exact ⟨e, false, R, hb, fun H1 s1 => iteF (q σ H1 (R.go s1) (Far.refl _ _) (FS.Same.stab s1))⟩
  · cases hg
theorem jx_app (h : PS X st (tDrop (tBM X.K "list" rAppend (tVar i) (tCons (tE (gd X C) CE H0 E ga) tNil)))) : JX X C CE H0 [] E st (xApp i ga) := PS.weak h fun D σ H ⟨e, o, R, h, q⟩ => by
  unfold xApp at h
  split at h
  · rename_i xs hx
    obtain ⟨l, vs, h1, h2, h3, h4⟩ := R.ownAt hx
    split at h
    · rename_i y hr
      split at h
      · rename_i hl
        cases h
        refine ⟨_, h1, ty_own h3, e, _, R, hr, fun v H1 s1 r1 => ?_⟩
        have k1 := s1 _ _ h3
        refine ⟨l, vs, v, rfl, rfl, k1, by rw [h4.len]; exact lim_lt hl, ?_⟩
        have st := Stab.upd (o := .lst (vs ++ [v])) k1
        refine q σ _ ((R.go s1).chg hx rfl h1 h2 st ⟨l, _, rfl, h2, upd_same, ?_⟩) (Far.refl _ _) ((FS.Same.stab s1).trans st)
        exact ((h4.stab (FS.Same.stab s1)).app (Dens.one r1)).stab st
      · cases h
    · rename_i hr
      cases h
      exact ⟨_, h1, ty_own h3, e, .ex, R, hr, q⟩
    · cases h
  · cases h
theorem jx_set (h : PS X st (tAsg (tE (gd X C) CE H0 E ga) (gName i))) : JX X C CE H0 [i] E st (xSet i ga) := PS.weak h fun D σ H ⟨e, o, R, h, q⟩ => by
  unfold xSet at h
  split at h
  · rename_i r hr
    split at h
    · rename_i av hav
      cases h
      exact ⟨e, _, R, hr, fun v H1 s1 r1 => q _ H1 (R.putA s1 r1 hav i) (Far.put (List.mem_singleton.mpr rfl)) (FS.Same.stab s1)⟩
    · cases h
  · rename_i hr
    cases h
    exact ⟨e, .ex, R, hr, q⟩
  · cases h
theorem jx_for {tg it : Expr} {z : ZF} {t : TF} (w : List Nat) (hp : PassesOwn (model X.prog X.w) X.A X.env X.xe) (hc : X.calm = true) (hi : PI X tg it (tJI (gd X C) H0 z)) (hg : JG X.nox C H0 W1 tg t) (hb : JXs X C CE H0 W2 E body f)
    (hs : ∀ x, foldedSetIterable it X.env x = pure x := by intro _; rfl) : JX X C CE H0 (W1 ++ W2) E (.For tg it body [] pos) (xFor w z t f) := PS.weak (ps_for hp hc hi (PG.nox hg) hb hs) fun D σ H ⟨e, o, R, h, q⟩ => by
  unfold xFor at h
  split at h
  · rename_i xs hx
    refine ⟨e, xs, R, hx, fun J H1 s1 wk => ?_⟩
    refine ⟨fun i m σ' H' => ∃ e', m = xs.length - i ∧ i ≤ xs.length ∧ Rel (gd X C) H0 e' σ' H' ∧ loopX w t f (xs.drop i) e' = some o ∧ Far (W1 ++ W2) σ σ' ∧ Stab H1 H', ⟨xs.length, forget w e, by simp, Nat.zero_le _, (R.go s1).forget w, h, Far.refl _ _, Stab.refl _⟩, ?_⟩
    rintro i m σ' H' ⟨e', rfl, hi, R', hl, fr, st⟩
    obtain ⟨w1, w2⟩ := wk H' st R'.same
    have stab0 := (FS.Same.stab s1).trans st
    by_cases hlt : i < xs.length
    · have hx : xs[i]? = some xs[i] := List.getElem?_eq_getElem hlt
      obtain ⟨g1, g2⟩ := w1 i _ hx
      rw [List.drop_eq_getElem_cons hlt] at hl
      unfold loopX at hl
      split at hl
      · rename_i e1 he1
        refine .inr ⟨g1, fun σ3 H3 => ∃ e3, Rel (gd X C) H0 e3 σ3 H3 ∧ loopX w t f (xs.drop (i + 1)) e3 = some o ∧ Far (W1 ++ W2) σ σ3 ∧ Stab H1 H3, fun σ3 H3 ⟨e3, R3, l3, f3, s3⟩ => ⟨xs.length - (i + 1), by omega, e3, rfl, hlt, R3, l3, f3, s3⟩, fun v H3 hy => ?_⟩
        obtain ⟨s3, dv⟩ := g2 v H3 hy
        refine ⟨e', xs[i], e1, R'.go s3, dv, he1, fun σ2 R2 f2 l2 => ?_⟩
        have st3 := st.trans (FS.Same.stab s3)
        have fr2 : Far (W1 ++ W2) σ σ2 := fr.join (f2.mono fun j z => List.mem_append_left _ z)
        have fin : ∀ (e4 : Env) (σ4 : L2.St) (H4 : Hp), Rel (gd X C) H0 e4 σ4 H4 → Far W2 σ2 σ4 → Stab H3 H4 → Far (W1 ++ W2) σ σ4 ∧ Stab H1 H4 := fun e4 σ4 H4 R4 f4 s4 =>
          ⟨fr2.join (f4.mono fun j z => List.mem_append_right _ z), st3.trans s4⟩
        split at hl
        · rename_i e2 he2
          refine ⟨e1, .o (.nx e2), R2, he2, fun σ4 H4 R4 f4 s4 => ?_⟩
          obtain ⟨z1, z2⟩ := fin e2 σ4 H4 R4 f4 s4
          exact ⟨_, R4.forget w, hl, z1, z2⟩
        · rename_i r he2
          cases hl
          exact ⟨e1, .o (.rt r), R2, he2, q⟩
        · rename_i he2
          cases hl
          exact ⟨e1, .ex, R2, he2, q⟩
        · cases hl
      · cases hl
    · have hi' : i = xs.length := by omega
      subst hi'
      rw [List.drop_length] at hl
      cases hl
      exact .inl ⟨w2, q σ' H' R' fr stab0⟩
  · cases h
end
section
variable {X : Cx} {C CE : Addr} {H0 : Hp} {E : XK} {pos : Pos}
/-- try: return f(..) except Y as n: return [isinstance(n, T1), isinstance(n, T2), isinstance(n, T3)] -/
theorem js_tryL {k n i : Nat} {fa CY : Addr} {fd : FuncData} {ps : List Str} {F : FX} {x y nn : Str} {e t1 t2 t3 : Expr} {es : List Expr} {ra : AF} {p pc pr np pos' pr2 i1 i2 i3 j1 j2 j3 m1 m2 m3 ptup : Pos} {c1 c2 c3 : Bool}
    (hs : X.stack = X.env :: X.outer) (hf : X.env.frame = some X.env.locals) (hN : X.N.Nodup) (hi : X.N[i]? = some nn) (hln : X.env.kindOf nn = some .local) (hc : Names X y (.ref CY))
    (G : FnOk X.prog X.w X.K X.mg X.base (L2.CX X.prog X.w) k fa fd ps (spX (gd X C) CE n F)) (hr : Room k X.A) (hg : Gl X x) (hm : X.mg x = some (.ref fa))
    (hk : PySem.W.keepIn X.K (.ref fa) = true) (hb : Binds X.K fd ps []) (hA : ∀ as r, F as = some r → as.length = n ∧ ∀ z, r = .v z → isRet z = true)
    (ha : ∀ (pn : List (Addr × Obj)) (xe : Value → Shared → Prop), JA (X.tr pn xe) C H0 (e :: es) ra) (eC : ExcC X.K CE) (eM : PySem.W.exmOne X.K (.ref CE) (.ref CY) = some true)
    (pn1 : ∀ (a : Addr) (pn : List (Addr × Obj)), PE (X.suite a pn) (.Name nn m1) (tVar i)) (pn2 : ∀ (a : Addr) (pn : List (Addr × Obj)), PE (X.suite a pn) (.Name nn m2) (tVar i)) (pn3 : ∀ (a : Addr) (pn : List (Addr × Obj)), PE (X.suite a pn) (.Name nn m3) (tVar i))
    (q1 : IsQ X CE t1 c1) (q2 : IsQ X CE t2 c2) (q3 : IsQ X CE t3 c3) (gi : Gl X "isinstance") (mi : X.mg "isinstance" = none)
    (n1 : starEach [.Name nn m1, t1] X.env = (false, eval (.Name nn m1) X.env) :: starEach [t1] X.env) (n2 : starEach [.Name nn m2, t2] X.env = (false, eval (.Name nn m2) X.env) :: starEach [t2] X.env) (n3 : starEach [.Name nn m3, t3] X.env = (false, eval (.Name nn m3) X.env) :: starEach [t3] X.env)
    (o1 : starEach [t1] X.env = (false, eval t1 X.env) :: starEach [] X.env) (o2 : starEach [t2] X.env = (false, eval t2 X.env) :: starEach [] X.env) (o3 : starEach [t3] X.env = (false, eval t3 X.env) :: starEach [] X.env)
    (hdb : (x == ("__debug__" : Str)) = false := by decide)
    (he : starEach (e :: es) X.env = (false, eval e X.env) :: starEach es X.env := by rfl) (hpl : (backTo pc (starEach es X.env)).any (·.1) = false := by rfl) :
    JS X C H0 [] (.Try [.Return (some (.Call (.Name x p) (e :: es) [] pc)) pr] [.ExceptHandler (some (.Name y np)) (some nn)
      [.Return (some (.List [.Call (.Name "isinstance" i1) [.Name nn m1, t1] [] j1, .Call (.Name "isinstance" i2) [.Name nn m2, t2] [] j2, .Call (.Name "isinstance" i3) [.Name nn m3, t3] [] j3] ptup)) pr2] pos'] [] [] pos) (sTryRetL i F ra [c1, c2, c3]) := by
  have ask : ∀ (a : Addr) (oe : Obj) (pn : List (Addr × Obj)) (t : Expr) (b : Bool) (m ii jj : Pos), Zc (.ref CE) none oe → (∃ vs, oe.data = .fields vs) → IsQ X CE t b → PE (X.suite a ((a, oe) :: pn)) (.Name nn m) (tVar i) →
      starEach [.Name nn m, t] X.env = (false, eval (.Name nn m) X.env) :: starEach [t] X.env → starEach [t] X.env = (false, eval t X.env) :: starEach [] X.env →
      PE (X.suite a ((a, oe) :: pn)) (.Call (.Name "isinstance" ii) [.Name nn m, t] [] jj) (fun σ H Q => σ[i]? = some (some (.ref a)) ∧ Q (.bl b) H) := by
    intro a oe pn t b m ii jj hz hfl q hv s1 s2
    obtain ⟨c, cv, hp, hcv, hkit⟩ := q.ex
    refine PE.weak (pe_callB (call_isE eC hz hfl) gi mi (by decide +kernel) (pa_cons hv (pa_cons (hp a _) pa_nil s2) s1) (he := s1) (hpl := by rw [s2]; rfl)) fun σ H Q ⟨h1, h2⟩ => ?_
    exact ⟨_, h1, c, cv, b, rfl, hcv, hkit, h2⟩
  refine PS.weak (ps_try_as (i := i) (tb := fun W => tRet (tCallS (spX (gd X C) CE n F) (WE W) (tJA (gd X C) H0 ra)))
    (ts := fun a cls d => fun D σ H => cls = .ref CE ∧ d = none ∧ σ[i]? = some (some (.ref a)) ∧ ∀ q H', H q = none → Same H H' → H' q = some (.lst [.bl c1, .bl c2, .bl c3]) → D.rt (.ref q) H') (Wout := fun _ _ _ _ => False) hs hf hN hi hln hc takes0
    (fun W pn xe tk _ => pss_one (ps_ret (pe_callS (X := X.tr pn xe) G hr hg hm hk hb (fun σ => passAt tk σ) (ha pn xe) hdb he hpl))) (fun a oe cls d pn hz hfl => ?_)) fun D σ H ⟨en, o, R, hg, q⟩ => ?_
  · constructor
    intro pins s σ H D I ⟨ec, ed, h1, h2⟩
    subst ec
    subst ed
    have h3 := pss_one (ps_ret (pos := pr2) (pe_lst (pos := ptup) (pa_cons (ask a oe pn t1 c1 m1 i1 j1 hz hfl q1 (pn1 a _) n1 o1) (pa_cons (ask a oe pn t2 c2 m2 i2 j2 hz hfl q2 (pn2 a _) n2 o2) (pa_cons (ask a oe pn t3 c3 m3 i3 j3 hz hfl q3 (pn3 a _) n3 o3) pa_nil)))))
    refine h3.run pins s σ H D I ?_
    exact ⟨h1, h1, h1, by show 3 ≤ sizeLine; decide, fun q hq => h2 q _ hq (FS.Same.upd hq) upd_same⟩
  · unfold sTryRetL at hg
    split at hg
    · cases hg
    rename_i hil
    split at hg
    · rename_i rs hrs
      split at hg
      · rename_i as has
        split at hg
        · rename_i hF
          cases hg
          refine ⟨en, rs, R, hrs, fun vs H1 s1 r1 => ⟨by rw [resL_len r1, ← argsOf_len has]; exact (hA as _ hF).1, as, .ex, argsOk_of has r1, hF, fun H2 s2 => ?_⟩⟩
          refine ⟨true, eM, fun _ a na => ⟨rfl, rfl, ?_, fun qq H3 nq s3 k3 => ?_⟩, fun z => Bool.noConfusion z⟩
          · exact List.getElem?_set_self (by rw [← R.len]; omega)
          · exact q _ H3 (((R.same.trans s1).trans s2).trans s3) ⟨qq, _, rfl, ((R.same.trans s1).trans s2).free nq, k3, Dens.cons (den_bool.mpr rfl) (Dens.cons (den_bool.mpr rfl) (Dens.one (den_bool.mpr rfl)))⟩
        · rename_i r hF
          cases hg
          refine ⟨en, rs, R, hrs, fun vs H1 s1 r1 => ⟨by rw [resL_len r1, ← argsOf_len has]; exact (hA as _ hF).1, as, _, argsOk_of has r1, hF, fun v H2 s2 r2 => ?_⟩⟩
          exact q v H2 ((R.same.trans s1).trans s2) (isRet_move ((hA as _ hF).2 _ rfl) (Res.back (R.same.trans s1) r2))
        · cases hg
      · cases hg
    · cases hg
end
end FS
/-! what k15's and k16's derivations stand on -/
set_option Elab.async false
set_option linter.all false
set_option maxRecDepth 100000
set_option autoImplicit false
/-! Texts as lists of signs. -/
namespace FS
open PySem

def sD (l : List Nat) : D := .str ⟨l.toArray⟩
theorem sD_of (x : Str) : PyData.str x = sD (TL.tl x) := by rw [sD, TL.mk_tl]
theorem sD_lit (s : String) : PyData.str (Str.ofString s) = sD (s.toList.map Char.toNat) := by rw [sD_of, TL.tl_ofString]
theorem tl_sD (l : List Nat) : TL.tl ⟨l.toArray⟩ = l := rfl
theorem str_len (l : List Nat) : (⟨l.toArray⟩ : Str).length = l.length := by rw [TL.len_tl]
theorem sD_inj {a b : List Nat} : sD a = sD b ↔ a = b := by
  constructor
  · intro h
    have : (⟨a.toArray⟩ : Str) = ⟨b.toArray⟩ := by injection h
    have := congrArg TL.tl this
    simpa using this
  · rintro rfl; rfl
theorem fLen_sD {l : List Nat} (h : l.length ≤ lim) : fLen (.d (sD l)) = some (.d (.int l.length)) := by
  unfold sD fLen
  simp only [str_len]
  rw [if_pos h]
theorem opAdd_sD {a b : List Nat} (h : a.length + b.length ≤ lim) : opAdd (.d (sD a)) (.d (sD b)) = some (.d (sD (a ++ b))) := by
  have e : (⟨a.toArray⟩ : Str) ++ ⟨b.toArray⟩ = ⟨(a ++ b).toArray⟩ := TL.ext_tl (by rw [TL.tl_append])
  unfold sD opAdd
  simp only [str_len]
  rw [if_pos h, e]
theorem opIx_sD {l : List Nat} {k : Nat} (h : l.length ≤ lim) (hk : k < l.length) : opIx (.d (sD l)) (.d (.int (k : Int))) = some (.d (sD [l.getD k 0])) := by
  unfold sD opIx
  simp only [str_len]
  rw [if_pos h, ixN_nat hk]
  simp only []
  rw [show l[k]? = some (l.getD k 0) by simp [List.getD_eq_getElem?_getD, hk]]
  rfl
theorem opIx_sD0 {c : Nat} {l : List Nat} (h : l.length < lim) : opIx (.d (sD (c :: l))) (.d (.int 0)) = some (.d (sD [c])) := opIx_sD (k := 0) h (by simp)
theorem opCut_sD {l : List Nat} {lo hi : Option Int} (h : l.length ≤ lim) : opCut (.d (sD l)) lo hi = some (.d (sD (cutL l lo hi))) := by
  unfold sD opCut
  simp only [str_len]
  rw [if_pos h]
def asc (l : List Nat) : Prop := ∀ c ∈ l, c < 256
theorem asc_nil : asc [] := fun c h => by cases h
theorem asc_one {c : Nat} (h : c < 256) : asc [c] := fun d hd => by rw [List.mem_singleton.mp hd]; exact h
theorem asc_app {a b : List Nat} (h : asc a) (k : asc b) : asc (a ++ b) := fun c hc => (List.mem_append.mp hc).elim (h c) (k c)
theorem asc_sub {a b : List Nat} (h : asc b) (k : ∀ c ∈ a, c ∈ b) : asc a := fun c hc => h c (k c hc)
theorem shaped_str {l : List Nat} (h : asc l) : SeqAt.shaped (.str ⟨l.toArray⟩) = true := by
  have : PyData.strOk ⟨l.toArray⟩ = true := by
    unfold PyData.strOk
    simp only [List.all_toArray, List.all_eq_true, decide_eq_true_eq]
    exact fun c hc => Nat.lt_trans (h c hc) (by decide)
  simp [SeqAt.shaped, PyData.canLay0, PyData.depth, this]
theorem eqv_sD {a b : List Nat} : PyData.eqv (sD a) (sD b) = decide (a = b) := by
  unfold sD
  simp only [PyData.eqv]
  by_cases h : a = b
  · subst h; simp
  · have : ¬ (⟨a.toArray⟩ : Str) = ⟨b.toArray⟩ := fun z => h (sD_inj.mp (congrArg PyData.str z))
    simp [h, this]
theorem cmpEq_sD {a b : List Nat} (ha : asc a) (hb : asc b) : cmpEq (.d (sD a)) (.d (sD b)) = some (.d (.bool (decide (a = b)))) := by
  unfold cmpEq
  simp only [RV.val]
  rw [if_pos ⟨shaped_str ha, shaped_str hb⟩, eqv_sD]
theorem cmpNe_sD {a b : List Nat} (ha : asc a) (hb : asc b) : cmpNe (.d (sD a)) (.d (sD b)) = some (.d (.bool (!decide (a = b)))) := by
  unfold cmpNe
  simp only [RV.val]
  rw [if_pos ⟨shaped_str ha, shaped_str hb⟩, eqv_sD]
theorem fSplit_sD {l S : List Nat} (h : l.length + 2 ≤ lim) (hS : S ≠ []) (hc : S.all (· < 256) = true) : fSplit (.d (sD l)) (.d (sD S)) = some (.new ((TL.spl S 0 [] l).map sD)) := by
  have e := TL.split_spl ⟨l.toArray⟩ ⟨S.toArray⟩ hS (TL.kind_ok (by simpa using hc))
  unfold sD fSplit
  simp only [str_len]
  rw [if_pos ⟨by cases S with | nil => exact absurd rfl hS | cons => rfl, h⟩]
  congr 2
  rw [tl_sD, tl_sD] at e
  rw [← e, List.map_map]
  exact List.map_congr_left fun x _ => sD_of x
theorem strsOf_sD : ∀ ws : List (List Nat), strsOf (ws.map sD) = some (ws.map fun w => (⟨w.toArray⟩ : Str))
  | [] => rfl
  | w :: ws => by
    rw [List.map_cons]
    show (strsOf (ws.map sD)).map _ = _
    rw [strsOf_sD ws]
    rfl
theorem fJoin_sD {s : List Nat} {ws : List (List Nat)} (h : (ws.map (·.length)).sum + ws.length * s.length ≤ lim) : fJoin (.d (sD s)) (.new (ws.map sD)) = some (.d (sD (TL.joinL s ws))) := by
  have e := TL.tl_join ⟨s.toArray⟩ (ws.map fun w => (⟨w.toArray⟩ : Str))
  rw [List.map_map] at e
  have e2 : ws.map (TL.tl ∘ fun w => (⟨w.toArray⟩ : Str)) = ws := by
    conv => rhs; rw [← List.map_id ws]
    exact List.map_congr_left fun w _ => rfl
  rw [e2, tl_sD] at e
  have e3 : (ws.map fun w => (⟨w.toArray⟩ : Str)).map (·.length) = ws.map (·.length) := by
    rw [List.map_map]
    exact List.map_congr_left fun w _ => str_len w
  unfold fJoin
  rw [sD]
  simp only [RV.lst, strsOf_sD]
  rw [e3, List.length_map, str_len, if_pos h, TL.join_eq, sD_of]
  exact congrArg (fun l => some (RV.d (sD l))) e
theorem cmpNotInS_sD {c : Nat} {f : List Nat} : cmpNotInS (.d (signD c)) (.d (sD f)) = some (.d (.bool (!decide (c ∈ f)))) := rfl
@[simp] theorem signs_sD {l : List Nat} : RV.signs (.d (sD l)) = some (l.map signD) := rfl
theorem fStr_nat {n : Nat} (h : n ≤ lim) : fStr (.d (nD n)) = some (.d (sD (TL.numL n))) := by
  unfold fStr
  simp only []
  rw [if_pos (by simpa using h), sD_of]
  exact congrArg (fun l => some (RV.d (sD l))) (TL.tl_num n)
theorem fIntS_sD {l : List Nat} (h : NumText.AllDigits l) (h1 : l ≠ []) (h2 : l.length ≤ 600) : fIntS (.d (sD l)) = some (.d (.int ((NumText.digitsVal l : Nat) : Int))) := by
  have e := PySem.intText_digits (x := ⟨l.toArray⟩) h h1 (by rw [str_len]; omega)
  unfold sD fIntS
  simp only [e, str_len]
  rw [if_pos h2]
/-- where a sign stands first -/
theorem find_no {c : Nat} {l : List Nat} (h : c ∉ l) : fFind (.d (sD l)) (.d (sD [c])) = some (.d (.int (-1))) := by
  have e : Txt.find ⟨l.toArray⟩ ⟨[c].toArray⟩ = -1 := by
    rcases PyProof.Rows.find_whole ⟨l.toArray⟩ ⟨[c].toArray⟩ with ⟨e, _⟩ | ⟨i, _, hi, _⟩
    · exact e
    · have p := (TL.at_iff (x := ⟨l.toArray⟩) (y := ⟨[c].toArray⟩) (by simp) i).mp hi
      rw [tl_sD, tl_sD] at p
      cases q : l.drop i with
      | nil => rw [q] at p; simp [TL.pre] at p
      | cons d r =>
        have hd : d ∈ l := List.mem_of_mem_drop (by rw [q]; exact List.mem_cons_self)
        rw [q, TL.pre_of_head [] r (fun z : d = c => h (z ▸ hd))] at p
        cases p
  unfold sD fFind
  simp only [e]
theorem find_at {c : Nat} {k r : List Nat} (h : c ∉ k) : fFind (.d (sD (k ++ c :: r))) (.d (sD [c])) = some (.d (.int (k.length : Nat))) := by
  have hat : StrLaws.At ⟨(k ++ c :: r).toArray⟩ ⟨[c].toArray⟩ (⟨(k ++ c :: r).toArray⟩ : Str).length k.length := by
    refine (TL.at_iff (by simp) _).mpr ?_
    rw [tl_sD, tl_sD, List.drop_left]
    simp [TL.pre]
  have e : Txt.find ⟨(k ++ c :: r).toArray⟩ ⟨[c].toArray⟩ = (k.length : Int) := by
    rcases PyProof.Rows.find_whole ⟨(k ++ c :: r).toArray⟩ ⟨[c].toArray⟩ with ⟨_, n⟩ | ⟨i, e, hi, n⟩
    · exact absurd hat (n _)
    · have h1 : ¬ k.length < i := fun z => n _ z hat
      have h2 : ¬ i < k.length := fun z => by
        have p := (TL.at_iff (x := ⟨(k ++ c :: r).toArray⟩) (y := ⟨[c].toArray⟩) (by simp) i).mp hi
        rw [tl_sD, tl_sD, TL.free_of h i z] at p
        cases p
      rw [e, show i = k.length by omega]
  unfold sD fFind
  simp only [e]
/-- one sign that cuts -/
abbrev cuts (c : Nat) (l : List Nat) : List (List Nat) := TL.spl [c] 0 [] l
theorem cuts_part {c : Nat} {p r : List Nat} (h : c ∉ p) : cuts c (p ++ c :: r) = p :: cuts c r := by
  have := TL.spl_part1 (s := c) (S := []) (acc := []) (rest := r) h
  simpa using this
theorem cuts_last {c : Nat} {p : List Nat} (h : c ∉ p) : cuts c p = [p] := by
  have := TL.spl_last1 (s := c) (S := []) (acc := []) h
  simpa using this
theorem split_first {c : Nat} : ∀ {l : List Nat}, c ∈ l → ∃ p r, l = p ++ c :: r ∧ c ∉ p
  | x :: l, h => by
    by_cases hx : x = c
    · exact ⟨[], l, by rw [hx]; rfl, by simp⟩
    · rcases List.mem_cons.mp h with z | z
      · exact absurd z.symm hx
      · obtain ⟨p, r, e, n⟩ := split_first z
        exact ⟨x :: p, r, by rw [e]; rfl, by simp only [List.mem_cons, not_or]; exact ⟨fun z => hx z.symm, n⟩⟩
theorem cuts_ne {c : Nat} (l : List Nat) : cuts c l ≠ [] := by
  by_cases h : c ∈ l
  · obtain ⟨p, r, e, n⟩ := split_first h
    rw [e, cuts_part n]
    simp
  · rw [cuts_last h]
    simp
theorem cuts_le {c : Nat} : ∀ (n : Nat) (l : List Nat), l.length ≤ n → (∀ w ∈ cuts c l, w.length ≤ l.length) ∧ (cuts c l).length ≤ l.length + 1
  | 0, l, h => by
    have : l = [] := List.eq_nil_of_length_eq_zero (by omega)
    subst this
    rw [cuts_last (by simp)]
    simp
  | n + 1, l, h => by
    by_cases hc : c ∈ l
    · obtain ⟨p, r, e, nn⟩ := split_first hc
      subst e
      rw [List.length_append, List.length_cons] at h
      obtain ⟨h1, h2⟩ := cuts_le n r (by omega)
      rw [cuts_part nn]
      refine ⟨fun w hw => ?_, ?_⟩
      · rw [List.length_append, List.length_cons]
        rcases List.mem_cons.mp hw with z | z
        · rw [z]; omega
        · have := h1 w z; omega
      · rw [List.length_cons, List.length_append, List.length_cons]
        omega
    · rw [cuts_last hc]
      simp
theorem cuts_short {c : Nat} {l w : List Nat} (h : w ∈ cuts c l) : w.length ≤ l.length := (cuts_le _ l (Nat.le_refl _)).1 w h
theorem cuts_few {c : Nat} {l : List Nat} : (cuts c l).length ≤ l.length + 1 := (cuts_le _ l (Nat.le_refl _)).2
theorem cuts_mem {c : Nat} : ∀ (n : Nat) (l : List Nat), l.length ≤ n → ∀ w ∈ cuts c l, ∀ d ∈ w, d ∈ l
  | 0, l, h, w, hw, d, hd => by
    have : l = [] := List.eq_nil_of_length_eq_zero (by omega)
    subst this
    rw [cuts_last (by simp), List.mem_singleton] at hw
    rw [hw] at hd
    exact hd
  | n + 1, l, h, w, hw, d, hd => by
    by_cases hc : c ∈ l
    · obtain ⟨p, r, e, nn⟩ := split_first hc
      subst e
      rw [List.length_append, List.length_cons] at h
      rw [cuts_part nn] at hw
      rcases List.mem_cons.mp hw with z | z
      · rw [z] at hd
        exact List.mem_append_left _ hd
      · exact List.mem_append_right _ (List.mem_cons_of_mem _ (cuts_mem n r (by omega) w z d hd))
    · rw [cuts_last hc, List.mem_singleton] at hw
      rw [hw] at hd
      exact hd
theorem cuts_in {c : Nat} {l w : List Nat} (h : w ∈ cuts c l) : ∀ d ∈ w, d ∈ l := cuts_mem _ l (Nat.le_refl _) w h
/-! ### numbers -/
def figL : List Nat := [48, 49, 50, 51, 52, 53, 54, 55, 56, 57]
def goodW (w : List Nat) : Bool := decide (w ≠ []) && decide (w.length ≤ 3) && !(decide (1 < w.length) && decide (w.getD 0 0 = 48)) && w.all fun c => decide (c ∈ figL)
def numV (w : List Nat) : Int := ((NumText.digitsVal w : Nat) : Int)
def numI (w : List Nat) : Int := if goodW w then numV w else -1
theorem fig_digits {w : List Nat} (h : (w.all fun c => decide (c ∈ figL)) = true) : NumText.AllDigits w := fun c hc => by
  have := of_decide_eq_true (List.all_eq_true.mp h c hc)
  unfold figL at this
  simp at this
  omega
theorem numI_pos {w : List Nat} (h : 0 ≤ numI w) : goodW w = true := by
  unfold numI at h
  split at h
  · assumption
  · omega
theorem goodW_free {w : List Nat} (h : goodW w = true) {c : Nat} (hc : c ∉ figL) : c ∉ w := fun z => by
  unfold goodW at h
  simp only [Bool.and_eq_true, List.all_eq_true] at h
  exact hc (of_decide_eq_true (h.2 c z))
/-! ### literals -/
@[simp] theorem lit_e : PyData.str (Str.ofString "") = sD [] := sD_lit ""
@[simp] theorem lit_sp : PyData.str (Str.ofString " ") = sD [32] := sD_lit " "
@[simp] theorem lit_co : PyData.str (Str.ofString ":") = sD [58] := sD_lit ":"
@[simp] theorem lit_gt : PyData.str (Str.ofString ">") = sD [62] := sD_lit ">"
@[simp] theorem lit_0 : PyData.str (Str.ofString "0") = sD [48] := sD_lit "0"
@[simp] theorem lit_fig : PyData.str (Str.ofString "0123456789") = sD figL := sD_lit "0123456789"
@[simp] theorem lit_bar : PyData.str (Str.ofString "|") = sD [124] := sD_lit "|"
@[simp] theorem lit_sbar : PyData.str (Str.ofString " |") = sD [32, 124] := sD_lit " |"
/-! ### loops whose turn may raise -/
@[simp] def turnX (w : List Nat) (t : TF) (f : SX) (x : D) (e : Env) : Option OX := match t x e with
  | some e1 => (match f e1 with
    | some (.o (.nx e2)) => some (.o (.nx (forget w e2)))
    | some (.o (.rt r)) => some (.o (.rt r))
    | some .ex => some .ex
    | _ => none)
  | none => none
theorem loopX_cons {w : List Nat} {t : TF} {f : SX} {x : D} {xs : List D} {e : Env} : loopX w t f (x :: xs) e = match turnX w t f x e with
    | some (.o (.nx e2)) => loopX w t f xs e2
    | some (.o (.rt r)) => some (.o (.rt r))
    | some .ex => some .ex
    | _ => none := by
  rw [loopX]
  unfold turnX
  cases t x e with
  | none => rfl
  | some e1 =>
    simp only
    cases f e1 with
    | none => rfl
    | some o =>
      cases o with
      | ex => rfl
      | o z => cases z <;> rfl
theorem loopX_nx {w : List Nat} {t : TF} {f : SX} {x : D} {xs : List D} {e e2 : Env} (h : turnX w t f x e = some (.o (.nx e2))) : loopX w t f (x :: xs) e = loopX w t f xs e2 := by
  rw [loopX_cons, h]
theorem loopX_ex {w : List Nat} {t : TF} {f : SX} {x : D} {xs : List D} {e : Env} (h : turnX w t f x e = some .ex) : loopX w t f (x :: xs) e = some .ex := by
  rw [loopX_cons, h]
theorem loopX_find {α : Type} {w : List Nat} {t : TF} {f : SX} (dat : α → D) (e : Env) (p : α → Bool) : ∀ (xs : List α), (∀ x ∈ xs, turnX w t f (dat x) e = if p x then some .ex else some (.o (.nx e))) → loopX w t f (xs.map dat) e = if xs.any p then some .ex else some (.o (.nx e))
  | [], _ => rfl
  | x :: xs, h => by
    have h1 := h x List.mem_cons_self
    rw [List.map_cons, List.any_cons]
    cases hp : p x with
    | true =>
      rw [hp] at h1
      rw [loopX_ex h1]
      rfl
    | false =>
      rw [hp] at h1
      rw [loopX_nx h1, loopX_find dat e p xs fun y hy => h y (List.mem_cons_of_mem _ hy)]
      rfl
/-! ### joined again -/
def wsum (ws : List (List Nat)) : Nat := (ws.map fun w => w.length + 1).sum
theorem wsum_app {a b : List (List Nat)} : wsum (a ++ b) = wsum a + wsum b := by simp [wsum]
theorem wsum_cons {w : List Nat} {ws : List (List Nat)} : wsum (w :: ws) = w.length + 1 + wsum ws := by simp [wsum]
theorem wsum_take {ws : List (List Nat)} {n : Nat} : wsum (ws.take n) ≤ wsum ws := by
  have := wsum_app (a := ws.take n) (b := ws.drop n)
  rw [List.take_append_drop] at this
  omega
theorem wsum_drop {ws : List (List Nat)} {n : Nat} : wsum (ws.drop n) ≤ wsum ws := by
  have := wsum_app (a := ws.take n) (b := ws.drop n)
  rw [List.take_append_drop] at this
  omega
theorem wsum_cut {ws : List (List Nat)} {lo hi : Option Int} : wsum (cutL ws lo hi) ≤ wsum ws := Nat.le_trans wsum_take wsum_drop
theorem wsum_eq {ws : List (List Nat)} : (ws.map (·.length)).sum + ws.length * 1 = wsum ws := by
  induction ws with
  | nil => rfl
  | cons w ws ih =>
    rw [wsum_cons, ← ih]
    simp
    omega
theorem cuts_sum {c : Nat} : ∀ (n : Nat) (l : List Nat), l.length ≤ n → wsum (cuts c l) = l.length + 1
  | 0, l, h => by
    have : l = [] := List.eq_nil_of_length_eq_zero (by omega)
    subst this
    rw [cuts_last (by simp)]
    rfl
  | n + 1, l, h => by
    by_cases hc : c ∈ l
    · obtain ⟨p, r, e, nn⟩ := split_first hc
      subst e
      rw [List.length_append, List.length_cons] at h
      rw [cuts_part nn, wsum_cons, cuts_sum n r (by omega), List.length_append, List.length_cons]
      omega
    · rw [cuts_last hc]
      simp [wsum]
theorem join_len : ∀ ws : List (List Nat), (TL.joinL [32] ws).length ≤ wsum ws
  | [] => Nat.le_refl _
  | [p] => by simp [TL.joinL, wsum]
  | p :: q :: r => by
    have ih := join_len (q :: r)
    rw [wsum_cons]
    simp only [TL.joinL, List.length_append, List.length_singleton]
    omega
theorem join_asc : ∀ ws : List (List Nat), (∀ w ∈ ws, asc w) → asc (TL.joinL [32] ws)
  | [], _ => asc_nil
  | [p], h => h p (by simp)
  | p :: q :: r, h => asc_app (h p (by simp)) (asc_app (asc_one (by decide)) (join_asc (q :: r) fun w hw => h w (List.mem_cons_of_mem _ hw)))
theorem asc_num (n : Nat) : asc (TL.numL n) := fun c hc => by
  have := TL.numL_digits n c hc
  omega
theorem num_len {n : Nat} (h : n < 1000) : (TL.numL n).length ≤ 3 := TL.numL_len (by decide) h
end FS
set_option Elab.async false
set_option linter.all false
set_option maxRecDepth 100000
set_option autoImplicit false
/-! Texts cut at a blank and a bar, by their words. -/
namespace FS
open PySem

abbrev bar : List Nat := [32, 124]
theorem join_cons {w : List Nat} {ws : List (List Nat)} (h : ws ≠ []) : TL.joinL [32] (w :: ws) = w ++ 32 :: TL.joinL [32] ws := by
  cases ws with
  | nil => exact absurd rfl h
  | cons q r => rfl
theorem join_app : ∀ {a b : List (List Nat)}, a ≠ [] → b ≠ [] → TL.joinL [32] (a ++ b) = TL.joinL [32] a ++ 32 :: TL.joinL [32] b
  | [w], b, _, h => by
    rw [List.singleton_append, join_cons h]
    rfl
  | w :: q :: r, b, _, h => by
    rw [List.cons_append, join_cons (by simp), join_app (a := q :: r) (by simp) h, join_cons (ws := q :: r) (by simp), List.append_assoc]
    rfl
theorem join_cuts : ∀ (n : Nat) (l : List Nat), l.length ≤ n → TL.joinL [32] (cuts 32 l) = l
  | 0, l, h => by
    have : l = [] := List.eq_nil_of_length_eq_zero (by omega)
    subst this
    rw [cuts_last (by simp)]
    rfl
  | n + 1, l, h => by
    by_cases hc : (32 : Nat) ∈ l
    · obtain ⟨p, r, e, nn⟩ := split_first hc
      subst e
      rw [List.length_append, List.length_cons] at h
      rw [cuts_part nn, join_cons (cuts_ne r), join_cuts n r (by omega)]
    · rw [cuts_last hc]
      rfl
theorem cuts_join {ws : List (List Nat)} (h : ws ≠ []) (hp : ∀ w ∈ ws, (32 : Nat) ∉ w) : cuts 32 (TL.joinL [32] ws) = ws := TL.spl_join h hp
theorem cuts_free : ∀ (n : Nat) (l : List Nat), l.length ≤ n → ∀ w ∈ cuts 32 l, (32 : Nat) ∉ w
  | 0, l, h, w, hw => by
    have : l = [] := List.eq_nil_of_length_eq_zero (by omega)
    subst this
    rw [cuts_last (by simp), List.mem_singleton] at hw
    rw [hw]
    simp
  | n + 1, l, h, w, hw => by
    by_cases hc : (32 : Nat) ∈ l
    · obtain ⟨p, r, e, nn⟩ := split_first hc
      subst e
      rw [List.length_append, List.length_cons] at h
      rw [cuts_part nn] at hw
      rcases List.mem_cons.mp hw with z | z
      · rw [z]; exact nn
      · exact cuts_free n r (by omega) w z
    · rw [cuts_last hc, List.mem_singleton] at hw
      rw [hw]; exact hc
/-! ### where a bar stands behind a blank -/
def hasBar : List Nat → Bool
  | [] => false
  | [_] => false
  | x :: y :: r => (decide (x = 32) && decide (y = 124)) || hasBar (y :: r)
theorem pre2 {X : List Nat} : TL.pre bar X = true ↔ X[0]? = some 32 ∧ X[1]? = some 124 := by
  match X with
  | [] => simp [TL.pre]
  | [x] => simp [TL.pre]
  | x :: y :: r => simp [TL.pre]
theorem hasBar_at : ∀ (L : List Nat) (i : Nat), L[i]? = some 32 → L[i + 1]? = some 124 → hasBar L = true
  | [], i, h, _ => by simp at h
  | [x], 0, _, h => by simp at h
  | [x], i + 1, h, _ => by simp at h
  | x :: y :: r, 0, h1, h2 => by
    have e1 : x = 32 := by simpa using h1
    have e2 : y = 124 := by simpa using h2
    simp [hasBar, e1, e2]
  | x :: y :: r, i + 1, h1, h2 => by
    have := hasBar_at (y :: r) i (by simpa using h1) (by simpa using h2)
    rw [hasBar, this]
    simp
theorem free_bar : ∀ {l : List Nat}, (32 : Nat) ∉ l → hasBar l = false
  | [], _ => rfl
  | [_], _ => rfl
  | x :: y :: r, h => by
    have h1 : ¬ x = 32 := fun z => h (by rw [z]; simp)
    have h2 : (32 : Nat) ∉ y :: r := fun z => h (List.mem_cons_of_mem _ z)
    rw [hasBar, free_bar h2]
    simp [h1]
theorem bar_app : ∀ (J r : List Nat), hasBar (J ++ 32 :: r) = (hasBar J || hasBar (32 :: r))
  | [], r => rfl
  | [x], r => by
    show hasBar (x :: 32 :: r) = _
    rw [hasBar]
    simp [hasBar]
  | x :: y :: J, r => by
    have ih := bar_app (y :: J) r
    show hasBar (x :: y :: (J ++ 32 :: r)) = (hasBar (x :: y :: J) || hasBar (32 :: r))
    rw [hasBar, hasBar, show hasBar (y :: (J ++ 32 :: r)) = (hasBar (y :: J) || hasBar (32 :: r)) from ih, Bool.or_assoc]
theorem bar_word {w : List Nat} (h : (32 : Nat) ∉ w) (hb : w.head? ≠ some 124) : hasBar (32 :: w) = false := by
  cases w with
  | nil => rfl
  | cons y r =>
    have : ¬ y = 124 := fun z => hb (by rw [z]; rfl)
    rw [hasBar, free_bar h]
    simp [this]
theorem pre_no {p : List Nat} (h : hasBar p = false) (rest : List Nat) : ∀ i, i < p.length → TL.pre bar ((p ++ (bar ++ rest)).drop i) = false := fun i hi => by
  cases hz : TL.pre bar ((p ++ (bar ++ rest)).drop i) with
  | false => rfl
  | true =>
    obtain ⟨h1, h2⟩ := pre2.mp hz
    rw [List.getElem?_drop] at h1 h2
    by_cases hl : i + 1 < p.length
    · rw [List.getElem?_append_left (by omega)] at h1
      rw [List.getElem?_append_left (by omega)] at h2
      rw [hasBar_at p i h1 h2] at h
      cases h
    · have : i + 1 = p.length := by omega
      rw [List.getElem?_append_right (by omega), this] at h2
      simp at h2
theorem pre_none {p : List Nat} (h : hasBar p = false) : ∀ i, i < p.length → TL.pre bar (p.drop i) = false := fun i hi => by
  cases hz : TL.pre bar (p.drop i) with
  | false => rfl
  | true =>
    obtain ⟨h1, h2⟩ := pre2.mp hz
    rw [List.getElem?_drop] at h1 h2
    rw [hasBar_at p i h1 h2] at h
    cases h
/-- the words of the parts -/
def partsW : List (List Nat) → List (List Nat) → List (List (List Nat))
  | cur, [] => [cur]
  | cur, w :: ws => if w.head? = some 124 then cur :: partsW [w.drop 1] ws else partsW (cur ++ [w]) ws
theorem spl_words : ∀ (ws cur : List (List Nat)), cur ≠ [] → hasBar (TL.joinL [32] cur) = false → (∀ w ∈ ws, (32 : Nat) ∉ w) → TL.spl bar 0 [] (TL.joinL [32] (cur ++ ws)) = (partsW cur ws).map (TL.joinL [32])
  | [], cur, _, hb, _ => by
    rw [List.append_nil, partsW]
    exact (TL.spl_last (pre_none hb)).trans (by simp)
  | w :: ws, cur, hn, hb, hw => by
    have hws : ∀ v ∈ ws, (32 : Nat) ∉ v := fun v hv => hw v (List.mem_cons_of_mem _ hv)
    have hw0 := hw w List.mem_cons_self
    rw [partsW]
    by_cases h : w.head? = some 124
    · rw [if_pos h]
      obtain ⟨w', rfl⟩ : ∃ w', w = 124 :: w' := by
        cases w with
        | nil => cases h
        | cons x r => exact ⟨r, by simpa using h⟩
      have f1 : (32 : Nat) ∉ w' := fun z => hw0 (List.mem_cons_of_mem _ z)
      have e : TL.joinL [32] (cur ++ (124 :: w') :: ws) = TL.joinL [32] cur ++ (bar ++ TL.joinL [32] ([w'] ++ ws)) := by
        rw [join_app hn (by simp)]
        cases ws with
        | nil => rfl
        | cons q r => rfl
      rw [e, TL.spl_part (by simp) (pre_no hb _), spl_words ws [w'] (by simp) (free_bar f1) hws]
      rfl
    · rw [if_neg h]
      have hb2 : hasBar (TL.joinL [32] (cur ++ [w])) = false := by
        rw [join_app hn (by simp), bar_app, hb]
        exact bar_word hw0 h
      have := spl_words ws (cur ++ [w]) (by simp) hb2 hws
      rw [List.append_assoc] at this
      exact this
theorem partsW_head : ∀ (ws cur : List (List Nat)), ∃ t Gs, partsW cur ws = (cur ++ t) :: Gs
  | [], cur => ⟨[], [], by rw [partsW, List.append_nil]⟩
  | w :: ws, cur => by
    rw [partsW]
    by_cases h : w.head? = some 124
    · rw [if_pos h]
      exact ⟨[], _, by rw [List.append_nil]⟩
    · rw [if_neg h]
      obtain ⟨t, Gs, e⟩ := partsW_head ws (cur ++ [w])
      exact ⟨w :: t, Gs, by rw [e, List.append_assoc]; rfl⟩
theorem partsW_mem : ∀ (ws cur : List (List Nat)), cur ≠ [] → ∀ G ∈ partsW cur ws, G ≠ [] ∧ ∀ w ∈ G, w ∈ cur ∨ w ∈ ws ∨ ∃ v ∈ ws, w = v.drop 1
  | [], cur, hn, G, hG => by
    rw [partsW, List.mem_singleton] at hG
    subst hG
    exact ⟨hn, fun w hw => .inl hw⟩
  | v :: ws, cur, hn, G, hG => by
    rw [partsW] at hG
    by_cases h : v.head? = some 124
    · rw [if_pos h] at hG
      rcases List.mem_cons.mp hG with z | z
      · subst z
        exact ⟨hn, fun w hw => .inl hw⟩
      · obtain ⟨h1, h2⟩ := partsW_mem ws [v.drop 1] (by simp) G z
        refine ⟨h1, fun w hw => ?_⟩
        rcases h2 w hw with y | y | ⟨u, hu, e⟩
        · exact .inr (.inr ⟨v, List.mem_cons_self, List.mem_singleton.mp y⟩)
        · exact .inr (.inl (List.mem_cons_of_mem _ y))
        · exact .inr (.inr ⟨u, List.mem_cons_of_mem _ hu, e⟩)
    · rw [if_neg h] at hG
      obtain ⟨h1, h2⟩ := partsW_mem ws (cur ++ [v]) (by simp) G hG
      refine ⟨h1, fun w hw => ?_⟩
      rcases h2 w hw with y | y | ⟨u, hu, e⟩
      · rcases List.mem_append.mp y with y | y
        · exact .inl y
        · exact .inr (.inl (by rw [List.mem_singleton.mp y]; exact List.mem_cons_self))
      · exact .inr (.inl (List.mem_cons_of_mem _ y))
      · exact .inr (.inr ⟨u, List.mem_cons_of_mem _ hu, e⟩)
/-! ### clean words -/
def cleanW (w : List Nat) : Prop := w = [124] ∨ goodW w = true
theorem good_head {w : List Nat} (h : goodW w = true) : w.head? ≠ some 124 := fun z => by
  cases w with
  | nil => cases z
  | cons x r =>
    have e : x = 124 := by simpa using z
    subst e
    exact goodW_free h (c := 124) (by decide) List.mem_cons_self
/-- a part behind a bar -/
def okG (G : List (List Nat)) : Prop := G.head? = some [] ∧ ∀ w ∈ G.tail, goodW w = true
theorem clean_of : ∀ (ws cur : List (List Nat)), cur ≠ [] → (∀ G ∈ partsW cur ws, okG G) → ∀ w ∈ ws, cleanW w
  | [], cur, _, _, w, hw => by cases hw
  | v :: ws, cur, hn, h, w, hw => by
    rw [partsW] at h
    by_cases hv : v.head? = some 124
    · rw [if_pos hv] at h
      have h2 := clean_of ws [v.drop 1] (by simp) fun G hG => h G (List.mem_cons_of_mem _ hG)
      rcases List.mem_cons.mp hw with z | z
      · subst z
        obtain ⟨t, Gs, e⟩ := partsW_head ws [w.drop 1]
        have h3 := (h (([w.drop 1]) ++ t) (List.mem_cons_of_mem _ (by rw [e]; exact List.mem_cons_self))).1
        have h4 : w.drop 1 = [] := by simpa using h3
        cases w with
        | nil => cases hv
        | cons x r =>
          have e1 : x = 124 := by simpa using hv
          have e2 : r = [] := by simpa using h4
          exact .inl (by rw [e1, e2])
      · exact h2 w z
    · rw [if_neg hv] at h
      have h2 := clean_of ws (cur ++ [v]) (by simp) h
      rcases List.mem_cons.mp hw with z | z
      · subst z
        obtain ⟨t, Gs, e⟩ := partsW_head ws (cur ++ [w])
        have h3 := (h ((cur ++ [w]) ++ t) (by rw [e]; exact List.mem_cons_self)).2 w (by
          cases cur with
          | nil => exact absurd rfl hn
          | cons a b => simp)
        exact .inr h3
      · exact h2 w z
theorem clean_first : ∀ (ws cur : List (List Nat)) (G0 : List (List Nat)) (Gs : List (List (List Nat))), partsW cur ws = G0 :: Gs → (∀ w ∈ G0, goodW w = true) → (∀ G ∈ Gs, okG G) → (∀ w ∈ cur, goodW w = true) ∧ ∀ w ∈ ws, cleanW w
  | [], cur, G0, Gs, e, h0, hs => by
    rw [partsW] at e
    injection e with e1 e2
    subst e1
    exact ⟨h0, fun w hw => by cases hw⟩
  | v :: ws, cur, G0, Gs, e, h0, hs => by
    rw [partsW] at e
    by_cases hv : v.head? = some 124
    · rw [if_pos hv] at e
      injection e with e1 e2
      subst e1 e2
      refine ⟨h0, fun w hw => ?_⟩
      have h2 := clean_of ws [v.drop 1] (by simp) hs
      rcases List.mem_cons.mp hw with z | z
      · subst z
        obtain ⟨t, Gs, e⟩ := partsW_head ws [w.drop 1]
        have h3 := (hs (([w.drop 1]) ++ t) (by rw [e]; exact List.mem_cons_self)).1
        have h4 : w.drop 1 = [] := by simpa using h3
        cases w with
        | nil => cases hv
        | cons x r =>
          have e1 : x = 124 := by simpa using hv
          have e2 : r = [] := by simpa using h4
          exact .inl (by rw [e1, e2])
      · exact h2 w z
    · rw [if_neg hv] at e
      obtain ⟨h1, h2⟩ := clean_first ws (cur ++ [v]) G0 Gs e h0 hs
      refine ⟨fun w hw => h1 w (List.mem_append_left _ hw), fun w hw => ?_⟩
      rcases List.mem_cons.mp hw with z | z
      · rw [z]; exact .inr (h1 v (by simp))
      · exact h2 w z
/-! ### the law's groups -/
def gI : List Int → List (List Nat) → List (List Int)
  | cur, [] => [cur]
  | cur, w :: ws => if w = [124] then cur :: gI [] ws else gI (cur ++ [numI w]) ws
/-- rows, and what stands behind the first bar -/
def rowsW : List (List Nat) → List (List Nat)
  | [] => []
  | w :: ws => if w = [124] then [] else w :: rowsW ws
def restW : List (List Nat) → List (List Nat)
  | [] => []
  | w :: ws => if w = [124] then w :: ws else restW ws
def stepsW : List (List Nat) → List (List Int)
  | [] => []
  | _ :: r => gI [] r
theorem gI_good : ∀ (ws : List (List Nat)) (cur : List Int), (∀ s ∈ gI cur ws, ∀ x ∈ s, 0 ≤ x) → ∀ w ∈ ws, cleanW w
  | [], cur, _, w, hw => by cases hw
  | v :: ws, cur, h, w, hw => by
    rw [gI] at h
    by_cases hv : v = [124]
    · rw [if_pos hv] at h
      rcases List.mem_cons.mp hw with z | z
      · exact .inl (z.trans hv)
      · exact gI_good ws [] (fun s hs => h s (List.mem_cons_of_mem _ hs)) w z
    · rw [if_neg hv] at h
      rcases List.mem_cons.mp hw with z | z
      · subst z
        have key : ∀ (ws : List (List Nat)) (cur : List Int), ∃ t Gs, gI cur ws = (cur ++ t) :: Gs := by
          intro ws
          induction ws with
          | nil => intro cur; exact ⟨[], [], by rw [gI, List.append_nil]⟩
          | cons u us ih =>
            intro cur
            rw [gI]
            by_cases hu : u = [124]
            · rw [if_pos hu]; exact ⟨[], _, by rw [List.append_nil]⟩
            · rw [if_neg hu]
              obtain ⟨t, Gs, e⟩ := ih (cur ++ [numI u])
              exact ⟨numI u :: t, Gs, by rw [e, List.append_assoc]; rfl⟩
        obtain ⟨t, Gs, e⟩ := key ws (cur ++ [numI w])
        exact .inr (numI_pos (h _ (by rw [e]; exact List.mem_cons_self) (numI w) (by simp)))
      · exact gI_good ws (cur ++ [numI v]) h w z
theorem clean_groups : ∀ (ws T : List (List Nat)), (∀ w ∈ ws, cleanW w) → (∀ w ∈ T, goodW w = true) → (partsW ([] :: T) ws).map (fun G => G.tail.map numV) = gI (T.map numI) ws ∧ ∀ G ∈ partsW ([] :: T) ws, okG G
  | [], T, _, hT => by
    refine ⟨?_, fun G hG => ?_⟩
    · simp only [partsW, gI, List.map_cons, List.map_nil, List.tail_cons]
      congr 1
      exact List.map_congr_left fun w hw => (if_pos (hT w hw)).symm
    · rw [partsW, List.mem_singleton] at hG
      subst hG
      exact ⟨rfl, hT⟩
  | w :: ws, T, hc, hT => by
    have hcs : ∀ v ∈ ws, cleanW v := fun v hv => hc v (List.mem_cons_of_mem _ hv)
    rw [partsW, gI]
    rcases hc w List.mem_cons_self with hw | hw
    · subst hw
      obtain ⟨h1, h2⟩ := clean_groups ws [] hcs (fun w h => by cases h)
      rw [if_pos (show ([124] : List Nat).head? = some 124 from rfl), if_pos (show ([124] : List Nat) = [124] from rfl)]
      refine ⟨?_, fun G hG => ?_⟩
      · rw [List.map_cons, show ([124] : List Nat).drop 1 = [] from rfl, h1]
        congr 1
        exact List.map_congr_left fun w hw => (if_pos (hT w hw)).symm
      · rcases List.mem_cons.mp hG with z | z
        · subst z; exact ⟨rfl, hT⟩
        · exact h2 G z
    · have hne : ¬ w = [124] := fun z => good_head hw (by rw [z]; rfl)
      rw [if_neg (good_head hw), if_neg hne]
      have := clean_groups ws (T ++ [w]) hcs fun v hv => (List.mem_append.mp hv).elim (hT v) fun z => by rw [List.mem_singleton.mp z]; exact hw
      rw [List.map_append] at this
      have e : [w].map numI = [numI w] := rfl
      rw [e] at this
      exact this
theorem clean_all : ∀ (ws cur : List (List Nat)), (∀ w ∈ ws, cleanW w) → (∀ w ∈ cur, goodW w = true) →
    ∃ Gs, partsW cur ws = (cur ++ rowsW ws) :: Gs ∧ Gs.map (fun G => G.tail.map numV) = stepsW (restW ws) ∧ (∀ G ∈ Gs, okG G) ∧ ∀ w ∈ rowsW ws, goodW w = true
  | [], cur, _, hT => ⟨[], by rw [partsW, rowsW, List.append_nil], rfl, (fun G h => by cases h), fun w h => by cases h⟩
  | w :: ws, cur, hc, hT => by
    have hcs : ∀ v ∈ ws, cleanW v := fun v hv => hc v (List.mem_cons_of_mem _ hv)
    rw [partsW, rowsW, restW]
    rcases hc w List.mem_cons_self with hw | hw
    · subst hw
      obtain ⟨h1, h2⟩ := clean_groups ws [] hcs (fun w h => by cases h)
      rw [if_pos (show ([124] : List Nat).head? = some 124 from rfl), if_pos (show ([124] : List Nat) = [124] from rfl), if_pos (show ([124] : List Nat) = [124] from rfl)]
      exact ⟨_, by rw [List.append_nil]; rfl, h1, h2, fun w h => by cases h⟩
    · have hne : ¬ w = [124] := fun z => good_head hw (by rw [z]; rfl)
      rw [if_neg (good_head hw), if_neg hne, if_neg hne]
      obtain ⟨Gs, e1, e2, e3, e4⟩ := clean_all ws (cur ++ [w]) hcs fun v hv => (List.mem_append.mp hv).elim (hT v) fun z => by rw [List.mem_singleton.mp z]; exact hw
      refine ⟨Gs, by rw [e1, List.append_assoc]; rfl, e2, e3, fun v hv => ?_⟩
      rcases List.mem_cons.mp hv with z | z
      · rw [z]; exact hw
      · exact e4 v z
theorem rows_clean : ∀ (ws : List (List Nat)), (∀ w ∈ rowsW ws, goodW w = true) → (∀ w ∈ restW ws, cleanW w) → ∀ w ∈ ws, cleanW w
  | [], _, _, w, hw => by cases hw
  | v :: ws, h1, h2, w, hw => by
    rw [rowsW] at h1
    rw [restW] at h2
    by_cases hv : v = [124]
    · rw [if_pos hv] at h2
      exact h2 w hw
    · rw [if_neg hv] at h1 h2
      rcases List.mem_cons.mp hw with z | z
      · rw [z]; exact .inr (h1 v List.mem_cons_self)
      · exact rows_clean ws (fun u hu => h1 u (List.mem_cons_of_mem _ hu)) h2 w z
end FS
set_option Elab.async false
set_option linter.all false
set_option maxRecDepth 100000
set_option autoImplicit false
/-! More of the plain meaning: zip of a tuple and a list, least and greatest of a list, f of what is taken off a list. -/
namespace FS
open PySem
@[simp] def iZipMx (fa fb : EF) : ZF := fun e => match fa e with
  | some (.d (.tuple ys)) => (match fb e with
    | some (.d (.list zs)) => some (zipD ys zs)
    | _ => none)
  | _ => none
def minI : List Int → Int → Int
  | [], a => a
  | b :: r, a => minI r (if b < a then b else a)
def maxI : List Int → Int → Int
  | [], a => a
  | b :: r, a => maxI r (if b > a then b else a)
theorem minI_mem : ∀ (r : List Int) (a : Int), minI r a = a ∨ minI r a ∈ r
  | [], a => .inl rfl
  | b :: r, a => by
    rw [minI]
    rcases minI_mem r (if b < a then b else a) with h | h
    · rw [h]
      by_cases hb : b < a
      · rw [if_pos hb]; exact .inr List.mem_cons_self
      · rw [if_neg hb]; exact .inl rfl
    · exact .inr (List.mem_cons_of_mem _ h)
theorem minI_le : ∀ (r : List Int) (a : Int), minI r a ≤ a ∧ ∀ y ∈ r, minI r a ≤ y
  | [], a => ⟨Int.le_refl _, fun y h => by cases h⟩
  | b :: r, a => by
    rw [minI]
    obtain ⟨h1, h2⟩ := minI_le r (if b < a then b else a)
    have h3 : (if b < a then b else a) ≤ a ∧ (if b < a then b else a) ≤ b := by split <;> omega
    refine ⟨Int.le_trans h1 h3.1, fun y hy => ?_⟩
    rcases List.mem_cons.mp hy with z | z
    · rw [z]; exact Int.le_trans h1 h3.2
    · exact h2 y z
theorem maxI_mem : ∀ (r : List Int) (a : Int), maxI r a = a ∨ maxI r a ∈ r
  | [], a => .inl rfl
  | b :: r, a => by
    rw [maxI]
    rcases maxI_mem r (if b > a then b else a) with h | h
    · rw [h]
      by_cases hb : b > a
      · rw [if_pos hb]; exact .inr List.mem_cons_self
      · rw [if_neg hb]; exact .inl rfl
    · exact .inr (List.mem_cons_of_mem _ h)
theorem maxI_ge : ∀ (r : List Int) (a : Int), a ≤ maxI r a ∧ ∀ y ∈ r, y ≤ maxI r a
  | [], a => ⟨Int.le_refl _, fun y h => by cases h⟩
  | b :: r, a => by
    rw [maxI]
    obtain ⟨h1, h2⟩ := maxI_ge r (if b > a then b else a)
    have h3 : a ≤ (if b > a then b else a) ∧ b ≤ (if b > a then b else a) := by split <;> omega
    refine ⟨Int.le_trans h3.1 h1, fun y hy => ?_⟩
    rcases List.mem_cons.mp hy with z | z
    · rw [z]; exact Int.le_trans h3.2 h1
    · exact h2 y z
/-- min(l), max(l) -/
def fMinL (r : RV) : Option RV := match r.lst with
  | some xs => (match intsOfD xs with
    | some (n :: ns) => some (.d (.int (minI ns n)))
    | _ => none)
  | none => none
def fMaxL (r : RV) : Option RV := match r.lst with
  | some xs => (match intsOfD xs with
    | some (n :: ns) => some (.d (.int (maxI ns n)))
    | _ => none)
  | none => none
/-- x.append(f(y.pop(0))) -/
@[simp] def sAppPop (i j : Nat) (F : FF) : SF := fun e => if i = j then none else match getS e i with
  | some (.own xs) => (match getS e j with
    | some (.own (y :: ys)) => (match F [.d y] with
      | some (.d z) => if xs.length < lim then some (.nx (putS (putS e j (.own ys)) i (.own (xs ++ [z])))) else none
      | _ => none)
    | _ => none)
  | _ => none
end FS
set_option Elab.async false
set_option linter.all false
set_option maxRecDepth 100000
set_option maxHeartbeats 8000000
set_option autoImplicit false
/-! zip of a tuple and a list. -/
namespace FS
open PySem L2 PyProof.Rows PySem.Spec

def ItzM (K : PySem.W.Frag) (a b : Addr) : It :=
  ⟨fun i H => ∃ (xs ys : List V) (x y : V), SqT K H a xs ∧ SqL K H b ys ∧ xs[i]? = some x ∧ ys[i]? = some y,
    fun i H v H' => ∃ T x y, v = .ref T ∧ H T = none ∧ H' = upd H T (.tup [x, y]) ∧ (∀ us, SqT K H a us → us[i]? = some x) ∧ ∀ us, SqL K H b us → us[i]? = some y,
    fun i H => ∃ xs ys : List V, SqT K H a xs ∧ SqL K H b ys ∧ (xs.length = i ∨ ys.length = i) ∧ i ≤ xs.length ∧ i ≤ ys.length⟩
theorem turn_zipM {P : Program} {w : World} {K : PySem.W.Frag} {elts : List Expr} {kk : Nat} {tpos : Pos} {a b z TI TO i1 i2 : Addr} (S : ZipSep2 z TI TO i1 i2 [i1, a] [i2, b]) :
    Turn P w K (.Tuple elts kk tpos) (ItzM K a b) [z, TI, TO, i1, i2] z (fun i h => IsZip h z TI TO .none ∧ IsTupOf2 h TI (.ref i1) (.ref i2) ∧ (∃ x y, IsTupOf2 h TO x y) ∧ h.IsTupleIter i1 a i ∧ h.IsListIter i2 b i) where
  mem := by simp
  obj := fun i h st c hc => by
    obtain ⟨hz, hTI, ⟨x, y, hTO⟩, ⟨o1, e1, _, d1⟩, ⟨o2, e2, _, d2⟩⟩ := st
    rcases (by simpa using hc : c = z ∨ c = TI ∨ c = TO ∨ c = i1 ∨ c = i2) with rfl | rfl | rfl | rfl | rfl
    · exact ⟨_, hz, fun v q => nomatch q⟩
    · exact ⟨_, hTI, fun v q => nomatch q⟩
    · exact ⟨_, hTO, fun v q => nomatch q⟩
    · exact ⟨o1, e1, fun v q => by rw [d1] at q; cases q⟩
    · exact ⟨o2, e2, fun v q => by rw [d2] at q; cases q⟩
  keep := fun i h g st k => by
    obtain ⟨hz, hTI, ⟨x, y, hTO⟩, h1, h2⟩ := st
    exact ⟨k z (by simp) _ hz, k TI (by simp) _ hTI, ⟨x, y, k TO (by simp) _ hTO⟩, h1.at fun o q => k i1 (by simp) o q, h2.at fun o q => k i2 (by simp) o q⟩
  item := by
    intro X hP hw hK hc i pn s σ H E I hf st hg
    subst hP hw hK
    obtain ⟨hz, hTI, ⟨x0, y0, hTO⟩, h1, h2⟩ := st
    obtain ⟨xs, ys, x, y, qx, qy, hx, hy⟩ := hg
    obtain ⟨its, rv, p, _⟩ := I.tuple qx
    obtain ⟨jts, rw', p2, _⟩ := I.list qy
    obtain ⟨u, hu, ru⟩ := rv.get hx
    obtain ⟨u2, hu2, ru2⟩ := rw'.get hy
    have zlt : z < s.heap.objs.size := Heap.lt_size hz
    have lt1 : i < its.toArray.size := by
      obtain ⟨q, _⟩ := List.getElem?_eq_some_iff.mp hu
      rwa [List.size_toArray]
    have lt2 : i < jts.toArray.size := by
      obtain ⟨q, _⟩ := List.getElem?_eq_some_iff.mp hu2
      rwa [List.size_toArray]
    have ne1 : a ≠ i1 := fun q => by
      obtain ⟨o, ho, hcl, _⟩ := p
      obtain ⟨o', ho', hcl', _⟩ := h1
      rw [q, ho'] at ho
      cases ho
      rw [hcl] at hcl'
      injection hcl' with q1
      exact absurd q1 (by decide)
    have ne2 : b ≠ i2 := fun q => by
      obtain ⟨o, ho, hcl, _⟩ := p2.isList
      obtain ⟨o', ho', hcl', _⟩ := h2
      rw [q, ho'] at ho
      cases ho
      rw [hcl] at hcl'
      injection hcl' with q1
      exact absurd q1 (by decide)
    refine wpAny_pyNext_zipD2_item S (Draws.tuple (A := X.A.in1) (I.ok.hd hc) i1 a ne1 its.toArray) (Draws.list (A := X.A.in1) (I.ok.hd hc) i2 b ne2 jts.toArray) hz hTI hTO ⟨h1, p⟩ ⟨h2, p2.isList⟩ lt1 lt2
      fun v1 v2 g tk P1 P2 z' TO' s1' s2' hT hsz hk => ?_
    have e1 : v1 = u := by
      have q : its.toArray[i]? = some u := by simpa using hu
      rw [q] at P1
      exact (Option.some.inj P1).symm
    have e2 : v2 = u2 := by
      have q : jts.toArray[i]? = some u2 := by simpa using hu2
      rw [q] at P2
      exact (Option.some.inj P2).symm
    subst e1 e2
    refine ⟨_, rfl, wpAny_letOwnedTupleGo_zip (s := { s with heap := g, toks := tk }) z' fun g2 z2 sb => ?_⟩
    have hT2 : g2.get? s.heap.objs.size = some { cls := .type "tuple", data := .seq #[v1, v2] } := (sb.2 _ (Nat.ne_of_gt zlt)).trans hT
    have new : ObjOk X.prog X.w (upd H s.heap.objs.size (.tup [x, y])) g2 s.heap.objs.size (.tup [x, y]) := ⟨by show 2 ≤ sizeLine; decide, [v1, v2], .cons ru (.cons ru2 .nil), ⟨_, hT2, rfl, _, rfl⟩⟩
    have far : ∀ c o, c ∉ [z, TI, TO, i1, i2] → s.heap.get? c = some o → g2.get? c = some o := fun c o n q => by
      simp only [List.mem_cons, List.not_mem_nil, or_false, not_or] at n
      exact (sb.2 c n.1).trans (hk c o n.1 n.2.2.1 n.2.2.2.1 n.2.2.2.2 q)
    have I1 : L2.Inv X pn σ (upd H s.heap.objs.size (.tup [x, y])) { s with heap := g2, toks := tk } := I.turnedNew (ch := [z, TI, TO, i1, i2]) far hf (Nat.le_refl _) new
    refine ⟨.ref s.heap.objs.size, _, I1, rfl, ⟨_, x, y, rfl, I.hok.fresh (Nat.le_refl _), rfl, fun l hl => by rw [I.tuple_inj hl qx]; exact hx, fun l hl => by rw [I.list_inj hl qy]; exact hy⟩, ⟨z2, ?_, ⟨v1, v2, ?_⟩, ?_, ?_⟩, fun c hcm => ?_⟩
    · exact (sb.2 _ S.TIz).trans (hk _ _ S.TIz S.TITO S.TIi1 S.TIi2 hTI)
    · exact (sb.2 _ S.TOz).trans TO'
    · exact s1'.1.at fun o q => (sb.2 _ (Ne.symm S.zi1)).trans q
    · exact s2'.1.at fun o q => (sb.2 _ (Ne.symm S.zi2)).trans q
    · have below : c < s.heap.objs.size := by
        rcases (by simpa using hcm : c = z ∨ c = TI ∨ c = TO ∨ c = i1 ∨ c = i2) with rfl | rfl | rfl | rfl | rfl
        · exact zlt
        · exact Heap.lt_size hTI
        · exact Heap.lt_size hTO
        · obtain ⟨_, q, _⟩ := h1; exact Heap.lt_size q
        · obtain ⟨_, q, _⟩ := h2; exact Heap.lt_size q
      rw [upd_ne (Nat.ne_of_lt below)]
      exact (hf c hcm).1
  done := by
    intro X hP hw hK hc i pn s σ H E I hf st hg
    subst hP hw hK
    obtain ⟨hz, hTI, ⟨x0, y0, hTO⟩, h1, h2⟩ := st
    obtain ⟨xs, ys, qx, qy, hend, hl1, hl2⟩ := hg
    obtain ⟨its, rv, p, _⟩ := I.tuple qx
    obtain ⟨jts, rw', p2, _⟩ := I.list qy
    have l1 := rv.length
    have l2 := rw'.length
    have ne1 : a ≠ i1 := fun q => by
      obtain ⟨o, ho, hcl, _⟩ := p
      obtain ⟨o', ho', hcl', _⟩ := h1
      rw [q, ho'] at ho
      cases ho
      rw [hcl] at hcl'
      injection hcl' with q1
      exact absurd q1 (by decide)
    have ne2 : b ≠ i2 := fun q => by
      obtain ⟨o, ho, hcl, _⟩ := p2.isList
      obtain ⟨o', ho', hcl', _⟩ := h2
      rw [q, ho'] at ho
      cases ho
      rw [hcl] at hcl'
      injection hcl' with q1
      exact absurd q1 (by decide)
    refine wpAny_pyNext_zipD2_end S (Draws.tuple (A := X.A.in1) (I.ok.hd hc) i1 a ne1 its.toArray) (Draws.list (A := X.A.in1) (I.ok.hd hc) i2 b ne2 jts.toArray) hz hTI hTO ⟨h1, p⟩ ⟨h2, p2.isList⟩
      (by rw [List.size_toArray]; omega) (by rw [List.size_toArray]; omega) (by rw [List.size_toArray, List.size_toArray]; omega) fun g tk hk => ⟨rfl, I.turnedL (t' := tk) (ch := [z, TI, TO, i1, i2]) (fun c o n q => ?_) hf⟩
    simp only [List.mem_cons, List.not_mem_nil, or_false, not_or] at n
    exact hk c o n.1 n.2.2.1 n.2.2.2.1 n.2.2.2.2 q
  self := fun A i s Q E st h => wpAny_pyIter_zip st.1 h
section
variable {X : Cx}
def iZipM (K : PySem.W.Frag) (ta : TA) : TI := fun σ H R => ta σ H fun vs H1 => ∃ a b xs ys, vs = [.ref a, .ref b] ∧ SqT K H1 a xs ∧ SqL K H1 b ys ∧ R (ItzM K a b) H1
theorem pi_zipM {e e2 : Expr} {ta : TA} {p pos tpos : Pos} {elts : List Expr} {kk : Nat} (hg : Gl X "zip") (hm : X.mg "zip" = none) (ha : PA X [e, e2] ta)
    (hs : starEach [e, e2] X.env = (false, eval e X.env) :: starEach [e2] X.env := by rfl) (hpl : (backTo pos (starEach [e2] X.env)).any (·.1) = false := by rfl) :
    PI X (.Tuple elts kk tpos) (.Call (.Name "zip" p) [e, e2] [] pos) (iZipM X.K ta) := by
  constructor
  intro pn s σ H R I h
  refine Call_ (ld_blt I hg hm PyProof.Rows.boot_zip (PyProof.Rows.callWith_type1 (thn (ha.run pos pn s σ H _ I h) fun us s1 ⟨vs, H1, I1, r1, q1⟩ => ?_) hs hpl))
  obtain ⟨a, b, xs, ys, ex, qx, qy, q⟩ := q1
  subst ex
  cases r1 with
  | cons r rr =>
    cases rr with
    | cons r' rr =>
      cases rr
      cases r
      cases r'
      obtain ⟨its, rv, p1, _⟩ := I1.tuple qx
      obtain ⟨jts, rw', p2, _⟩ := I1.list qy
      obtain ⟨o1, ho1, _⟩ := id p1
      have sep := zip_sep2 (N := s1.heap.objs.size) (fp1 := [a]) (fp2 := [b]) (fun c hcm => by rw [List.mem_singleton.mp hcm]; exact Heap.lt_size ho1) (fun c hcm => by rw [List.mem_singleton.mp hcm]; exact p2.lt)
      refine zip_begins2 (begins_tuple a its.toArray) (begins_list b jts.toArray) (show s1.heap.IsTuple a its.toArray from p1) p2.isList fun g hz hTI hTO g1 g2 hsz hk => wpAny_pyIter_zip hz ?_
      have I2 : L2.Inv X pn σ H1 { s1 with heap := g } := I1.kept (t' := s1.toks) hk
      refine ⟨s1.heap.objs.size + 4, [s1.heap.objs.size + 4, s1.heap.objs.size + 2, s1.heap.objs.size + 3, s1.heap.objs.size, s1.heap.objs.size + 1], _, _, H1, rfl, I2, turn_zipM sep, ⟨hz, hTI, ⟨_, _, hTO⟩, ⟨_, g1, rfl, rfl⟩, ⟨_, g2, rfl, rfl⟩⟩, fun c hcm => ?_, q⟩
      have up : s1.heap.objs.size ≤ c := by
        rcases (by simpa using hcm : c = s1.heap.objs.size + 4 ∨ c = s1.heap.objs.size + 2 ∨ c = s1.heap.objs.size + 3 ∨ c = s1.heap.objs.size ∨ c = s1.heap.objs.size + 1) with z | z | z | z | z <;> rw [z]
        · exact Nat.le_add_right _ _
        · exact Nat.le_add_right _ _
        · exact Nat.le_add_right _ _
        · exact Nat.le_refl _
        · exact Nat.le_add_right _ _
      exact I1.fpOk up (I1.hok.fresh up)
theorem wb_zipM {G : Gd} {H2 : Hp} {xs ys : List D} {a b : Addr} {vs ws : List V} (h : SqT G.K H2 a vs) (d : Dens G H2 xs vs) (h' : SqL G.K H2 b ws) (d' : Dens G H2 ys ws) : WB G (ItzM G.K a b) (zipD xs ys) H2 := by
  refine ⟨fun i x hx => ?_, vs, ws, h, h', by rw [d.len, d'.len, zipD_length]; omega⟩
  obtain ⟨y, z, hy, hz, e0⟩ := zipD_get _ _ _ _ hx
  obtain ⟨v, e1, d1⟩ := d.get hy
  obtain ⟨v', e1', d1'⟩ := d'.get hz
  refine ⟨⟨vs, ws, v, v', h, h', e1, e1'⟩, fun u H3 ⟨T, p, q, e2, n, e3, f, f'⟩ => ?_⟩
  have g := f vs h
  have g' := f' ws h'
  rw [e1] at g
  rw [e1'] at g'
  cases g
  cases g'
  subst e2 e3 e0
  exact den_pair n d1 d1'
theorem ji_zipM {C : Addr} {H0 : Hp} {a b : Expr} {fa fb : EF} {p pos tpos : Pos} {elts : List Expr} {kk : Nat} (hg : Gl X "zip") (hm : X.mg "zip" = none) (ha : JE X C H0 a fa) (hb : JE X C H0 b fb) (hs : starEach [a, b] X.env = (false, eval a X.env) :: starEach [b] X.env := by rfl) (h1 : starEach [b] X.env = (false, eval b X.env) :: starEach [] X.env := by rfl) :
    JI X C H0 (.Tuple elts kk tpos) (.Call (.Name "zip" p) [a, b] [] pos) (iZipMx fa fb) :=
  PI.weak (pi_zipM hg hm (pa_cons ha (pa_cons hb pa_nil h1) hs) hs (by rw [h1]; rfl)) fun σ H Rr ⟨e, xs, R, hz, q⟩ => by
    unfold iZipMx at hz
    split at hz
    · rename_i ys hr
      split at hz
      · rename_i zs hs'
        cases hz
        refine ⟨e, _, R, hr, fun v H1 s1 r1 => ⟨e, _, R.go s1, hs', fun u H2 s2 r2 => ?_⟩⟩
        have s12 := s1.trans s2
        have s0 := R.same.trans s12
        obtain ⟨l, vs, e1, k⟩ := (r1.same s2).staysT (H0 := H0) rfl rfl
        obtain ⟨l', ws, e2, k'⟩ := r2.staysL (H0 := H0) rfl rfl
        exact ⟨l, l', vs, ws, by rw [e1, e2], (k H2 (Stab.refl _) s0).1, (k' H2 (Stab.refl _) s0).1, q _ H2 s12 fun H3 s3 s03 => wb_zipM (k H3 s3 s03).1 (k H3 s3 s03).2 (k' H3 s3 s03).1 (k' H3 s3 s03).2⟩
      · cases hz
    · cases hz
end
end FS
set_option Elab.async false
set_option linter.all false
set_option maxRecDepth 100000
set_option maxHeartbeats 4000000
set_option autoImplicit false
/-! Rules: least and greatest of a list, f of what is taken off a list. -/
namespace FS
open PySem L2 PyProof.Rows PySem.Spec
theorem intsD_map {G : Gd} {H : Hp} : ∀ {xs : List D} {ys : List Int} {vs : List V}, intsOfD xs = some ys → Dens G H xs vs → vs = ys.map V.int
  | [], ys, vs, h, d => by cases h; rw [dens_nil.mp d]; rfl
  | .int b :: r, ys, vs, h, d => by
    obtain ⟨bs', h1, h2⟩ := Option.map_eq_some_iff.mp (show (intsOfD r).map (b :: ·) = some ys from h)
    obtain ⟨v, ws, e1, d1, d2⟩ := dens_cons.mp d
    rw [e1, den_int.mp d1, intsD_map h1 d2, ← h2]
    rfl
  | .none :: r, ys, vs, h, d => by cases h
  | .str _ :: r, ys, vs, h, d => by cases h
  | .bool _ :: r, ys, vs, h, d => by cases h
  | .tuple _ :: r, ys, vs, h, d => by cases h
  | .list _ :: r, ys, vs, h, d => by cases h
  | .dict _ :: r, ys, vs, h, d => by cases h
section
variable {X : Cx} {C : Addr} {H0 : Hp} {a : Expr} {fa : EF} {p pos : Pos} {st : Stmt} {i j : Nat}
theorem c_minL {G : Gd} : Cal1 G (rMin G.K) fMinL := by
  intro K0 Ha H x z v r h Q q
  unfold fMinL at h
  split at h
  · rename_i xs hs
    split at h
    · rename_i n ns hn
      cases h
      obtain ⟨ad, vs, e1, k, ds⟩ := r.sqL hs
      rw [intsD_map hn ds] at k
      refine ⟨ad, n :: ns, by rw [e1], k, by simp, fun m hm hl => ?_⟩
      have e : m = minI ns n := by
        have g1 := minI_le ns n
        have g2 : m ≤ minI ns n := by
          rcases minI_mem ns n with z | z
          · rw [z]; exact hl n List.mem_cons_self
          · exact hl _ (List.mem_cons_of_mem _ z)
        have g3 : minI ns n ≤ m := by
          rcases List.mem_cons.mp hm with z | z
          · rw [z]; exact g1.1
          · exact g1.2 m z
        omega
      rw [e]
      exact q _ H (Same.refl H) q_int
    · cases h
  · cases h
theorem je_minL (hc : X.calm = true) (hg : Gl X "min") (hm : X.mg "min" = none) (ha : JE X C H0 a fa) (h1 : St1 X a := by rfl) : JE X C H0 (.Call (.Name "min" p) [a] [] pos) (eUn fMinL fa) := je_b1 (cr_min hc) (c_minL (G := gd X C)) hg hm (by decide +kernel) ha h1
theorem c_maxL {G : Gd} : Cal1 G (rMax G.K) fMaxL := by
  intro K0 Ha H x z v r h Q q
  unfold fMaxL at h
  split at h
  · rename_i xs hs
    split at h
    · rename_i n ns hn
      cases h
      obtain ⟨ad, vs, e1, k, ds⟩ := r.sqL hs
      rw [intsD_map hn ds] at k
      refine ⟨ad, n :: ns, by rw [e1], k, by simp, fun m hm hl => ?_⟩
      have e : m = maxI ns n := by
        have g1 := maxI_ge ns n
        have g2 : maxI ns n ≤ m := by
          rcases maxI_mem ns n with z | z
          · rw [z]; exact hl n List.mem_cons_self
          · exact hl _ (List.mem_cons_of_mem _ z)
        have g3 : m ≤ maxI ns n := by
          rcases List.mem_cons.mp hm with z | z
          · rw [z]; exact g1.1
          · exact g1.2 m z
        omega
      rw [e]
      exact q _ H (Same.refl H) q_int
    · cases h
  · cases h
theorem je_maxL (hc : X.calm = true) (hg : Gl X "max") (hm : X.mg "max" = none) (ha : JE X C H0 a fa) (h1 : St1 X a := by rfl) : JE X C H0 (.Call (.Name "max" p) [a] [] pos) (eUn fMaxL fa) := je_b1 (cr_max hc) (c_maxL (G := gd X C)) hg hm (by decide +kernel) ha h1
theorem js_appPop {F : FF} {E : XK} (h : PS X st (tDrop (tBM X.K "list" rAppend (tVar i) (tCons (tCall (spF (gd X C) 1 F) [] E (tCons (tBM X.K "list" rPopAt (tVar j) (tCons (tC (.int 0)) tNil)) tNil)) tNil)))) : JS X C H0 [] st (sAppPop i j F) := PS.weak h fun D σ H ⟨e, o, R, h, q⟩ => by
  unfold sAppPop at h
  split at h
  · cases h
  · rename_i hij
    split at h
    · rename_i xs hx
      split at h
      · rename_i y ys hy
        split at h
        · rename_i z hz
          split at h
          · rename_i hl
            cases h
            obtain ⟨l, vs, h1, h2, h3, h4⟩ := R.ownAt hx
            obtain ⟨m, ws, g1, g2, g3, g4⟩ := R.ownAt hy
            obtain ⟨w, wr, e1, d1, d2⟩ := dens_cons.mp g4
            subst e1
            have ne : l ≠ m := fun z => by
              rw [← z] at g1
              exact R.apart i j _ _ _ hij (getS_of hx) (getS_of hy) rfl rfl h1 g1
            have st1 := Stab.upd (o := .lst wr) g3
            have R1 := R.chg (c' := .own ys) hy rfl g1 g2 st1 ⟨m, _, rfl, g2, upd_same, d2.stab st1⟩
            refine ⟨_, h1, ty_own h3, _, g1, ty_own g3, m, w :: wr, 0, 0, w, rfl, rfl, g3, by decide, by decide, ?_, rfl, ?_⟩
            · simp [seqIndex?]
            refine ⟨rfl, [.d y], .d z, ⟨w, [], rfl, ⟨Den.stab st1 _ _ d1, rfl⟩, rfl⟩, hz, fun v H2 s2 r2 => ?_⟩
            have k1 : (upd H m (.lst wr)) l = some (.lst vs) := by rw [upd_ne ne]; exact h3
            have k2 := s2 _ _ k1
            refine ⟨l, vs, v, rfl, rfl, k2, by rw [h4.len]; exact lim_lt hl, ?_⟩
            have st2 := Stab.upd (o := .lst (vs ++ [v])) k2
            have s12 := st1.trans (FS.Same.stab s2)
            have hx1 : getS (putS e j (.own ys)) i = some (.own xs) := by
              unfold getS putS
              rw [List.getElem?_set_ne (fun z => hij z.symm), getS_of hx]
            refine q σ _ ((R1.go s2).chg hx1 rfl h1 h2 st2 ⟨l, _, rfl, h2, upd_same, ?_⟩) (Far.refl _ _) (s12.trans st2)
            exact ((h4.stab s12).app (Dens.one r2)).stab st2
          · cases h
        · cases h
      · cases h
    · cases h
end
end FS
/-! what k16's derivation stands on -/
set_option Elab.async false
set_option linter.all false
set_option maxRecDepth 100000
set_option autoImplicit false
namespace FS
open PySem
/-- book_shown: 0 book, 1 line, 2 step, 3 row, 4 many -/
noncomputable def c_p_book_shown_1 : EF :=
  (eUn fStr (eVar 4))
noncomputable def l_p_book_shown_1 : SF :=
  (sSet 1 (eBin opAdd (eBin opAdd (eVar 1) (eC (.str (Str.ofString " ")))) (eUn fStr (eVar 3))))
noncomputable def l_p_book_shown_2 : SF :=
  (sSeq (sSet 1 (eBin opAdd (eVar 1) (eC (.str (Str.ofString " |")))))
  (sFor [3] (iSeq (eVar 2)) (tName 3)
  l_p_book_shown_1))
noncomputable def b_p_book_shown : SF :=
  (sSeq (sSet 1 (eBin fJoin (eC (.str (Str.ofString " "))) (eLc [4] (iAny (eBin opIx (eVar 0) (eC (.int 0)))) (tName 4) bYes c_p_book_shown_1)))
  (sSeq (sFor [2, 3] (iSeq (eBin opIx (eVar 0) (eC (.int 1)))) (tName 2)
  l_p_book_shown_2)
  (sRet (eVar 1))))
noncomputable def F_p_book_shown : FF := runF 5 1 b_p_book_shown

/-- number_of: 0 word, 1 sign -/
noncomputable def l_p_number_of_1 : SX :=
  (xRaise (bVal (eBin cmpNotInS (eVar 1) (eC (.str (Str.ofString "0123456789")))))
  (xLast sNil))
noncomputable def b_p_number_of : SX :=
  (xRaise (bOr (bVal (eBin cmpEq (eVar 0) (eC (.str (Str.ofString ""))))) (bOr (bVal (eBin cmpGt (eUn fLen (eVar 0)) (eC (.int 3)))) (bAnd (bVal (eBin cmpEq (eBin opIx (eVar 0) (eC (.int 0))) (eC (.str (Str.ofString "0"))))) (bVal (eBin cmpNe (eVar 0) (eC (.str (Str.ofString "0"))))))))
  (xThen (xFor [1] (iStrS (eVar 0)) (tName 1)
  l_p_number_of_1)
  (xLast (sRet (eUn fIntS (eVar 0))))))
noncomputable def F_p_number_of : FX := runX 2 1 b_p_number_of

/-- read_book: 0 text, 1 form, 2 parts, 3 rows, 4 steps, 5 part, 6 book, 7 words, 8 word -/
noncomputable def c_p_read_book_1 : EX :=
  (eXCall F_p_number_of (aCons (eVar 8) aNil))
noncomputable def c_p_read_book_2 : EX :=
  (eXCall F_p_number_of (aCons (eVar 8) aNil))
noncomputable def l_p_read_book_1 : SX :=
  (xSeq (sSet 7 (eBin fSplit (eVar 5) (eC (.str (Str.ofString " ")))))
  (xRaise (bVal (eBin cmpNe (eBin opIx (eVar 7) (eC (.int 0))) (eC (.str (Str.ofString "")))))
  (xApp 4 (eXUn fTuple (eXLc [8] (iAny (eCut (eVar 7) (pSome (eC (.int 1))) pNone)) (tName 8) c_p_read_book_2)))))
noncomputable def b_p_read_book : SX :=
  (xSeq (sSet 2 (eBin fSplit (eVar 0) (eC (.str (Str.ofString " |")))))
  (xThen (xSet 3 (eXUn fTuple (eXLc [8] (iAny (eBin fSplit (eBin opIx (eVar 2) (eC (.int 0))) (eC (.str (Str.ofString " "))))) (tName 8) c_p_read_book_1)))
  (xSeq (sSet 4 (eLst zNil))
  (xThen (xFor [5, 7] (iSeq (eFrz (eCut (eVar 2) (pSome (eC (.int 1))) pNone))) (tName 5)
  l_p_read_book_1)
  (xSeq (sSet 6 (eTup (zCons (eVar 3) (zCons (eUn fTuple (eVar 4)) zNil))))
  (xRaise (bNot (bVal (eCall F_p_is_book (aCons (eVar 1) (aCons (eVar 6) aNil)))))
  (xLast (sRet (eVar 6)))))))))
noncomputable def F_p_read_book : FX := runX 9 2 b_p_read_book

/-- _law_spoiled: 0 text, 1 mode, 2 cell, 3 at, 4 sign, 5 words, 6 spot -/
noncomputable def b_law_spoiled : SF :=
  (sSeq (sSet 3 (eBin opMod (eVar 2) (eBin opAdd (eUn fLen (eVar 0)) (eC (.int 1)))))
  (sSeq (sSet 4 (eBin opIx (eC (.str (Str.ofString "0123456789 |-+_.a\t"))) (eBin opMod (eBin opFdiv (eVar 2) (eC (.int 4096))) (eC (.int 18)))))
  (sSeq (sIf (bVal (eBin cmpEq (eVar 1) (eC (.int 1)))) (sRet (eBin opAdd (eCut (eVar 0) pNone (pSome (eVar 3))) (eCut (eVar 0) (pSome (eBin opAdd (eVar 3) (eC (.int 1)))) pNone))) sNil)
  (sSeq (sIf (bVal (eBin cmpEq (eVar 1) (eC (.int 2)))) (sRet (eBin opAdd (eBin opAdd (eCut (eVar 0) pNone (pSome (eVar 3))) (eVar 4)) (eCut (eVar 0) (pSome (eVar 3)) pNone))) sNil)
  (sSeq (sIf (bVal (eBin cmpEq (eVar 1) (eC (.int 3)))) (sRet (eBin opAdd (eBin opAdd (eCut (eVar 0) pNone (pSome (eVar 3))) (eVar 4)) (eCut (eVar 0) (pSome (eBin opAdd (eVar 3) (eC (.int 1)))) pNone))) sNil)
  (sSeq (sSet 5 (eBin fSplit (eVar 0) (eC (.str (Str.ofString " ")))))
  (sSeq (sSet 6 (eBin opMod (eVar 2) (eUn fLen (eVar 5))))
  (sSeq (sIf (bVal (eBin cmpEq (eVar 1) (eC (.int 4)))) (sRet (eBin fJoin (eC (.str (Str.ofString " "))) (eBin opAdd (eCut (eVar 5) pNone (pSome (eVar 6))) (eCut (eVar 5) (pSome (eBin opAdd (eVar 6) (eC (.int 1)))) pNone)))) sNil)
  (sSeq (sIf (bVal (eBin cmpEq (eVar 1) (eC (.int 5)))) (sRet (eBin fJoin (eC (.str (Str.ofString " "))) (eBin opAdd (eCut (eVar 5) pNone (pSome (eBin opAdd (eVar 6) (eC (.int 1))))) (eCut (eVar 5) (pSome (eVar 6)) pNone)))) sNil)
  (sRet (eVar 0)))))))))))
noncomputable def F_law_spoiled : FF := runF 7 3 b_law_spoiled

/-- _law_odd: 0 cell -/
noncomputable def b_law_odd : SF :=
  (sRet (eBin opIx (eLst (zCons (eC (.str (Str.ofString ""))) (zCons (eC (.str (Str.ofString " "))) (zCons (eC (.str (Str.ofString "|"))) (zCons (eC (.str (Str.ofString " |"))) (zCons (eC (.str (Str.ofString "0 "))) (zCons (eC (.str (Str.ofString "0 |"))) (zCons (eC (.str (Str.ofString "201"))) (zCons (eC (.str (Str.ofString "1 1 | 0"))) (zCons (eC (.str (Str.ofString "1 1 | 0 |"))) (zCons (eC (.str (Str.ofString "1 1 |0"))) zNil))))))))))) (eBin opMod (eVar 0) (eC (.int 10)))))
noncomputable def F_law_odd : FF := runF 1 1 b_law_odd

/-- _law_number: 0 word, 1 sign -/
noncomputable def l_law_number_1 : SF :=
  (sIf (bVal (eBin cmpNotInS (eVar 1) (eC (.str (Str.ofString "0123456789"))))) (sRet (eUn opNeg (eC (.int 1)))) sNil)
noncomputable def b_law_number : SF :=
  (sSeq (sIf (bOr (bVal (eBin cmpEq (eVar 0) (eC (.str (Str.ofString ""))))) (bOr (bVal (eBin cmpGt (eUn fLen (eVar 0)) (eC (.int 3)))) (bAnd (bVal (eBin cmpGt (eUn fLen (eVar 0)) (eC (.int 1)))) (bVal (eBin cmpEq (eBin opIx (eVar 0) (eC (.int 0))) (eC (.str (Str.ofString "0")))))))) (sRet (eUn opNeg (eC (.int 1)))) sNil)
  (sSeq (sFor [1] (iStrS (eVar 0)) (tName 1)
  l_law_number_1)
  (sRet (eUn fIntS (eVar 0)))))
noncomputable def F_law_number : FF := runF 2 1 b_law_number

/-- _law_due: 0 text, 1 form, 2 words, 3 rows, 4 steps, 5 word, 6 arrow, 7 step, 8 row -/
noncomputable def t_law_due_1 : BF :=
  (bAnd (bVal (eBin cmpNe (eVar 2) (eLst zNil))) (bVal (eBin cmpNe (eBin opIx (eVar 2) (eC (.int 0))) (eC (.str (Str.ofString "|"))))))
noncomputable def l_law_due_1 : SF :=
  (sAppPop 3 2 F_law_number)
noncomputable def l_law_due_2 : SF :=
  (sIf (bNot (bVal (eCh2 cmpLe cmpLt (eC (.int 0)) (eVar 8) (eBin opIx (eVar 3) (eBin opIx (eVar 6) (eC (.int 1))))))) (sRet (eC .none)) sNil)
noncomputable def l_law_due_3 : SF :=
  (sSeq (sIf (bVal (eBin cmpNe (eUn fLen (eVar 7)) (eBin opIx (eVar 3) (eBin opIx (eVar 6) (eC (.int 0)))))) (sRet (eC .none)) sNil)
  (sFor [8] (iSeq (eVar 7)) (tName 8)
  l_law_due_2))
noncomputable def c_law_due_1 : EF :=
  (eUn fTuple (eVar 7))
noncomputable def r_law_due_1 : SF :=
  (sSeq (sIf (bOr (bVal (eBin cmpNe (eUn fLen (eVar 3)) (eBin opIx (eVar 1) (eC (.int 0))))) (bOr (bVal (eBin cmpNe (eUn fLen (eVar 4)) (eUn fLen (eBin opIx (eVar 1) (eC (.int 1)))))) (bOr (bVal (eBin cmpLt (eUn fMinL (eVar 3)) (eC (.int 0)))) (bVal (eBin cmpGt (eUn fMaxL (eVar 3)) (eC (.int 200))))))) (sRet (eC .none)) sNil)
  (sLock 4 (sSeq (sFor [6, 7, 8] (iZipMx (eBin opIx (eVar 1) (eC (.int 1))) (eVar 4)) (tTup [(tName 6), (tName 7)])
  l_law_due_3)
  (sRet (eTup (zCons (eUn fTuple (eVar 3)) (zCons (eUn fTuple (eLc [7] (iAny (eVar 4)) (tName 7) bYes c_law_due_1)) zNil)))))))
noncomputable def n_law_due_1 : NF :=
  (nSeq (nIf (ntOf (bVal (eBin cmpEq (eVar 5) (eC (.str (Str.ofString "|")))))) (nSeq (nApp (eLst zNil)) nSkip) (nSeq (nAppAt (nOf (eUn opNeg (eC (.int 1)))) (nOf (eCall F_law_number (aCons (eVar 5) aNil)))) nSkip)) nSkip)
noncomputable def b_law_due : SF :=
  (sSeq (sSet 2 (eBin fSplit (eVar 0) (eC (.str (Str.ofString " ")))))
  (sSeq (sSet 3 (eLst zNil))
  (sSeq (sWhile [] t_law_due_1
  l_law_due_1)
  (sLock 2 (sStart 4 (nrSeq (nFor [5] (iSeq (eVar 2)) (tName 5) n_law_due_1)
  (nrEnd 4 r_law_due_1)))))))
noncomputable def F_law_due : FF := runF 9 2 b_law_due

/-- _law_told: 0 text, 1 form, 2 e -/
noncomputable def b_law_told : SF :=
  (sTryRetL 2 F_p_read_book (aCons (eVar 0) (aCons (eVar 1) aNil)) [true, true, false])
noncomputable def F_law_told : FF := runF 3 2 b_law_told

/-- law: 0 script, 1 form, 2 book, 3 last, 4 text, 5 step, 6 found, 7 due, 8 told, 9 many, 10 steps, 11 k, 12 row, 13 x -/
noncomputable def c_p_law_1 : EF :=
  (eCall F_law_draw (aCons (eCall F_law_cell (aCons (eVar 0) (aCons (eC (.int 5)) aNil))) (aCons (eBin opAdd (eBin opMul (eC (.int 61)) (eVar 11)) (eVar 13)) (aCons (eVar 9) aNil))))
noncomputable def l_p_law_1 : SF :=
  (sSeq (sIf (bVal (eBin cmpEq (eBin opIx (eBin opIx (eBin opIx (eVar 1) (eC (.int 1))) (eVar 11)) (eC (.int 1))) (eVar 3))) (sSet 5 (eUn fTuple (eLc [13] (iRange (eUn fLen (eVar 5))) (tName 13) bYes c_p_law_1))) sNil)
  (sApp 10 (eVar 5)))
noncomputable def c_p_law_2 : EF :=
  (eUn fStr (eVar 9))
noncomputable def l_p_law_2 : SF :=
  (sSet 4 (eBin opAdd (eBin opAdd (eVar 4) (eC (.str (Str.ofString " ")))) (eUn fStr (eVar 12))))
noncomputable def l_p_law_3 : SF :=
  (sSeq (sSet 4 (eBin opAdd (eVar 4) (eC (.str (Str.ofString " |")))))
  (sFor [12] (iSeq (eVar 5)) (tName 12)
  l_p_law_2))
noncomputable def b_p_law : SF :=
  (sSeq (sSet 1 (eCall F_law_form (aCons (eVar 0) (aCons (eC (.int 0)) (aCons (eC (.int 4)) (aCons (eC (.int 5)) aNil))))))
  (sSeq (sSet 2 (eCall F_law_book (aCons (eVar 0) (aCons (eC (.int 3)) (aCons (eVar 1) (aCons (eC (.int 4)) aNil))))))
  (sSeq (sSet 3 (eBin opSub (eBin opIx (eVar 1) (eC (.int 0))) (eC (.int 1))))
  (sSeq (sIf (bVal (eBin cmpEq (eBin opMod (eCall F_law_cell (aCons (eVar 0) (aCons (eC (.int 5)) aNil))) (eC (.int 4))) (eC (.int 1)))) (sSeq (sSet 9 (eBin fMax2 (eBin opIx (eBin opIx (eVar 2) (eC (.int 0))) (eVar 3)) (eBin opMod (eBin opFdiv (eCall F_law_cell (aCons (eVar 0) (aCons (eC (.int 5)) aNil))) (eC (.int 4))) (eC (.int 201)))))
  (sSeq (sSet 10 (eLst zNil))
  (sSeq (sFor [5, 11] (iEnum (iSeq (eBin opIx (eVar 2) (eC (.int 1))))) (tTup [(tName 11), (tName 5)])
  l_p_law_1)
  (sSet 2 (eTup (zCons (eBin opAdd (eCut (eBin opIx (eVar 2) (eC (.int 0))) pNone (pSome (eVar 3))) (eTup (zCons (eVar 9) zNil))) (zCons (eUn fTuple (eVar 10)) zNil))))))) sNil)
  (sSeq (sSet 4 (eBin fJoin (eC (.str (Str.ofString " "))) (eLc [9] (iAny (eBin opIx (eVar 2) (eC (.int 0)))) (tName 9) bYes c_p_law_2)))
  (sSeq (sFor [5, 12] (iSeq (eBin opIx (eVar 2) (eC (.int 1)))) (tName 5)
  l_p_law_3)
  (sSeq (sSet 6 (eCall F_p_book_shown (aCons (eVar 2) aNil)))
  (sSeq (sIf (bOr (bNot (bVal (eUn isStrD (eVar 6)))) (bVal (eBin cmpNe (eVar 6) (eVar 4)))) (sRet (eC (.bool false))) sNil)
  (sSeq (sSet 4 (eCall F_law_spoiled (aCons (eVar 4) (aCons (eBin opMod (eCall F_law_cell (aCons (eVar 0) (aCons (eC (.int 6)) aNil))) (eC (.int 8))) (aCons (eBin opMod (eCall F_law_cell (aCons (eVar 0) (aCons (eC (.int 7)) aNil))) (eBin opPow (eC (.int 10)) (eC (.int 9)))) aNil)))))
  (sSeq (sIf (bVal (eBin cmpEq (eBin opMod (eBin opFdiv (eCall F_law_cell (aCons (eVar 0) (aCons (eC (.int 6)) aNil))) (eC (.int 8))) (eC (.int 9))) (eC (.int 1)))) (sSet 4 (eCall F_law_odd (aCons (eCall F_law_cell (aCons (eVar 0) (aCons (eC (.int 7)) aNil))) aNil))) sNil)
  (sSeq (sIf (bVal (eBin cmpEq (eBin opMod (eBin opFdiv (eCall F_law_cell (aCons (eVar 0) (aCons (eC (.int 6)) aNil))) (eC (.int 72))) (eC (.int 6))) (eC (.int 1)))) (sSet 1 (eCall F_law_form (aCons (eVar 0) (aCons (eC (.int 8)) (aCons (eC (.int 4)) (aCons (eC (.int 5)) aNil)))))) sNil)
  (sSeq (sSet 7 (eCall F_law_due (aCons (eVar 4) (aCons (eVar 1) aNil))))
  (sSeq (sSet 8 (eCall F_law_told (aCons (eVar 4) (aCons (eVar 1) aNil))))
  (sSeq (sIf (bVal (eBin cmpIsN (eVar 7) (eC .none))) (sRet (eBin cmpEq (eVar 8) (eLst (zCons (eC (.bool true)) (zCons (eC (.bool true)) (zCons (eC (.bool false)) zNil)))))) sNil)
  (sRet (eCall F_law_pair (aCons (eVar 8) (aCons (eVar 7) aNil))))))))))))))))))
noncomputable def F_p_law : FF := runF 14 1 b_p_law

/-! ### numbers in texts -/
section
variable {w : List Nat}
theorem number_loop (ha : asc w) : loopX [1] (tName 1) l_p_number_of_1 (w.map signD) [some (.d (sD w)), none] = if !(w.all fun c => decide (c ∈ figL)) then some .ex else some (.o (.nx [some (.d (sD w)), none])) := by
  have h := loopX_find (w := [1]) (t := tName 1) (f := l_p_number_of_1) signD [some (.d (sD w)), none] (fun c => !decide (c ∈ figL)) w (fun c hc => by
    have e := cmpNotInS_sD (c := c) (f := figL)
    by_cases hf : c ∈ figL
    · simp [l_p_number_of_1, e, hf]
    · simp [l_p_number_of_1, e, hf])
  rw [any_not] at h
  exact h
theorem lnumber_loop (ha : asc w) : loopF [1] (tName 1) l_law_number_1 (w.map signD) [some (.d (sD w)), none] = if !(w.all fun c => decide (c ∈ figL)) then some (.rt (.d (.int (-1)))) else some (.nx [some (.d (sD w)), none]) := by
  have h := loopF_find (w := [1]) (t := tName 1) (b := l_law_number_1) signD [some (.d (sD w)), none] (fun c => !decide (c ∈ figL)) (.d (.int (-1))) w (fun c hc => by
    have e := cmpNotInS_sD (c := c) (f := figL)
    by_cases hf : c ∈ figL
    · simp [l_law_number_1, e, hf]
    · simp [l_law_number_1, e, hf])
  rw [any_not] at h
  exact h
theorem goodW_len (h : goodW w = true) : w.length ≤ 3 := by
  unfold goodW at h
  simp only [Bool.and_eq_true, decide_eq_true_eq] at h
  exact h.1.1.2
theorem goodW_int (h : goodW w = true) : fIntS (.d (sD w)) = some (.d (.int (numV w))) := by
  have hl := goodW_len h
  unfold goodW at h
  simp only [Bool.and_eq_true, decide_eq_true_eq] at h
  exact fIntS_sD (fig_digits h.2) h.1.1.1 (by omega)
theorem goodW_cons {c : Nat} {t : List Nat} : goodW (c :: t) = (decide (t.length ≤ 2) && !(decide (t ≠ []) && decide (c = 48)) && (c :: t).all fun c => decide (c ∈ figL)) := by
  unfold goodW
  rw [show (c :: t).getD 0 0 = c from rfl]
  congr 1
  have e1 : decide (c :: t ≠ []) = true := decide_eq_true (by simp)
  have e2 : decide ((c :: t).length ≤ 3) = decide (t.length ≤ 2) := decide_eq_decide.mpr (by rw [List.length_cons]; omega)
  have e3 : decide (1 < (c :: t).length) = decide (t ≠ []) := decide_eq_decide.mpr (by
    rw [List.length_cons]
    cases t with
    | nil => simp
    | cons => simp)
  rw [e1, e2, e3]
  rfl
theorem number_of_eq (ha : asc w) (hl : w.length ≤ 100000) : F_p_number_of [.d (sD w)] = some (if goodW w then .v (.d (.int (numV w))) else .ex) := by
  cases w with
  | nil =>
    have e1 := cmpEq_sD (a := []) (b := []) asc_nil asc_nil
    simp [F_p_number_of, b_p_number_of, e1, goodW]
  | cons c t =>
    have e1 : cmpEq (.d (sD (c :: t))) (.d (sD [])) = some (.d (.bool false)) := cmpEq_sD ha asc_nil
    have e2 := fLen_sD (l := c :: t) (Nat.le_trans hl (by decide))
    have e3 := opIx_sD0 (c := c) (l := t) (by rw [lim]; simp at hl; omega)
    have e4 : cmpEq (.d (sD [c])) (.d (sD [48])) = some (.d (.bool (decide (c = 48)))) := by
      rw [cmpEq_sD (asc_one (ha c List.mem_cons_self)) (asc_one (by decide))]
      simp
    have e5 : cmpNe (.d (sD (c :: t))) (.d (sD [48])) = some (.d (.bool (!(decide (c = 48) && decide (t = []))))) := by
      rw [cmpNe_sD ha (asc_one (by decide))]
      simp
    have e6 := number_loop (w := c :: t) ha
    have e7 := goodW_int (w := c :: t)
    rw [goodW_cons] at e7 ⊢
    generalize numV (c :: t) = v at *
    generalize ((c :: t).all fun c => decide (c ∈ figL)) = z at *
    rw [List.length_cons] at e2
    have e8 := signs_sD (l := c :: t)
    generalize (c :: t).map signD = sg at *
    generalize sD (c :: t) = W at *
    generalize sD [c] = C1 at *
    by_cases h3 : t.length ≤ 2
    · have h3' : ¬ (3 : Int) < (t.length : Int) + 1 := by omega
      by_cases h5 : t = []
      · cases z
        · simp at e6
          by_cases h4 : c = 48 <;> simp [F_p_number_of, b_p_number_of, xFor, e1, e2, e3, e4, e5, e6, e8, h3', h4, h5]
        · simp [h5] at e6 e7
          by_cases h4 : c = 48 <;> simp [F_p_number_of, b_p_number_of, xFor, e1, e2, e3, e4, e5, e6, e8, e7, h3', h4, h5]
      · by_cases h4 : c = 48
        · simp [F_p_number_of, b_p_number_of, xFor, e1, e2, e3, e4, e5, h3', h4, h5]
        · cases z
          · simp at e6
            simp [F_p_number_of, b_p_number_of, xFor, e1, e2, e3, e4, e5, e6, e8, h3', h4, h5]
          · simp [h3, h4] at e6 e7
            simp [F_p_number_of, b_p_number_of, xFor, e1, e2, e3, e4, e5, e6, e8, e7, h3, h3', h4, h5]
    · have h3' : (3 : Int) < (t.length : Int) + 1 := by omega
      simp [F_p_number_of, b_p_number_of, e1, e2, h3, h3']
theorem lnumber_eq (ha : asc w) (hl : w.length ≤ 100000) : F_law_number [.d (sD w)] = some (.d (.int (numI w))) := by
  unfold numI
  cases w with
  | nil =>
    have e1 := cmpEq_sD (a := []) (b := []) asc_nil asc_nil
    simp [F_law_number, b_law_number, e1, goodW]
  | cons c t =>
    have e1 : cmpEq (.d (sD (c :: t))) (.d (sD [])) = some (.d (.bool false)) := cmpEq_sD ha asc_nil
    have e2 := fLen_sD (l := c :: t) (Nat.le_trans hl (by decide))
    have e3 := opIx_sD0 (c := c) (l := t) (by rw [lim]; simp at hl; omega)
    have e4 : cmpEq (.d (sD [c])) (.d (sD [48])) = some (.d (.bool (decide (c = 48)))) := by
      rw [cmpEq_sD (asc_one (ha c List.mem_cons_self)) (asc_one (by decide))]
      simp
    have e6 := lnumber_loop (w := c :: t) ha
    have e7 := goodW_int (w := c :: t)
    rw [goodW_cons] at e7 ⊢
    generalize numV (c :: t) = v at *
    generalize ((c :: t).all fun c => decide (c ∈ figL)) = z at *
    rw [List.length_cons] at e2
    have e8 := signs_sD (l := c :: t)
    generalize (c :: t).map signD = sg at *
    generalize sD (c :: t) = W at *
    generalize sD [c] = C1 at *
    by_cases h3 : t.length ≤ 2
    · have h3' : ¬ (3 : Int) < (t.length : Int) + 1 := by omega
      by_cases h5 : t = []
      · cases z
        · simp at e6
          by_cases h4 : c = 48 <;> simp [F_law_number, b_law_number, e1, e2, e3, e4, e6, e8, h3', h4, h5]
        · simp [h5] at e6 e7
          by_cases h4 : c = 48 <;> simp [F_law_number, b_law_number, e1, e2, e3, e4, e6, e8, e7, h3', h4, h5]
      · have h6 : (1 : Int) < (t.length : Int) + 1 := by
          have := List.length_pos_iff.mpr h5
          omega
        by_cases h4 : c = 48
        · simp [F_law_number, b_law_number, e1, e2, e3, e4, h3', h4, h5, h6]
        · cases z
          · simp at e6
            simp [F_law_number, b_law_number, e1, e2, e3, e4, e6, e8, h3', h4, h5, h6]
          · simp [h3, h4] at e6 e7
            simp [F_law_number, b_law_number, e1, e2, e3, e4, e6, e8, e7, h3, h3', h4, h5, h6]
    · have h3' : (3 : Int) < (t.length : Int) + 1 := by omega
      simp [F_law_number, b_law_number, e1, e2, h3, h3']
end
/-! ### slices -/
theorem cut_tail {α : Type} {x : α} {xs : List α} : cutL (x :: xs) (some 1) none = xs := by
  unfold cutL cutIx
  simp
theorem cut_from0 {α : Type} {xs : List α} : cutL xs (some 0) none = xs := by
  unfold cutL cutIx
  simp
theorem cut_to0 {α : Type} {xs : List α} : cutL xs none (some 0) = [] := by
  unfold cutL cutIx
  simp
theorem cutIx_pos {n d : Nat} {v : Int} (h : 0 ≤ v) : cutIx n d (some v) = min v.toNat n := if_neg (by omega)
theorem cutIx_neg {n d : Nat} {v : Int} (h : v < 0) : cutIx n d (some v) = (v + (n : Int)).toNat := if_pos h
theorem cut_to {α : Type} {k r : List α} : cutL (k ++ r) none (some (k.length : Int)) = k := by
  have e : cutIx (k ++ r).length (k ++ r).length (some (k.length : Int)) = k.length := by
    rw [cutIx_pos (by omega)]
    simp
  unfold cutL
  rw [e]
  simp [cutIx]
theorem cut_from {α : Type} {k r : List α} {x : α} : cutL (k ++ x :: r) (some ((k.length : Int) + 1)) none = r := by
  have e : cutIx (k ++ x :: r).length 0 (some ((k.length : Int) + 1)) = k.length + 1 := by
    rw [cutIx_pos (by omega), show ((k.length : Int) + 1).toNat = k.length + 1 by omega, List.length_append, List.length_cons]
    omega
  unfold cutL
  rw [e, show (k ++ x :: r).drop (k.length + 1) = r by simp [List.drop_append]]
  refine List.take_of_length_le ?_
  simp only [cutIx, List.length_append, List.length_cons]
  omega
theorem cut_neg {α : Type} {k : List α} {x : α} {d : Nat} : cutIx (k ++ [x]).length d (some (-1)) = k.length := by
  rw [cutIx_neg (by decide), List.length_append, List.length_singleton]
  omega
theorem cut_last {α : Type} {k : List α} {x : α} : cutL (k ++ [x]) (some (-1)) none = [x] := by
  unfold cutL
  rw [cut_neg]
  simp [cutIx]
theorem cut_body {α : Type} {k : List α} {x : α} : cutL (k ++ [x]) none (some (-1)) = k := by
  unfold cutL
  rw [cut_neg]
  simp [cutIx]
theorem cut_none {α : Type} : cutL ([] : List α) (some (-1)) none = [] := by
  unfold cutL cutIx
  simp
theorem cut_sub {l : List Nat} {lo hi : Option Int} (h : asc l) : asc (cutL l lo hi) := asc_sub h fun c hc => List.mem_of_mem_drop (List.mem_of_mem_take hc)
/-! ### what the program reads -/
section
variable {o0 o1 o2 o3 o4 o5 o6 o7 : Option AV}
theorem words_lc : ∀ (ps : List (List Nat)), (∀ p ∈ ps, asc p ∧ p.length ≤ 100000) → lcGoX (tName 8) c_p_read_book_1 [o0, o1, o2, o3, o4, o5, o6, o7, none] (ps.map sD) = some (if ps.all goodW then some ((ps.map numV).map PyData.int) else none)
  | [], _ => rfl
  | p :: ps, h => by
    have e1 := number_of_eq (h p List.mem_cons_self).1 (h p List.mem_cons_self).2
    have ih := words_lc ps fun q hq => h q (List.mem_cons_of_mem _ hq)
    rw [List.map_cons, List.all_cons, lcGoX, ih]
    cases hp : goodW p with
    | false =>
      rw [hp] at e1
      simp [c_p_read_book_1, e1]
    | true =>
      rw [hp] at e1
      simp only [if_true] at e1
      cases hq : ps.all goodW <;> simp [c_p_read_book_1, e1]
theorem words2 : c_p_read_book_2 = c_p_read_book_1 := rfl
def okPart (p : List Nat) : Bool := decide ((cuts 32 p).head? = some []) && (cuts 32 p).tail.all goodW
def partV (p : List Nat) : List Int := (cuts 32 p).tail.map numV
theorem part_turn {p : List Nat} (ha : asc p) (hp : p.length ≤ 100000) {acc : List D} (hz : acc.length < lim) :
    turnX [5, 7] (tName 5) l_p_read_book_1 (sD p) [o0, o1, o2, o3, some (.own acc), none, o6, none, none] = some (if okPart p then .o (.nx [o0, o1, o2, o3, some (.own (acc ++ [iD (partV p)])), none, o6, none, none]) else .ex) := by
  obtain ⟨h, t, hc⟩ : ∃ h t, cuts 32 p = h :: t := by
    cases e : cuts 32 p with
    | nil => exact absurd e (cuts_ne p)
    | cons a b => exact ⟨a, b, rfl⟩
  have hall : ∀ w ∈ h :: t, asc w ∧ w.length ≤ 100000 := fun w hw => by
    rw [← hc] at hw
    exact ⟨asc_sub ha (cuts_in hw), Nat.le_trans (cuts_short hw) hp⟩
  have hn : t.length ≤ 100001 := by
    have := cuts_few (c := 32) (l := p)
    rw [hc, List.length_cons] at this
    omega
  have e1 := fSplit_sD (l := p) (S := [32]) (by rw [lim]; omega) (by simp) (by decide)
  rw [show TL.spl [32] 0 [] p = h :: t from hc, List.map_cons] at e1
  have e2 := cmpNe_sD (a := h) (b := []) (hall h List.mem_cons_self).1 asc_nil
  have e3 := fun o0 o1 o2 o3 o4 o5 o6 o7 => words_lc (o0 := o0) (o1 := o1) (o2 := o2) (o3 := o3) (o4 := o4) (o5 := o5) (o6 := o6) (o7 := o7) t fun w hw => hall w (List.mem_cons_of_mem _ hw)
  have e4 : opCut (.cur (sD h :: t.map sD)) (some 1) none = some (.new (t.map sD)) := by
    show some (RV.new (cutL _ _ _)) = _
    rw [cut_tail]
  have e5 : (t.map sD).length ≤ lim := by rw [List.length_map, lim]; omega
  unfold okPart partV iD
  rw [hc, List.tail_cons, List.head?_cons]
  have e6 : decide (some h = some ([] : List Nat)) = decide (h = []) := decide_eq_decide.mpr (by simp)
  rw [e6]
  generalize t.map numV = V at *
  generalize decide (h = []) = z at *
  generalize t.map sD = M at *
  generalize sD h = H at *
  cases z
  · simp [l_p_read_book_1, e1, e2]
  · cases hg : t.all goodW with
    | true =>
      rw [hg] at e3
      simp at e3
      simp [l_p_read_book_1, words2, e1, e2, e3, e4, e5, hz, -opCut_cur]
    | false =>
      rw [hg] at e3
      simp at e3
      simp [l_p_read_book_1, words2, e1, e2, e3, e4, e5, hz, -opCut_cur]
theorem part_loop : ∀ (ps : List (List Nat)) (acc : List D), (∀ p ∈ ps, asc p ∧ p.length ≤ 100000) → acc.length + ps.length ≤ lim →
    loopX [5, 7] (tName 5) l_p_read_book_1 (ps.map sD) [o0, o1, o2, o3, some (.own acc), none, o6, none, none] = some (if ps.all okPart then .o (.nx [o0, o1, o2, o3, some (.own (acc ++ (ps.map partV).map iD)), none, o6, none, none]) else .ex)
  | [], acc, _, _ => by simp [loopX]
  | p :: ps, acc, h, hl => by
    rw [List.length_cons] at hl
    have e1 := part_turn (o0 := o0) (o1 := o1) (o2 := o2) (o3 := o3) (o6 := o6) (acc := acc) (h p List.mem_cons_self).1 (h p List.mem_cons_self).2 (by omega)
    rw [List.map_cons, List.all_cons]
    cases hg : okPart p with
    | false =>
      rw [hg] at e1
      rw [loopX_ex e1]
      rfl
    | true =>
      rw [hg] at e1
      rw [loopX_nx e1, part_loop ps _ (fun q hq => h q (List.mem_cons_of_mem _ hq)) (by rw [List.length_append, List.length_singleton]; omega)]
      simp
end
def rowsV (p : List Nat) : List Int := (cuts 32 p).map numV
def okB (F : Form) (p0 : List Nat) (ps : List (List Nat)) : Bool := (cuts 32 p0).all goodW && ps.all okPart && isBookB F (rowsV p0) (ps.map partV)
theorem spl_le {S : List Nat} (hS : S ≠ []) : ∀ (n : Nat) (k : Nat) (acc l : List Nat), l.length ≤ n → (∀ w ∈ TL.spl S k acc l, (∀ c ∈ w, c ∈ acc ∨ c ∈ l) ∧ w.length ≤ acc.length + l.length) ∧ (TL.spl S k acc l).length ≤ l.length + 1
  | _, k, acc, [], _ => by
    rw [TL.spl_nil]
    simp
  | 0, k, acc, c :: r, h => by simp at h
  | n + 1, 0, acc, c :: r, h => by
    have hr : r.length ≤ n := by simp at h; omega
    cases hp : TL.pre S (c :: r) with
    | true =>
      rw [TL.spl_hit hp]
      obtain ⟨h1, h2⟩ := spl_le hS n (S.length - 1) [] r hr
      refine ⟨fun w hw => ?_, by rw [List.length_cons, List.length_cons]; omega⟩
      rcases List.mem_cons.mp hw with z | z
      · subst z
        exact ⟨fun d hd => .inl hd, by omega⟩
      · obtain ⟨g1, g2⟩ := h1 w z
        refine ⟨fun d hd => ?_, by rw [List.length_cons]; simp at g2; omega⟩
        rcases g1 d hd with y | y
        · cases y
        · exact .inr (List.mem_cons_of_mem _ y)
    | false =>
      rw [TL.spl_miss hp]
      obtain ⟨h1, h2⟩ := spl_le hS n 0 (acc ++ [c]) r hr
      refine ⟨fun w hw => ?_, by rw [List.length_cons]; omega⟩
      obtain ⟨g1, g2⟩ := h1 w hw
      refine ⟨fun d hd => ?_, by rw [List.length_append, List.length_singleton] at g2; rw [List.length_cons]; omega⟩
      rcases g1 d hd with y | y
      · rcases List.mem_append.mp y with y | y
        · exact .inl y
        · exact .inr (by rw [List.mem_singleton.mp y]; exact List.mem_cons_self)
      · exact .inr (List.mem_cons_of_mem _ y)
  | n + 1, k + 1, acc, c :: r, h => by
    have hr : r.length ≤ n := by simp at h; omega
    have e : TL.spl S (k + 1) acc (c :: r) = TL.spl S k acc r := rfl
    rw [e]
    obtain ⟨h1, h2⟩ := spl_le hS n k acc r hr
    refine ⟨fun w hw => ?_, by rw [List.length_cons]; omega⟩
    obtain ⟨g1, g2⟩ := h1 w hw
    refine ⟨fun d hd => (g1 d hd).elim .inl fun y => .inr (List.mem_cons_of_mem _ y), by rw [List.length_cons]; omega⟩
theorem read_book_eq {F : Form} {a b : Nat} (hF : F.Ok a b) {l p0 : List Nat} {ps : List (List Nat)} (ha : asc l) (hl : l.length ≤ 100000) (hc : TL.spl bar 0 [] l = p0 :: ps) :
    F_p_read_book [.d (sD l), .d (formD F)] = some (if okB F p0 ps then .v (.d (piD (rowsV p0) (ps.map partV))) else .ex) := by
  obtain ⟨g1, g2⟩ := spl_le (S := bar) (by simp) l.length 0 [] l (Nat.le_refl _)
  rw [hc] at g1 g2
  have h0 : ∀ w ∈ p0 :: ps, asc w ∧ w.length ≤ 100000 := fun w hw => by
    obtain ⟨q1, q2⟩ := g1 w hw
    exact ⟨asc_sub ha fun c h => (q1 c h).elim (fun y => by cases y) id, by simp at q2; omega⟩
  have hn : ps.length ≤ 100000 := by
    rw [List.length_cons] at g2
    omega
  have e1 := fSplit_sD (l := l) (S := bar) (by rw [lim]; omega) (by simp) (by decide)
  rw [hc, List.map_cons] at e1
  have a0 := (h0 p0 List.mem_cons_self).1
  have l0 := (h0 p0 List.mem_cons_self).2
  have e2 := fSplit_sD (l := p0) (S := [32]) (by rw [lim]; omega) (by simp) (by decide)
  rw [show TL.spl [32] 0 [] p0 = cuts 32 p0 from rfl] at e2
  have e3 := fun o0 o1 o2 o3 o4 o5 o6 o7 => words_lc (o0 := o0) (o1 := o1) (o2 := o2) (o3 := o3) (o4 := o4) (o5 := o5) (o6 := o6) (o7 := o7) (cuts 32 p0) fun w hw => ⟨asc_sub a0 (cuts_in hw), Nat.le_trans (cuts_short hw) l0⟩
  have e4 : ((cuts 32 p0).map sD).length ≤ lim := by
    rw [List.length_map, lim]
    have := cuts_few (c := 32) (l := p0)
    omega
  have e5 := fun o0 o1 o2 o3 o6 => part_loop (o0 := o0) (o1 := o1) (o2 := o2) (o3 := o3) (o6 := o6) ps [] (fun w hw => h0 w (List.mem_cons_of_mem _ hw)) (by rw [List.length_nil, lim]; omega)
  have e6 : opCut (.cur (sD p0 :: ps.map sD)) (some 1) none = some (.new (ps.map sD)) := by
    show some (RV.new (cutL _ _ _)) = _
    rw [cut_tail]
  have e7 := is_book_eq hF (R := rowsV p0) (S := ps.map partV) (by
    rw [rowsV, List.length_map, lim]
    have := cuts_few (c := 32) (l := p0)
    omega) (fun s hs => by
    obtain ⟨p, hp, rfl⟩ := List.mem_map.mp hs
    have h1 := cuts_few (c := 32) (l := p)
    have h2 := (h0 p (List.mem_cons_of_mem _ hp)).2
    rw [partV, List.length_map, List.length_tail, lim]
    omega)
  have e8 : fTuple (.cur ((ps.map partV).map iD)) = some (.d (iiD (ps.map partV))) := rfl
  have e9 : fTuple (.new ((rowsV p0).map PyData.int)) = some (.d (iD (rowsV p0))) := rfl
  have e10 : PyData.tuple [iD (rowsV p0), iiD (ps.map partV)] = piD (rowsV p0) (ps.map partV) := rfl
  unfold okB
  rw [show (cuts 32 p0).map numV = rowsV p0 from rfl] at e3
  rw [List.nil_append] at e5
  generalize isBookB F (rowsV p0) (ps.map partV) = okk at *
  generalize piD (rowsV p0) (ps.map partV) = B at *
  generalize iiD (ps.map partV) = I at *
  generalize (ps.map partV).map iD = J at *
  generalize iD (rowsV p0) = R1 at *
  generalize (rowsV p0).map PyData.int = R2 at *
  generalize ps.all okPart = y at *
  generalize (cuts 32 p0).all goodW = x at *
  generalize (cuts 32 p0).map sD = M0 at *
  generalize ps.map sD = M at *
  generalize sD p0 = P0 at *
  cases x
  · simp at e3
    simp [F_p_read_book, b_p_read_book, xFor, e1, e2, e3, e4]
  · simp at e3
    cases y
    · simp at e5
      simp [F_p_read_book, b_p_read_book, xFor, e1, e2, e3, e4, e5, e6, e9, -opCut_cur, -fTuple_new]
    · simp at e5
      cases okk <;> simp [F_p_read_book, b_p_read_book, xFor, e1, e2, e3, e4, e5, e6, e7, e8, e9, e10, -opCut_cur, -fTuple_cur, -fTuple_new]
/-! ### what the law reads -/
theorem lay_strs : ∀ (ws : List (List Nat)), (∀ w ∈ ws, asc w) → PyData.canLayAll0 (ws.map sD) = true ∧ PyData.depthAll (ws.map sD) = 0
  | [], _ => by simp [PyData.canLayAll0, PyData.depthAll]
  | w :: ws, h => by
    obtain ⟨h1, h2⟩ := lay_strs ws fun v hv => h v (List.mem_cons_of_mem _ hv)
    have h3 := SeqAt.canLay_of_shaped (shaped_str (h w List.mem_cons_self))
    rw [List.map_cons]
    refine ⟨?_, ?_⟩
    · simp only [PyData.canLayAll0, h1, Bool.and_true]
      exact h3
    · simp only [PyData.depthAll, h2]
      simp [sD, PyData.depth]
theorem shaped_strs {ws : List (List Nat)} (h : ∀ w ∈ ws, asc w) : SeqAt.shaped (.list (ws.map sD)) = true := by
  obtain ⟨h1, h2⟩ := lay_strs ws h
  simp [SeqAt.shaped, PyData.canLay0, PyData.depth, h1, h2]
theorem rows_loop {o0 o1 : Option AV} : ∀ (ws : List (List Nat)) (acc : List D), (∀ w ∈ ws, asc w ∧ w.length ≤ 100000) → acc.length + ws.length ≤ lim →
    loopW [] t_law_due_1 l_law_due_1 [o0, o1, some (.own (ws.map sD)), some (.own acc), none, none, none, none, none] = some (.nx [o0, o1, some (.own ((restW ws).map sD)), some (.own (acc ++ ((rowsW ws).map numI).map PyData.int)), none, none, none, none, none])
  | [], acc, _, _ => by
    have e1 := cmpNe_nil (xs := []) (by decide)
    rw [loopW_false (by simp [t_law_due_1, e1])]
    simp [restW, rowsW]
  | w :: ws, acc, h, hl => by
    rw [List.length_cons] at hl
    obtain ⟨hw, hwl⟩ := h w List.mem_cons_self
    have e1 := cmpNe_nil (shaped_strs (ws := w :: ws) fun v hv => (h v hv).1)
    have e2 := cmpNe_sD hw (asc_one (show 124 < 256 by decide))
    have e3 := lnumber_eq hw hwl
    have e4 : acc.length < lim := by omega
    rw [List.map_cons] at e1
    have e5 : (sD w :: ws.map sD).isEmpty = false := rfl
    rw [e5] at e1
    rw [restW, rowsW]
    by_cases hb : w = [124]
    · rw [if_pos hb, if_pos hb]
      rw [decide_eq_true hb] at e2
      rw [List.map_cons]
      generalize ws.map sD = M at *
      generalize sD w = W at *
      rw [loopW_false (by simp [t_law_due_1, e1, e2])]
      simp
    · rw [if_neg hb, if_neg hb]
      rw [decide_eq_false hb] at e2
      have ih := rows_loop (o0 := o0) (o1 := o1) ws (acc ++ [.int (numI w)]) (fun v hv => h v (List.mem_cons_of_mem _ hv)) (by rw [List.length_append, List.length_singleton]; omega)
      rw [List.map_cons, List.map_cons, List.map_cons]
      rw [List.append_assoc, List.singleton_append] at ih
      refine loopW_true (e2 := [o0, o1, some (.own (ws.map sD)), some (.own (acc ++ [PyData.int (numI w)])), none, none, none, none, none]) ?_ ?_ ih
      · generalize ws.map sD = M at *
        generalize sD w = W at *
        simp [t_law_due_1, e1, e2]
      · generalize ws.map sD = M at *
        generalize sD w = W at *
        simp [l_law_due_1, e3, e4]
theorem ixN_last {n : Nat} : ixN (n + 1) (-1) = some n := by
  unfold ixN
  rw [if_neg (by decide), if_pos (by omega)]
  congr 1
  omega
section
variable {o0 o1 o2 o3 : Option AV}
theorem groups_loop : ∀ (ws : List (List Nat)) (init : List (List D)) (cur : List Int), (∀ w ∈ ws, asc w ∧ w.length ≤ 100000) → init.length + 1 + ws.length ≤ lim → cur.length + ws.length ≤ lim →
    nLoop [5] (tName 5) n_law_due_1 (ws.map sD) [o0, o1, o2, o3, none, none, none, none, none] (init ++ [cur.map PyData.int]) = some ([o0, o1, o2, o3, none, none, none, none, none], init ++ (gI cur ws).map fun s => s.map PyData.int)
  | [], init, cur, _, _, _ => by simp [nLoop, gI]
  | w :: ws, init, cur, h, h1, h2 => by
    rw [List.length_cons] at h1 h2
    obtain ⟨hw, hwl⟩ := h w List.mem_cons_self
    have hs : ∀ v ∈ ws, asc v ∧ v.length ≤ 100000 := fun v hv => h v (List.mem_cons_of_mem _ hv)
    have e2 := cmpEq_sD hw (asc_one (show 124 < 256 by decide))
    have e3 := lnumber_eq hw hwl
    rw [List.map_cons, nLoop, gI]
    by_cases hb : w = [124]
    · rw [if_pos hb]
      rw [decide_eq_true hb] at e2
      have ih := groups_loop ws (init ++ [cur.map PyData.int]) [] hs (by rw [List.length_append, List.length_singleton]; omega) (by rw [List.length_nil]; omega)
      have hz : (init ++ [cur.map PyData.int]).length < lim := by rw [List.length_append, List.length_singleton]; omega
      generalize sD w = W at *
      generalize hX : init ++ [cur.map PyData.int] = X at *
      have e4 : n_law_due_1 [o0, o1, o2, o3, none, some (.d W), none, none, none] X = some ([o0, o1, o2, o3, none, some (.d W), none, none, none], X ++ [[]]) := by simp [n_law_due_1, e2, hz]
      rw [show tName 5 W [o0, o1, o2, o3, none, none, none, none, none] = some [o0, o1, o2, o3, none, some (.d W), none, none, none] from rfl]
      simp only []
      rw [e4]
      simp only []
      rw [show forget [5] [o0, o1, o2, o3, none, some (.d W), none, none, none] = [o0, o1, o2, o3, none, none, none, none, none] from rfl]
      rw [show ([] : List Int).map PyData.int = [] from rfl] at ih
      rw [ih, ← hX, List.map_cons, List.append_assoc]
      rfl
    · rw [if_neg hb]
      rw [decide_eq_false hb] at e2
      have ih := groups_loop ws init (cur ++ [numI w]) hs (by omega) (by rw [List.length_append, List.length_singleton]; omega)
      have hl : (init ++ [cur.map PyData.int]).length = init.length + 1 := by rw [List.length_append, List.length_singleton]
      have hg : (init ++ [cur.map PyData.int]).getD init.length [] = cur.map PyData.int := by simp [List.getD_eq_getElem?_getD]
      have hst : ∀ y : List D, (init ++ [cur.map PyData.int]).set init.length y = init ++ [y] := fun y => by simp
      have hcl : (cur.map PyData.int).length < lim := by rw [List.length_map]; omega
      rw [List.map_append, show [numI w].map PyData.int = [.int (numI w)] from rfl] at ih
      generalize sD w = W at *
      generalize init ++ [cur.map PyData.int] = X at *
      generalize cur.map PyData.int = Y at *
      have e4 : n_law_due_1 [o0, o1, o2, o3, none, some (.d W), none, none, none] X = some ([o0, o1, o2, o3, none, some (.d W), none, none, none], init ++ [Y ++ [.int (numI w)]]) := by
        simp [n_law_due_1, nIx, e2, e3, hl, ixN_last, hg, hst, hcl, -List.getD_eq_getElem?_getD]
      rw [show tName 5 W [o0, o1, o2, o3, none, none, none, none, none] = some [o0, o1, o2, o3, none, some (.d W), none, none, none] from rfl]
      simp only []
      rw [e4]
      simp only []
      rw [show forget [5] [o0, o1, o2, o3, none, some (.d W), none, none, none] = [o0, o1, o2, o3, none, none, none, none, none] from rfl]
      exact ih
theorem restW_first : ∀ (ws : List (List Nat)), restW ws = [] ∨ ∃ r, restW ws = [124] :: r ∧ ∀ w ∈ r, w ∈ ws
  | [] => .inl rfl
  | w :: ws => by
    rw [restW]
    by_cases h : w = [124]
    · rw [if_pos h, h]
      exact .inr ⟨ws, rfl, fun v hv => List.mem_cons_of_mem _ hv⟩
    · rw [if_neg h]
      rcases restW_first ws with z | ⟨r, e, m⟩
      · exact .inl z
      · exact .inr ⟨r, e, fun v hv => List.mem_cons_of_mem _ (m v hv)⟩
theorem restW_len : ∀ (ws : List (List Nat)), (restW ws).length ≤ ws.length
  | [] => Nat.le_refl _
  | w :: ws => by
    rw [restW]
    by_cases h : w = [124]
    · rw [if_pos h]; exact Nat.le_refl _
    · rw [if_neg h, List.length_cons]; exact Nat.le_succ_of_le (restW_len ws)
theorem rowsW_len : ∀ (ws : List (List Nat)), (rowsW ws).length ≤ ws.length
  | [] => Nat.le_refl _
  | w :: ws => by
    rw [rowsW]
    by_cases h : w = [124]
    · rw [if_pos h]; exact Nat.zero_le _
    · rw [if_neg h, List.length_cons, List.length_cons]; exact Nat.succ_le_succ (rowsW_len ws)
theorem steps_loop {ws : List (List Nat)} (h : ∀ w ∈ ws, asc w ∧ w.length ≤ 100000) (hl : ws.length ≤ 100001) :
    nLoop [5] (tName 5) n_law_due_1 ((restW ws).map sD) [o0, o1, o2, o3, none, none, none, none, none] [] = some ([o0, o1, o2, o3, none, none, none, none, none], (stepsW (restW ws)).map fun s => s.map PyData.int) := by
  have hrl := restW_len ws
  rcases restW_first ws with e | ⟨r, e, hm⟩
  · rw [e]
    rfl
  · rw [e] at hrl ⊢
    rw [List.length_cons] at hrl
    have g := groups_loop (o0 := o0) (o1 := o1) (o2 := o2) (o3 := o3) r [] [] (fun w hw => h w (hm w hw)) (by rw [List.length_nil, lim]; omega) (by rw [List.length_nil, lim]; omega)
    have e2 := cmpEq_sD (asc_one (show 124 < 256 by decide)) (asc_one (show 124 < 256 by decide))
    rw [decide_eq_true rfl] at e2
    rw [List.map_cons, nLoop]
    have hz : (0 : Nat) < lim := by decide
    have e4 : n_law_due_1 [o0, o1, o2, o3, none, some (.d (sD [124])), none, none, none] [] = some ([o0, o1, o2, o3, none, some (.d (sD [124])), none, none, none], [[]]) := by simp [n_law_due_1, e2, hz]
    rw [show tName 5 (sD [124]) [o0, o1, o2, o3, none, none, none, none, none] = some [o0, o1, o2, o3, none, some (.d (sD [124])), none, none, none] from rfl]
    simp only []
    rw [e4]
    simp only []
    rw [show forget [5] [o0, o1, o2, o3, none, some (.d (sD [124])), none, none, none] = [o0, o1, o2, o3, none, none, none, none, none] from rfl]
    exact g
end
/-! ### the law's look -/
def liD (xs : List Int) : D := .list (xs.map PyData.int)
@[simp] theorem fix_liD {s : List Int} : RV.fix (.d (liD s)) = some (s.map PyData.int) := rfl
@[simp] theorem fLen_liD {s : List Int} : fLen (.d (liD s)) = some (.d (.int (s.length : Nat))) := by
  show some (RV.d (PyData.int _)) = _
  rw [List.length_map]
theorem ints_of : ∀ xs : List Int, intsOfD (xs.map PyData.int) = some xs
  | [] => rfl
  | x :: xs => by
    rw [List.map_cons]
    show (intsOfD (xs.map PyData.int)).map _ = _
    rw [ints_of xs]
    rfl
theorem all_rows {r : Int} {rs : List Int} : (r :: rs).all rowB = (!decide (minI rs r < 0) && !decide (200 < maxI rs r)) := by
  have g1 := minI_le rs r
  have g2 := maxI_ge rs r
  refine Bool.eq_iff_iff.mpr ⟨fun h => ?_, fun h => ?_⟩
  · have hall : ∀ x ∈ r :: rs, 0 ≤ x ∧ x ≤ 200 := fun x hx => by
      have := List.all_eq_true.mp h x hx
      unfold rowB at this
      simpa using this
    have m1 : 0 ≤ minI rs r := by
      rcases minI_mem rs r with z | z
      · rw [z]; exact (hall r List.mem_cons_self).1
      · exact (hall _ (List.mem_cons_of_mem _ z)).1
    have m2 : maxI rs r ≤ 200 := by
      rcases maxI_mem rs r with z | z
      · rw [z]; exact (hall r List.mem_cons_self).2
      · exact (hall _ (List.mem_cons_of_mem _ z)).2
    simp
    omega
  · simp at h
    refine List.all_eq_true.mpr fun x hx => ?_
    unfold rowB
    simp
    rcases List.mem_cons.mp hx with z | z
    · rw [z]; omega
    · have := g1.2 x z
      have := g2.2 x z
      omega
section
variable {F : Form} {R : List Int} {S : List (List Int)} {a b : Nat} {o0 o2 o4 : Option AV}
theorem due_in {q : Nat × Nat} {s : List Int} (h2 : q.2 < R.length) (x : Int) : turn [8] (tName 8) l_law_due_2 (.int x) [o0, some (.d (formD F)), o2, some (.own (R.map PyData.int)), o4, none, some (.d (arrD q)), some (.d (liD s)), none]
    = if !(decide (0 ≤ x) && decide (x < R.getD q.2 0)) then some (.rt (.d .none)) else some (.nx [o0, some (.d (formD F)), o2, some (.own (R.map PyData.int)), o4, none, some (.d (arrD q)), some (.d (liD s)), none]) := by
  have e2 := atD_int h2
  generalize R.getD q.2 0 = m at e2
  generalize R.map PyData.int = RR at *
  by_cases h1 : 0 ≤ x <;> by_cases h2 : x < m <;> simp [l_law_due_2, e2, h1, h2]
theorem due_step {q : Nat × Nat} {s : List Int} (h1 : q.1 < R.length) (h2 : q.2 < R.length) :
    turn [6, 7, 8] (tTup [tName 6, tName 7]) l_law_due_3 (.tuple [arrD q, liD s]) [o0, some (.d (formD F)), o2, some (.own (R.map PyData.int)), o4, none, none, none, none]
      = if !stepB R q s then some (.rt (.d .none)) else some (.nx [o0, some (.d (formD F)), o2, some (.own (R.map PyData.int)), o4, none, none, none, none]) := by
  have e1 := atD_int h1
  have hl := loopF_find (w := [8]) (t := tName 8) (b := l_law_due_2) PyData.int [o0, some (.d (formD F)), o2, some (.own (R.map PyData.int)), o4, none, some (.d (arrD q)), some (.d (liD s)), none] (fun x => !(decide (0 ≤ x) && decide (x < R.getD q.2 0))) (.d .none) s fun x _ => due_in h2 x
  rw [any_not] at hl
  unfold stepB
  generalize (s.all fun x => decide (0 ≤ x) && decide (x < R.getD q.2 0)) = z at *
  generalize R.getD q.1 0 = m at *
  generalize R.map PyData.int = RR at *
  by_cases hn : (s.length : Int) = m
  · cases z <;> simp only [Bool.not_false, Bool.not_true, Bool.false_eq_true, if_true, if_false] at hl <;> simp [l_law_due_3, e1, hl, hn]
  · simp [l_law_due_3, e1, hn]
theorem zip_li {A : List (Nat × Nat)} (h : S.length = A.length) : zipD (A.map arrD) (S.map liD) = (List.range A.length).map fun i => PyData.tuple [arrD (A.getD i (0, 0)), liD (S.getD i [])] := zipD_range (0, 0) [] h
theorem due_tail (hF : F.Ok a b) (hR : R.length ≤ lim) (hS : S.length ≤ lim) : r_law_due_1 [o0, some (.d (formD F)), o2, some (.own (R.map PyData.int)), some (.own (S.map liD)), none, none, none, none] = some (.rt (.d (if isBookB F R S then piD R S else .none))) := by
  have f1 : fLen (.cur (R.map PyData.int)) = some (.d (.int (R.length : Nat))) := by
    show some (RV.d (PyData.int _)) = _
    rw [List.length_map]
  have f2 : fLen (.cur (S.map liD)) = some (.d (.int (S.length : Nat))) := by
    show some (RV.d (PyData.int _)) = _
    rw [List.length_map]
  unfold isBookB
  by_cases h1 : R.length = F.kinds
  · have h1' : (R.length : Int) = F.kinds := by omega
    by_cases h3 : S.length = F.arrows.length
    · have h3' : (S.length : Int) = F.arrows.length := by omega
      obtain ⟨r, rs, hr⟩ : ∃ r rs, R = r :: rs := by
        cases hR0 : R with
        | nil =>
          rw [hR0] at h1
          have := hF.pos
          simp at h1
          omega
        | cons x xs => exact ⟨x, xs, rfl⟩
      have f3 : fMinL (.cur (R.map PyData.int)) = some (.d (.int (minI rs r))) := by
        unfold fMinL
        simp only [RV.lst, ints_of, hr]
      have f4 : fMaxL (.cur (R.map PyData.int)) = some (.d (.int (maxI rs r))) := by
        unfold fMaxL
        simp only [RV.lst, ints_of, hr]
      have f5 : R.all rowB = (!decide (minI rs r < 0) && !decide (200 < maxI rs r)) := by rw [hr, all_rows]
      have hl := loopF_find (w := [6, 7, 8]) (t := tTup [tName 6, tName 7]) (b := l_law_due_3) (fun i => PyData.tuple [arrD (F.arrows.getD i (0, 0)), liD (S.getD i [])]) [o0, some (.d (formD F)), o2, some (.own (R.map PyData.int)), some (.d (.list (S.map liD))), none, none, none, none]
        (fun i => !stepB R (F.arrows.getD i (0, 0)) (S.getD i [])) (.d .none) (List.range F.arrows.length) (by
          intro i hi
          have hi := List.mem_range.mp hi
          have g := hF.arr _ (getD_mem hi (0, 0))
          exact due_step (F := F) (by omega) (by omega))
      rw [any_not, ← zip_li h3] at hl
      have f6 : lcGo (tName 7) bYes c_law_due_1 [o0, some (.d (formD F)), o2, some (.own (R.map PyData.int)), some (.d (.list (S.map liD))), none, none, none, none] (S.map liD) = some (S.map iD) :=
        lcGo_map liD iD S fun s _ => ⟨_, .d (iD s), rfl, by simp [c_law_due_1, liD, iD], rfl⟩
      have f7 : fTuple (.new (S.map iD)) = some (.d (iiD S)) := rfl
      have f8 : fTuple (.cur (R.map PyData.int)) = some (.d (iD R)) := rfl
      have f9 : PyData.tuple [iD R, iiD S] = piD R S := rfl
      have f10 : (S.map liD).length ≤ lim := by rw [List.length_map]; exact hS
      rw [f5]
      generalize ((List.range F.arrows.length).all fun i => stepB R (F.arrows.getD i (0, 0)) (S.getD i [])) = z at *
      generalize minI rs r = mn at *
      generalize maxI rs r = mx at *
      clear hr f5
      generalize piD R S = B at *
      generalize iiD S = I1 at *
      generalize iD R = I2 at *
      generalize R.map PyData.int = RR at *
      generalize S.map iD = SI at *
      generalize S.map liD = SS at *
      by_cases g1 : mn < 0
      · simp [r_law_due_1, f1, f2, f3, f4, h1, h1', h3, h3', g1, -fLen_cur]
      · by_cases g2 : 200 < mx
        · simp [r_law_due_1, f1, f2, f3, f4, h1, h1', h3, h3', g1, g2, -fLen_cur]
        · cases z
          · simp at hl
            simp [r_law_due_1, f1, f2, f3, f4, h1, h1', h3, h3', g1, g2, hl, -fLen_cur]
          · simp at hl
            simp [r_law_due_1, f1, f2, f3, f4, f6, f7, f8, f9, f10, h1, h1', h3, h3', g1, g2, hl, -fLen_cur, -fTuple_cur, -fTuple_new]
    · have h3' : ¬ (S.length : Int) = F.arrows.length := by omega
      simp [r_law_due_1, f1, f2, h1, h1', h3, h3', -fLen_cur]
  · have h1' : ¬ (R.length : Int) = F.kinds := by omega
    simp [r_law_due_1, f1, h1, h1', -fLen_cur]
theorem gI_len : ∀ (ws : List (List Nat)) (cur : List Int), (gI cur ws).length ≤ ws.length + 1 ∧ ∀ s ∈ gI cur ws, s.length ≤ cur.length + ws.length
  | [], cur => by simp [gI]
  | w :: ws, cur => by
    rw [gI]
    by_cases h : w = [124]
    · rw [if_pos h]
      obtain ⟨h1, h2⟩ := gI_len ws []
      refine ⟨by simp only [List.length_cons]; omega, fun s hs => ?_⟩
      rcases List.mem_cons.mp hs with z | z
      · rw [z]; omega
      · have := h2 s z
        simp only [List.length_nil, List.length_cons] at this ⊢
        omega
    · rw [if_neg h]
      obtain ⟨h1, h2⟩ := gI_len ws (cur ++ [numI w])
      refine ⟨by rw [List.length_cons]; omega, fun s hs => ?_⟩
      have := h2 s hs
      rw [List.length_append, List.length_singleton] at this
      rw [List.length_cons]
      omega
theorem stepsW_len {ws : List (List Nat)} : (stepsW ws).length ≤ ws.length + 1 ∧ ∀ s ∈ stepsW ws, s.length ≤ ws.length := by
  cases ws with
  | nil => exact ⟨Nat.zero_le _, fun s h => by cases h⟩
  | cons w r =>
    obtain ⟨h1, h2⟩ := gI_len r []
    exact ⟨by rw [List.length_cons]; exact Nat.le_succ_of_le h1, fun s hs => by have := h2 s hs; rw [List.length_cons]; simp at this; omega⟩
theorem due_eq {l : List Nat} (hF : F.Ok a b) (ha : asc l) (hl : l.length ≤ 100000) : F_law_due [.d (sD l), .d (formD F)] = some (.d (if isBookB F ((rowsW (cuts 32 l)).map numI) (stepsW (restW (cuts 32 l))) then piD ((rowsW (cuts 32 l)).map numI) (stepsW (restW (cuts 32 l))) else .none)) := by
  have hw : ∀ w ∈ cuts 32 l, asc w ∧ w.length ≤ 100000 := fun w hw => ⟨asc_sub ha (cuts_in hw), Nat.le_trans (cuts_short hw) hl⟩
  have hn : (cuts 32 l).length ≤ 100001 := Nat.le_trans cuts_few (by omega)
  have e1 := fSplit_sD (l := l) (S := [32]) (by rw [lim]; omega) (by simp) (by decide)
  rw [show TL.spl [32] 0 [] l = cuts 32 l from rfl] at e1
  have e2 := fun o0 o1 => rows_loop (o0 := o0) (o1 := o1) (cuts 32 l) [] hw (by rw [List.length_nil, lim]; omega)
  have e3 := fun o0 o1 o2 o3 => steps_loop (o0 := o0) (o1 := o1) (o2 := o2) (o3 := o3) hw hn
  have e4 := fun o0 o2 => due_tail (F := F) (o0 := o0) (o2 := o2) (R := (rowsW (cuts 32 l)).map numI) (S := stepsW (restW (cuts 32 l))) hF (by
    rw [List.length_map, lim]
    have := rowsW_len (cuts 32 l)
    omega) (by
    rw [lim]
    have := (stepsW_len (ws := restW (cuts 32 l))).1
    have := restW_len (cuts 32 l)
    omega)
  have e5 : ∀ X : List (List Int), (X.map fun s => s.map PyData.int).map PyData.list = X.map liD := fun X => by
    rw [List.map_map]
    rfl
  rw [← e5] at e4
  generalize (if isBookB F ((rowsW (cuts 32 l)).map numI) (stepsW (restW (cuts 32 l))) then piD ((rowsW (cuts 32 l)).map numI) (stepsW (restW (cuts 32 l))) else .none) = B at *
  rw [List.nil_append] at e2
  generalize ((rowsW (cuts 32 l)).map numI).map PyData.int = RR at *
  generalize ((stepsW (restW (cuts 32 l))).map fun s => s.map PyData.int) = SS at *
  generalize (restW (cuts 32 l)).map sD = M1 at *
  generalize (cuts 32 l).map sD = M2 at *
  simp [F_law_due, b_law_due, nFor, e1, e2, e3, e4]
end
/-! ### the same is read -/
theorem book_pos {F : Form} {R : List Int} {S : List (List Int)} (h : isBookB F R S = true) : R.length = F.kinds ∧ (∀ x ∈ R, 0 ≤ x) ∧ ∀ s ∈ S, ∀ x ∈ s, 0 ≤ x := by
  unfold isBookB at h
  simp only [Bool.and_eq_true, decide_eq_true_eq] at h
  obtain ⟨h1, h2, h3, h4⟩ := h
  refine ⟨h1, fun x hx => ?_, fun s hs x hx => ?_⟩
  · have := List.all_eq_true.mp h2 x hx
    unfold rowB at this
    simp at this
    exact this.1
  · obtain ⟨i, hi, rfl⟩ := List.getElem_of_mem hs
    have h5 := List.all_eq_true.mp h4 i (List.mem_range.mpr (by omega))
    unfold stepB at h5
    simp only [Bool.and_eq_true] at h5
    have e : S.getD i [] = S[i] := by simp [List.getD_eq_getElem?_getD, hi]
    rw [e] at h5
    have h6 := List.all_eq_true.mp h5.2 x hx
    simp at h6
    exact h6.1
theorem both_read {F : Form} {a b : Nat} (hF : F.Ok a b) {l : List Nat} (ha : asc l) (hl : l.length ≤ 100000) : ∃ r : Option (List Int × List (List Int)),
    F_law_due [.d (sD l), .d (formD F)] = some (.d (match r with | some x => piD x.1 x.2 | none => .none)) ∧ F_p_read_book [.d (sD l), .d (formD F)] = some (match r with | some x => .v (.d (piD x.1 x.2)) | none => .ex) ∧
      ∀ x, r = some x → x.1.length ≤ lim ∧ x.2.length ≤ lim ∧ ∀ s ∈ x.2, s.length ≤ lim := by
  obtain ⟨w0, ws, hc⟩ : ∃ w0 ws, cuts 32 l = w0 :: ws := by
    cases h : cuts 32 l with
    | nil => exact absurd h (cuts_ne l)
    | cons a b => exact ⟨a, b, rfl⟩
  have hfree : ∀ w ∈ w0 :: ws, (32 : Nat) ∉ w := fun w hw => cuts_free _ l (Nat.le_refl _) w (by rw [hc]; exact hw)
  have hf0 := hfree w0 List.mem_cons_self
  have hfs : ∀ w ∈ ws, (32 : Nat) ∉ w := fun w hw => hfree w (List.mem_cons_of_mem _ hw)
  have hj : l = TL.joinL [32] ([w0] ++ ws) := by
    have := join_cuts _ l (Nat.le_refl _)
    rw [hc] at this
    exact this.symm
  have hsp : TL.spl bar 0 [] l = (partsW [w0] ws).map (TL.joinL [32]) := by
    rw [hj]
    exact spl_words ws [w0] (by simp) (free_bar hf0) hfs
  obtain ⟨t, Gs, hG⟩ := partsW_head ws [w0]
  have hcut : ∀ G ∈ partsW [w0] ws, cuts 32 (TL.joinL [32] G) = G := fun G hm => by
    obtain ⟨h1, h2⟩ := partsW_mem ws [w0] (by simp) G hm
    refine cuts_join h1 fun w hw => ?_
    rcases h2 w hw with z | z | ⟨v, hv, z⟩
    · rw [List.mem_singleton.mp z]; exact hf0
    · exact hfs w z
    · rw [z]; exact fun y => hfs v hv (List.mem_of_mem_drop y)
  rw [hG] at hcut
  rw [hG, List.map_cons] at hsp
  have hR := read_book_eq hF ha hl hsp
  have hD := due_eq hF ha hl
  rw [hc] at hD
  have hn : ws.length ≤ 100000 := by
    have := cuts_few (c := 32) (l := l)
    rw [hc, List.length_cons] at this
    omega
  -- what the program finds in its parts
  have c0 := hcut _ List.mem_cons_self
  have cs : ∀ G ∈ Gs, cuts 32 (TL.joinL [32] G) = G := fun G hm => hcut G (List.mem_cons_of_mem _ hm)
  have v0 : rowsV (TL.joinL [32] ([w0] ++ t)) = ([w0] ++ t).map numV := by unfold rowsV; rw [c0]
  have vs : (Gs.map (TL.joinL [32])).map partV = Gs.map fun G => G.tail.map numV := by
    rw [List.map_map]
    exact List.map_congr_left fun G hm => by
      show partV _ = _
      unfold partV
      rw [cs G hm]
  have b0 : okB F (TL.joinL [32] ([w0] ++ t)) (Gs.map (TL.joinL [32])) = true ↔ (∀ w ∈ [w0] ++ t, goodW w = true) ∧ (∀ G ∈ Gs, okG G) ∧ isBookB F (([w0] ++ t).map numV) (Gs.map fun G => G.tail.map numV) = true := by
    unfold okB
    rw [c0, v0, vs]
    simp only [Bool.and_eq_true, and_assoc]
    constructor
    · rintro ⟨h1, h2, h3⟩
      refine ⟨List.all_eq_true.mp h1, fun G hm => ?_, h3⟩
      have h4 := List.all_eq_true.mp h2 _ (List.mem_map.mpr ⟨G, hm, rfl⟩)
      unfold okPart at h4
      rw [cs G hm] at h4
      simp only [Bool.and_eq_true, decide_eq_true_eq] at h4
      exact ⟨h4.1, List.all_eq_true.mp h4.2⟩
    · rintro ⟨h1, h2, h3⟩
      refine ⟨List.all_eq_true.mpr h1, List.all_eq_true.mpr fun p hp => ?_, h3⟩
      obtain ⟨G, hm, rfl⟩ := List.mem_map.mp hp
      unfold okPart
      rw [cs G hm]
      simp only [Bool.and_eq_true, decide_eq_true_eq]
      exact ⟨(h2 G hm).1, List.all_eq_true.mpr (h2 G hm).2⟩
  rw [v0, vs] at hR
  by_cases hcl : goodW w0 = true ∧ ∀ w ∈ ws, cleanW w
  · obtain ⟨Gs', k1, k2, k3, k4⟩ := clean_all ws [w0] hcl.2 fun w hw => by rw [List.mem_singleton.mp hw]; exact hcl.1
    have kk := hG.symm.trans k1
    injection kk with q1 q2
    subst q2
    rw [q1] at hR b0
    have hne : ¬ w0 = [124] := fun z => good_head hcl.1 (by rw [z]; rfl)
    have e1 : rowsW (w0 :: ws) = w0 :: rowsW ws := by rw [rowsW, if_neg hne]
    have e2 : restW (w0 :: ws) = restW ws := by rw [restW, if_neg hne]
    have hgood : ∀ w ∈ w0 :: rowsW ws, goodW w = true := fun w hw => by
      rcases List.mem_cons.mp hw with z | z
      · rw [z]; exact hcl.1
      · exact k4 w z
    have e3 : (w0 :: rowsW ws).map numI = ([w0] ++ rowsW ws).map numV := List.map_congr_left fun w hw => if_pos (hgood w hw)
    rw [e1, e2, e3, ← k2] at hD
    have l1 : (([w0] ++ rowsW ws).map numV).length ≤ lim := by
      rw [List.length_map, List.length_append, List.length_singleton, lim]
      have := rowsW_len ws
      omega
    have l2 := stepsW_len (ws := restW ws)
    rw [← k2] at l2
    have l3 := restW_len ws
    cases hb : isBookB F (([w0] ++ rowsW ws).map numV) (Gs.map fun G => G.tail.map numV) with
    | true =>
      have ok := b0.mpr ⟨hgood, k3, hb⟩
      rw [ok] at hR
      rw [hb] at hD
      exact ⟨some (_, _), by rw [hD]; rfl, by rw [hR]; rfl, fun x h => by
        cases h
        exact ⟨l1, Nat.le_trans l2.1 (by rw [lim]; omega), fun s hs => Nat.le_trans (l2.2 s hs) (by rw [lim]; omega)⟩⟩
    | false =>
      have ok : okB F (TL.joinL [32] ([w0] ++ rowsW ws)) (Gs.map (TL.joinL [32])) = false := by
        cases hz : okB F (TL.joinL [32] ([w0] ++ rowsW ws)) (Gs.map (TL.joinL [32])) with
        | false => rfl
        | true => rw [(b0.mp hz).2.2] at hb; cases hb
      rw [ok] at hR
      rw [hb] at hD
      exact ⟨none, by rw [hD]; rfl, by rw [hR]; rfl, fun x h => by cases h⟩
  · have ok : okB F (TL.joinL [32] ([w0] ++ t)) (Gs.map (TL.joinL [32])) = false := by
      cases hz : okB F (TL.joinL [32] ([w0] ++ t)) (Gs.map (TL.joinL [32])) with
      | false => rfl
      | true =>
        obtain ⟨h1, h2, _⟩ := b0.mp hz
        obtain ⟨g1, g2⟩ := clean_first ws [w0] _ Gs hG h1 h2
        exact absurd ⟨g1 w0 (by simp), g2⟩ hcl
    have hb : isBookB F ((rowsW (w0 :: ws)).map numI) (stepsW (restW (w0 :: ws))) = false := by
      cases hz : isBookB F ((rowsW (w0 :: ws)).map numI) (stepsW (restW (w0 :: ws))) with
      | false => rfl
      | true =>
        obtain ⟨h1, h2, h3⟩ := book_pos hz
        have hk := hF.pos
        have hne : ¬ w0 = [124] := fun z => by
          rw [rowsW, if_pos z] at h1
          simp at h1
          omega
        rw [rowsW, if_neg hne] at h2
        rw [restW, if_neg hne] at h3
        have g1 : ∀ w ∈ w0 :: rowsW ws, goodW w = true := fun w hw => numI_pos (h2 _ (List.mem_map.mpr ⟨w, hw, rfl⟩))
        have g2 : ∀ w ∈ restW ws, cleanW w := by
          rcases restW_first ws with e | ⟨r, e, _⟩
          · rw [e]
            intro w hw
            cases hw
          · rw [e] at h3 ⊢
            have g3 := gI_good r [] h3
            intro w hw
            rcases List.mem_cons.mp hw with z | z
            · exact .inl z
            · exact g3 w z
        exact absurd ⟨g1 w0 List.mem_cons_self, rows_clean ws (fun w hw => g1 w (List.mem_cons_of_mem _ hw)) g2⟩ hcl
    rw [ok] at hR
    rw [hb] at hD
    exact ⟨none, by rw [hD]; rfl, by rw [hR]; rfl, fun x h => by cases h⟩
/-! ### the law's comparison -/
theorem numbers_iD {p : List Int} (h : p.length ≤ lim) : F_law_numbers [.d (iD p)] = some (.d (.bool true)) := by
  have h1 : lcGo (tName 1) bYes c_law_numbers_1 [some (.d (iD p)), none] (p.map PyData.int) = some (p.map fun _ => .bool true) :=
    lcGo_map PyData.int (fun _ => .bool true) p fun x _ => ⟨_, _, rfl, by simp [c_law_numbers_1]; rfl, rfl⟩
  have h2 := fAll_true (xs := p)
  have h3 : isTupleD (.d (iD p)) = some (.d (.bool true)) := rfl
  simp [F_law_numbers, b_law_numbers, h, h1, h2, h3]
theorem nest_piD {R : List Int} {S : List (List Int)} : nest 50 (piD R S) = true := by
  have h1 : nest 49 (iiD S) = true := nest_tup fun a _ => nest_tup fun x _ => by simp [nest]
  have h2 : nest 49 (iD R) = true := nest_tup fun x _ => by simp [nest]
  show (nest 49 (iD R) && (nest 49 (iiD S) && true)) = true
  rw [h1, h2]
  rfl
theorem pair_selfI {R : List Int} {S : List (List Int)} (h1 : R.length ≤ lim) (h2 : S.length ≤ lim) (h3 : ∀ s ∈ S, s.length ≤ lim) : F_law_pair [.d (piD R S), .d (piD R S)] = some (.d (.bool true)) := by
  have e1 := numbers_iD h1
  have e2 : lcGo (tName 2) bYes c_law_pair_1 [some (.d (piD R S)), some (.d (piD R S)), none] (S.map iD) = some (S.map fun _ => .bool true) :=
    lcGo_map iD (fun _ => .bool true) S fun x hx => ⟨_, .d (.bool true), rfl, by simp [c_law_pair_1, numbers_iD (h3 x hx)], rfl⟩
  have e3 := fAll_true (xs := S)
  have e4 : cmpEq (.d (piD R S)) (.d (piD R S)) = some (.d (.bool true)) := cmpEq_self rfl rfl nest_piD
  have e5 : isTupleD (.d (piD R S)) = some (.d (.bool true)) := rfl
  have e6 : isTupleD (.d (iiD S)) = some (.d (.bool true)) := rfl
  have e7 : fLen (.d (piD R S)) = some (.d (.int 2)) := rfl
  simp [F_law_pair, b_law_pair, e1, e2, e3, e4, e5, e6, e7, h2]
/-! ### the text spoiled -/
def signL : List Nat := [48, 49, 50, 51, 52, 53, 54, 55, 56, 57, 32, 124, 45, 43, 95, 46, 97, 9]
@[simp] theorem lit_signs : PyData.str (Str.ofString "0123456789 |-+_.a\t") = sD signL := sD_lit _
theorem opAdd_nnT {xs ys : List D} (h : xs.length + ys.length ≤ lim) : opAdd (.new xs) (.new ys) = some (.new (xs ++ ys)) := if_pos h
theorem nat_mod {n : Nat} (h : 0 < n) (q : Int) : ∃ k : Nat, k < n ∧ q % (n : Int) = (k : Int) := by
  have h1 := Int.emod_nonneg q (show (n : Int) ≠ 0 by omega)
  have h2 := Int.emod_lt_of_pos q (show (0 : Int) < n by omega)
  exact ⟨(q % (n : Int)).toNat, by omega, by omega⟩
theorem spoiled_ex {l : List Nat} (ha : asc l) (hl : l.length ≤ 40000) {m c : Int} (hc : 0 ≤ c) : ∃ l', F_law_spoiled [.d (sD l), .d (.int m), .d (.int c)] = some (.d (sD l')) ∧ asc l' ∧ l'.length ≤ 100000 := by
  obtain ⟨at', hat, e1⟩ := nat_mod (show 0 < l.length + 1 by omega) c
  obtain ⟨sg, hsg, e2⟩ := nat_mod (show 0 < 18 by decide) (c / 4096)
  have f1 := fLen_sD (l := l) (by rw [lim]; omega)
  have m1 : opMod (.d (.int c)) (.d (.int ((l.length : Int) + 1))) = some (.d (.int (at' : Int))) := by
    rw [opMod_int (by omega), show ((l.length : Int) + 1) = ((l.length + 1 : Nat) : Int) by omega, e1]
  have m2 : opMod (.d (.int (c / 4096))) (.d (.int 18)) = some (.d (.int (sg : Int))) := by
    rw [opMod_int (by decide), show (18 : Int) = ((18 : Nat) : Int) from rfl, e2]
  have i1 := opIx_sD (l := signL) (k := sg) (by decide) hsg
  have as : asc [signL.getD sg 0] := asc_one (by
    have hm := getD_mem (show sg < signL.length from hsg) 0
    have : ∀ x ∈ signL, x < 256 := by decide
    exact this _ hm)
  have lo : ∀ lo hi, opCut (.d (sD l)) lo hi = some (.d (sD (cutL l lo hi))) := fun lo hi => opCut_sD (by rw [lim]; omega)
  have ln : ∀ lo hi, (cutL l lo hi).length ≤ 40000 := fun lo hi => Nat.le_trans cutL_le hl
  have al : ∀ lo hi, asc (cutL l lo hi) := fun lo hi => cut_sub ha
  have ad : ∀ (a b : List Nat), a.length ≤ 400000 → b.length ≤ 400000 → opAdd (.d (sD a)) (.d (sD b)) = some (.d (sD (a ++ b))) := fun a b h k => opAdd_sD (by rw [lim]; omega)
  generalize signL.getD sg 0 = sn at *
  by_cases h1 : m = 1
  · refine ⟨cutL l none (some (at' : Int)) ++ cutL l (some ((at' : Int) + 1)) none, ?_, asc_app (al _ _) (al _ _), ?_⟩
    · have := ad (cutL l none (some (at' : Int))) (cutL l (some ((at' : Int) + 1)) none) (Nat.le_trans (ln _ _) (by decide)) (Nat.le_trans (ln _ _) (by decide))
      simp [F_law_spoiled, b_law_spoiled, f1, m1, m2, i1, lo, this, h1, -opMod_int]
    · have := ln none (some (at' : Int))
      have := ln (some ((at' : Int) + 1)) none
      rw [List.length_append]
      omega
  · by_cases h2 : m = 2
    · have a1 := ad (cutL l none (some (at' : Int))) [sn] (Nat.le_trans (ln _ _) (by decide)) (by simp)
      have a2 := ad (cutL l none (some (at' : Int)) ++ [sn]) (cutL l (some (at' : Int)) none) (by have := ln none (some (at' : Int)); rw [List.length_append, List.length_singleton]; omega) (Nat.le_trans (ln _ _) (by decide))
      refine ⟨cutL l none (some (at' : Int)) ++ [sn] ++ cutL l (some (at' : Int)) none, ?_, asc_app (asc_app (al _ _) as) (al _ _), ?_⟩
      · simp [-List.append_assoc, F_law_spoiled, b_law_spoiled, f1, m1, m2, i1, lo, a1, a2, h2, -opMod_int]
      · have := ln none (some (at' : Int))
        have := ln (some (at' : Int)) none
        rw [List.length_append, List.length_append, List.length_singleton]
        omega
    · by_cases h3 : m = 3
      · have a1 := ad (cutL l none (some (at' : Int))) [sn] (Nat.le_trans (ln _ _) (by decide)) (by simp)
        have a2 := ad (cutL l none (some (at' : Int)) ++ [sn]) (cutL l (some ((at' : Int) + 1)) none) (by have := ln none (some (at' : Int)); rw [List.length_append, List.length_singleton]; omega) (Nat.le_trans (ln _ _) (by decide))
        refine ⟨cutL l none (some (at' : Int)) ++ [sn] ++ cutL l (some ((at' : Int) + 1)) none, ?_, asc_app (asc_app (al _ _) as) (al _ _), ?_⟩
        · simp [-List.append_assoc, F_law_spoiled, b_law_spoiled, f1, m1, m2, i1, lo, a1, a2, h3, -opMod_int]
        · have := ln none (some (at' : Int))
          have := ln (some ((at' : Int) + 1)) none
          rw [List.length_append, List.length_append, List.length_singleton]
          omega
      · have s1 := fSplit_sD (l := l) (S := [32]) (by rw [lim]; omega) (by simp) (by decide)
        rw [show TL.spl [32] 0 [] l = cuts 32 l from rfl] at s1
        have hp : 0 < (cuts 32 l).length := List.length_pos_iff.mpr (cuts_ne l)
        have hsum := cuts_sum (c := 32) _ l (Nat.le_refl _)
        have hall : ∀ w ∈ cuts 32 l, asc w := fun w hw => asc_sub ha (cuts_in hw)
        have hcn : (cuts 32 l).length ≤ 40001 := Nat.le_trans cuts_few (by omega)
        generalize cuts 32 l = ws at *
        obtain ⟨sp, hsp, e3⟩ := nat_mod hp c
        have m3 : opMod (.d (.int c)) (.d (.int (ws.length : Nat))) = some (.d (.int (sp : Int))) := by
          rw [opMod_int (by omega), e3]
        have cw : ∀ lo hi, opCut (.cur (ws.map sD)) lo hi = some (.new ((cutL ws lo hi).map sD)) := fun lo hi => by
          rw [← cutL_map]
          rfl
        have f2 : fLen (.cur (ws.map sD)) = some (.d (.int (ws.length : Nat))) := by
          show some (RV.d (PyData.int _)) = _
          rw [List.length_map]
        have fin : ∀ a b a' b', ∃ l', opAdd (.new ((cutL ws a b).map sD)) (.new ((cutL ws a' b').map sD)) = some (.new ((cutL ws a b ++ cutL ws a' b').map sD)) ∧ fJoin (.d (sD [32])) (.new ((cutL ws a b ++ cutL ws a' b').map sD)) = some (.d (sD l')) ∧ asc l' ∧ l'.length ≤ 100000 := fun a b a' b' => by
          have w1 : wsum (cutL ws a b ++ cutL ws a' b') ≤ 100000 := by
            rw [wsum_app]
            have := wsum_cut (ws := ws) (lo := a) (hi := b)
            have := wsum_cut (ws := ws) (lo := a') (hi := b')
            omega
          refine ⟨TL.joinL [32] (cutL ws a b ++ cutL ws a' b'), ?_, ?_, join_asc _ fun w hw => ?_, Nat.le_trans (join_len _) w1⟩
          · rw [List.map_append]
            refine opAdd_nnT ?_
            rw [List.length_map, List.length_map]
            have h1 : (cutL ws a b).length ≤ ws.length := cutL_le
            have h2 : (cutL ws a' b').length ≤ ws.length := cutL_le
            rw [lim]
            omega
          · refine fJoin_sD ?_
            rw [show ([32] : List Nat).length = 1 from rfl, wsum_eq]
            exact Nat.le_trans w1 (by decide)
          · rcases List.mem_append.mp hw with z | z
            · exact hall w (List.mem_of_mem_drop (List.mem_of_mem_take z))
            · exact hall w (List.mem_of_mem_drop (List.mem_of_mem_take z))
        by_cases h4 : m = 4
        · obtain ⟨l', q1, q2, q3, q4⟩ := fin none (some (sp : Int)) (some ((sp : Int) + 1)) none
          refine ⟨l', ?_, q3, q4⟩
          generalize ws.map sD = M at *
          generalize (cutL ws none (some (sp : Int)) ++ cutL ws (some ((sp : Int) + 1)) none).map sD = M1 at *
          simp [F_law_spoiled, b_law_spoiled, f1, m1, m2, i1, lo, s1, m3, cw, f2, q1, q2, h4, -opMod_int, -opCut_cur, -fLen_cur]
        · by_cases h5 : m = 5
          · obtain ⟨l', q1, q2, q3, q4⟩ := fin none (some ((sp : Int) + 1)) (some (sp : Int)) none
            refine ⟨l', ?_, q3, q4⟩
            generalize ws.map sD = M at *
            generalize (cutL ws none (some ((sp : Int) + 1)) ++ cutL ws (some (sp : Int)) none).map sD = M1 at *
            simp [F_law_spoiled, b_law_spoiled, f1, m1, m2, i1, lo, s1, m3, cw, f2, q1, q2, h5, -opMod_int, -opCut_cur, -fLen_cur]
          · refine ⟨l, ?_, ha, by omega⟩
            generalize ws.map sD = M at *
            simp [F_law_spoiled, b_law_spoiled, f1, m1, m2, i1, lo, s1, m3, f2, h1, h2, h3, h4, h5, -opMod_int, -opCut_cur, -fLen_cur]
/-! ### the law from its text on -/
noncomputable def p_tail : SF :=
  (sSeq (sSet 4 (eBin fJoin (eC (.str (Str.ofString " "))) (eLc [9] (iAny (eBin opIx (eVar 2) (eC (.int 0)))) (tName 9) bYes c_p_law_2)))
  (sSeq (sFor [5, 12] (iSeq (eBin opIx (eVar 2) (eC (.int 1)))) (tName 5)
  l_p_law_3)
  (sSeq (sSet 6 (eCall F_p_book_shown (aCons (eVar 2) aNil)))
  (sSeq (sIf (bOr (bNot (bVal (eUn isStrD (eVar 6)))) (bVal (eBin cmpNe (eVar 6) (eVar 4)))) (sRet (eC (.bool false))) sNil)
  (sSeq (sSet 4 (eCall F_law_spoiled (aCons (eVar 4) (aCons (eBin opMod (eCall F_law_cell (aCons (eVar 0) (aCons (eC (.int 6)) aNil))) (eC (.int 8))) (aCons (eBin opMod (eCall F_law_cell (aCons (eVar 0) (aCons (eC (.int 7)) aNil))) (eBin opPow (eC (.int 10)) (eC (.int 9)))) aNil)))))
  (sSeq (sIf (bVal (eBin cmpEq (eBin opMod (eBin opFdiv (eCall F_law_cell (aCons (eVar 0) (aCons (eC (.int 6)) aNil))) (eC (.int 8))) (eC (.int 9))) (eC (.int 1)))) (sSet 4 (eCall F_law_odd (aCons (eCall F_law_cell (aCons (eVar 0) (aCons (eC (.int 7)) aNil))) aNil))) sNil)
  (sSeq (sIf (bVal (eBin cmpEq (eBin opMod (eBin opFdiv (eCall F_law_cell (aCons (eVar 0) (aCons (eC (.int 6)) aNil))) (eC (.int 72))) (eC (.int 6))) (eC (.int 1)))) (sSet 1 (eCall F_law_form (aCons (eVar 0) (aCons (eC (.int 8)) (aCons (eC (.int 4)) (aCons (eC (.int 5)) aNil)))))) sNil)
  (sSeq (sSet 7 (eCall F_law_due (aCons (eVar 4) (aCons (eVar 1) aNil))))
  (sSeq (sSet 8 (eCall F_law_told (aCons (eVar 4) (aCons (eVar 1) aNil))))
  (sSeq (sIf (bVal (eBin cmpIsN (eVar 7) (eC .none))) (sRet (eBin cmpEq (eVar 8) (eLst (zCons (eC (.bool true)) (zCons (eC (.bool true)) (zCons (eC (.bool false)) zNil)))))) sNil)
  (sRet (eCall F_law_pair (aCons (eVar 8) (aCons (eVar 7) aNil))))))))))))))
theorem law_split : b_p_law = 
  (sSeq (sSet 1 (eCall F_law_form (aCons (eVar 0) (aCons (eC (.int 0)) (aCons (eC (.int 4)) (aCons (eC (.int 5)) aNil))))))
  (sSeq (sSet 2 (eCall F_law_book (aCons (eVar 0) (aCons (eC (.int 3)) (aCons (eVar 1) (aCons (eC (.int 4)) aNil))))))
  (sSeq (sSet 3 (eBin opSub (eBin opIx (eVar 1) (eC (.int 0))) (eC (.int 1))))
  (sSeq (sIf (bVal (eBin cmpEq (eBin opMod (eCall F_law_cell (aCons (eVar 0) (aCons (eC (.int 5)) aNil))) (eC (.int 4))) (eC (.int 1)))) (sSeq (sSet 9 (eBin fMax2 (eBin opIx (eBin opIx (eVar 2) (eC (.int 0))) (eVar 3)) (eBin opMod (eBin opFdiv (eCall F_law_cell (aCons (eVar 0) (aCons (eC (.int 5)) aNil))) (eC (.int 4))) (eC (.int 201)))))
  (sSeq (sSet 10 (eLst zNil))
  (sSeq (sFor [5, 11] (iEnum (iSeq (eBin opIx (eVar 2) (eC (.int 1))))) (tTup [(tName 11), (tName 5)])
  l_p_law_1)
  (sSet 2 (eTup (zCons (eBin opAdd (eCut (eBin opIx (eVar 2) (eC (.int 0))) pNone (pSome (eVar 3))) (eTup (zCons (eVar 9) zNil))) (zCons (eUn fTuple (eVar 10)) zNil))))))) sNil)
  p_tail)))) := rfl

/-! ### the text of a book -/
def rowT (l : List Nat) (x : Nat) : List Nat := l ++ [32] ++ TL.numL x
def stepT (l : List Nat) (s : List Nat) : List Nat := s.foldl rowT (l ++ [32, 124])
theorem row_text {l : List Nat} {x : Nat} (hl : l.length ≤ 90000) (hx : x < 1000) : opAdd (.d (sD l)) (.d (sD [32])) = some (.d (sD (l ++ [32]))) ∧ opAdd (.d (sD (l ++ [32]))) (.d (sD (TL.numL x))) = some (.d (sD (rowT l x))) ∧ (rowT l x).length ≤ l.length + 4 := by
  have h := num_len hx
  have e : (rowT l x).length = l.length + 1 + (TL.numL x).length := by simp only [rowT, List.length_append, List.length_singleton]
  refine ⟨opAdd_sD ?_, opAdd_sD ?_, by omega⟩ <;> simp only [List.length_append, List.length_singleton, lim] <;> omega
theorem row_asc {l : List Nat} {x : Nat} (h : asc l) : asc (rowT l x) := asc_app (asc_app h (asc_one (by decide))) (asc_num _)
theorem rows_len : ∀ (s : List Nat) (l : List Nat), (∀ x ∈ s, x < 1000) → (s.foldl rowT l).length ≤ l.length + 4 * s.length
  | [], l, _ => Nat.le_refl _
  | x :: s, l, h => by
    have ih := rows_len s (rowT l x) fun y hy => h y (List.mem_cons_of_mem _ hy)
    have hn := num_len (h x List.mem_cons_self)
    have e : (rowT l x).length = l.length + 1 + (TL.numL x).length := by simp only [rowT, List.length_append, List.length_singleton]
    rw [List.foldl_cons, List.length_cons]
    omega
theorem rows_asc : ∀ (s : List Nat) (l : List Nat), asc l → asc (s.foldl rowT l)
  | [], l, h => h
  | x :: s, l, h => rows_asc s (rowT l x) (row_asc h)
theorem step_len {s l : List Nat} (h : ∀ x ∈ s, x < 1000) : (stepT l s).length ≤ l.length + 2 + 4 * s.length := by
  have := rows_len s (l ++ [32, 124]) h
  rw [List.length_append] at this
  exact this
theorem step_asc {s l : List Nat} (h : asc l) : asc (stepT l s) := rows_asc s _ (asc_app h (by
  intro c hc
  simp at hc
  omega))
/-- a book whose text is short -/
structure Small (R : List Nat) (S : List (List Nat)) : Prop where
  rl : R.length ≤ 10
  rb : ∀ x ∈ R, x < 1000
  sl : S.length ≤ 10
  sr : ∀ s ∈ S, s.length ≤ 100 ∧ ∀ x ∈ s, x < 1000
theorem bar_text {l : List Nat} (hl : l.length ≤ 90000) : opAdd (.d (sD l)) (.d (sD [32, 124])) = some (.d (sD (l ++ [32, 124]))) := opAdd_sD (by rw [lim]; simp only [List.length_cons, List.length_nil]; omega)
section
variable {o0 o1 o2 o3 o4 o5 o6 o7 o8 o9 o10 o11 o13 : Option AV}
theorem shown_rows : ∀ (s : List Nat) (l : List Nat), (∀ x ∈ s, x < 1000) → l.length + 4 * s.length ≤ 90000 →
    loopF [3] (tName 3) l_p_book_shown_1 (s.map nD) [o0, some (.d (sD l)), o2, none, o4] = some (.nx [o0, some (.d (sD (s.foldl rowT l))), o2, none, o4])
  | [], l, _, _ => rfl
  | x :: s, l, h, hl => by
    rw [List.length_cons] at hl
    obtain ⟨e1, e2, e3⟩ := row_text (l := l) (x := x) (by omega) (h x List.mem_cons_self)
    have e4 := fStr_nat (n := x) (by have := h x List.mem_cons_self; rw [lim]; omega)
    rw [List.map_cons, loopF_nx (e2 := [o0, some (.d (sD (rowT l x))), o2, none, o4]), shown_rows s _ (fun y hy => h y (List.mem_cons_of_mem _ hy)) (by omega)]
    · rfl
    · simp [l_p_book_shown_1, e1, e2, e4]
theorem shown_steps : ∀ (S : List (List Nat)) (l : List Nat), (∀ s ∈ S, s.length ≤ 100 ∧ ∀ x ∈ s, x < 1000) → l.length + 402 * S.length ≤ 80000 →
    loopF [2, 3] (tName 2) l_p_book_shown_2 (S.map tD) [o0, some (.d (sD l)), none, none, o4] = some (.nx [o0, some (.d (sD (S.foldl stepT l))), none, none, o4])
  | [], l, _, _ => rfl
  | s :: S, l, h, hl => by
    rw [List.length_cons] at hl
    obtain ⟨h1, h2⟩ := h s List.mem_cons_self
    have e1 := bar_text (l := l) (by omega)
    have e2 := shown_rows (o0 := o0) (o2 := some (.d (tD s))) (o4 := o4) s (l ++ [32, 124]) h2 (by simp only [List.length_append, List.length_cons, List.length_nil]; omega)
    have e3 := step_len (l := l) h2
    rw [List.map_cons, loopF_nx (e2 := [o0, some (.d (sD (stepT l s))), none, none, o4]), shown_steps S _ (fun y hy => h y (List.mem_cons_of_mem _ hy)) (by omega)]
    · rfl
    · rw [show s.foldl rowT (l ++ [32, 124]) = stepT l s from rfl] at e2
      generalize l ++ [32, 124] = L2 at *
      simp [l_p_book_shown_2, e1, e2]
theorem text_rows : ∀ (s : List Nat) (l : List Nat), (∀ x ∈ s, x < 1000) → l.length + 4 * s.length ≤ 90000 →
    loopF [12] (tName 12) l_p_law_2 (s.map nD) [o0, o1, o2, o3, some (.d (sD l)), o5, o6, o7, o8, o9, o10, o11, none, o13] = some (.nx [o0, o1, o2, o3, some (.d (sD (s.foldl rowT l))), o5, o6, o7, o8, o9, o10, o11, none, o13])
  | [], l, _, _ => rfl
  | x :: s, l, h, hl => by
    rw [List.length_cons] at hl
    obtain ⟨e1, e2, e3⟩ := row_text (l := l) (x := x) (by omega) (h x List.mem_cons_self)
    have e4 := fStr_nat (n := x) (by have := h x List.mem_cons_self; rw [lim]; omega)
    rw [List.map_cons, loopF_nx (e2 := [o0, o1, o2, o3, some (.d (sD (rowT l x))), o5, o6, o7, o8, o9, o10, o11, none, o13]), text_rows s _ (fun y hy => h y (List.mem_cons_of_mem _ hy)) (by omega)]
    · rfl
    · simp [l_p_law_2, e1, e2, e4]
theorem text_steps : ∀ (S : List (List Nat)) (l : List Nat), (∀ s ∈ S, s.length ≤ 100 ∧ ∀ x ∈ s, x < 1000) → l.length + 402 * S.length ≤ 80000 →
    loopF [5, 12] (tName 5) l_p_law_3 (S.map tD) [o0, o1, o2, o3, some (.d (sD l)), none, o6, o7, o8, o9, o10, o11, none, o13] = some (.nx [o0, o1, o2, o3, some (.d (sD (S.foldl stepT l))), none, o6, o7, o8, o9, o10, o11, none, o13])
  | [], l, _, _ => rfl
  | s :: S, l, h, hl => by
    rw [List.length_cons] at hl
    obtain ⟨h1, h2⟩ := h s List.mem_cons_self
    have e1 := bar_text (l := l) (by omega)
    have e2 := text_rows (o0 := o0) (o1 := o1) (o2 := o2) (o3 := o3) (o5 := some (.d (tD s))) (o6 := o6) (o7 := o7) (o8 := o8) (o9 := o9) (o10 := o10) (o11 := o11) (o13 := o13) s (l ++ [32, 124]) h2 (by simp only [List.length_append, List.length_cons, List.length_nil]; omega)
    have e3 := step_len (l := l) h2
    rw [List.map_cons, loopF_nx (e2 := [o0, o1, o2, o3, some (.d (sD (stepT l s))), none, o6, o7, o8, o9, o10, o11, none, o13]), text_steps S _ (fun y hy => h y (List.mem_cons_of_mem _ hy)) (by omega)]
    · rfl
    · rw [show s.foldl rowT (l ++ [32, 124]) = stepT l s from rfl] at e2
      generalize l ++ [32, 124] = L2 at *
      simp [l_p_law_3, e1, e2]
theorem nums_lc {R : List Nat} (h : ∀ x ∈ R, x < 1000) : lcGo (tName 4) bYes c_p_book_shown_1 [o0, o1, o2, o3, none] (R.map nD) = some ((R.map TL.numL).map sD) := by
  rw [List.map_map]
  exact lcGo_map nD (sD ∘ TL.numL) R fun x hx => ⟨_, .d (sD (TL.numL x)), rfl, by
    have e4 := fStr_nat (n := x) (by have := h x hx; rw [lim]; omega)
    simp [c_p_book_shown_1, e4], rfl⟩
theorem lnums_lc {R : List Nat} (h : ∀ x ∈ R, x < 1000) : lcGo (tName 9) bYes c_p_law_2 [o0, o1, o2, o3, o4, o5, o6, o7, o8, none, o10, o11, none, o13] (R.map nD) = some ((R.map TL.numL).map sD) := by
  rw [List.map_map]
  exact lcGo_map nD (sD ∘ TL.numL) R fun x hx => ⟨_, .d (sD (TL.numL x)), rfl, by
    have e4 := fStr_nat (n := x) (by have := h x hx; rw [lim]; omega)
    simp [c_p_law_2, e4], rfl⟩
theorem steps_len : ∀ (S : List (List Nat)) (l : List Nat), (∀ s ∈ S, s.length ≤ 100 ∧ ∀ x ∈ s, x < 1000) → (S.foldl stepT l).length ≤ l.length + 402 * S.length
  | [], l, _ => Nat.le_refl _
  | s :: S, l, h => by
    obtain ⟨h1, h2⟩ := h s List.mem_cons_self
    have e3 := step_len (l := l) h2
    have ih := steps_len S (stepT l s) fun y hy => h y (List.mem_cons_of_mem _ hy)
    rw [List.foldl_cons, List.length_cons]
    omega
theorem steps_asc : ∀ (S : List (List Nat)) (l : List Nat), asc l → asc (S.foldl stepT l)
  | [], l, h => h
  | s :: S, l, h => steps_asc S (stepT l s) (step_asc h)
end
theorem wsum_nums : ∀ (R : List Nat), (∀ x ∈ R, x < 1000) → wsum (R.map TL.numL) ≤ 4 * R.length
  | [], _ => Nat.le_refl _
  | x :: R, h => by
    have ih := wsum_nums R fun y hy => h y (List.mem_cons_of_mem _ hy)
    have hn := num_len (h x List.mem_cons_self)
    rw [List.map_cons, wsum_cons, List.length_cons]
    omega
/-! ### odd texts -/
def odds : List String := ["", " ", "|", " |", "0 ", "0 |", "201", "1 1 | 0", "1 1 | 0 |", "1 1 |0"]
theorem odd_ex {c : Int} : ∃ l', F_law_odd [.d (.int c)] = some (.d (sD l')) ∧ asc l' ∧ l'.length ≤ 100000 := by
  obtain ⟨k, hk, e⟩ := nat_mod (show 0 < 10 by decide) c
  have hk2 : k < odds.length := hk
  have hs : (odds.map fun s => PyData.str (Str.ofString s))[k]? = some (PyData.str (Str.ofString (odds.getD k ""))) := by
    rw [List.getElem?_map, List.getElem?_eq_getElem hk2]
    simp [List.getD_eq_getElem?_getD, hk2]
  have ha := atD_nat hs
  have hm : odds.getD k "" ∈ odds := getD_mem hk2 ""
  have hp : ∀ s ∈ odds, ((s.toList.map Char.toNat).all (fun c => decide (c < 256)) && decide ((s.toList.map Char.toNat).length ≤ 100)) = true := by decide
  have h1 := hp _ hm
  simp only [Bool.and_eq_true, List.all_eq_true, decide_eq_true_eq] at h1
  refine ⟨(odds.getD k "").toList.map Char.toNat, ?_, h1.1, by omega⟩
  rw [← sD_lit]
  have e2 : F_law_odd [.d (.int c)] = (match atD (odds.map fun s => PyData.str (Str.ofString s)) (c % 10) with | some x => some (.d x) | none => none) := by
    unfold F_law_odd b_law_odd
    rw [show odds.map (fun s => PyData.str (Str.ofString s)) = [.str (Str.ofString ""), .str (Str.ofString " "), .str (Str.ofString "|"), .str (Str.ofString " |"), .str (Str.ofString "0 "), .str (Str.ofString "0 |"), .str (Str.ofString "201"), .str (Str.ofString "1 1 | 0"), .str (Str.ofString "1 1 | 0 |"), .str (Str.ofString "1 1 |0")] from rfl]
    cases hz : atD [.str (Str.ofString ""), .str (Str.ofString " "), .str (Str.ofString "|"), .str (Str.ofString " |"), .str (Str.ofString "0 "), .str (Str.ofString "0 |"), .str (Str.ofString "201"), .str (Str.ofString "1 1 | 0"), .str (Str.ofString "1 1 | 0 |"), .str (Str.ofString "1 1 |0")] (c % 10) with
    | none => simp [-lit_e, -lit_sp, -lit_bar, -lit_sbar, hz]
    | some x => simp [-lit_e, -lit_sp, -lit_bar, -lit_sbar, hz]
  rw [e2, show (10 : Int) = ((10 : Nat) : Int) from rfl, e, ha]
theorem cmpEq_boolsL : cmpEq (.cur [.bool true, .bool true, .bool false]) (.new [.bool true, .bool true, .bool false]) = some (.d (.bool true)) := by
  simp [cmpEq, RV.val, SeqAt.shaped, PyData.canLay0, PyData.canLayAll0, PyData.depth, PyData.depthAll, PyData.eqv, PyData.eqvAll]
@[simp] theorem isStr_sD {l : List Nat} : isStrD (.d (sD l)) = some (.d (.bool true)) := rfl
@[simp] theorem isN_piD {R : List Int} {S : List (List Int)} : cmpIsN (.d (piD R S)) (.d .none) = some (.d (.bool false)) := rfl
@[simp] theorem isN_none : cmpIsN (.d .none) (.d .none) = some (.d (.bool true)) := rfl
/-! ### from the text on -/
def textN (R : List Nat) (S : List (List Nat)) : List Nat := S.foldl stepT (TL.joinL [32] (R.map TL.numL))
theorem nums_text {R : List Nat} (h1 : R.length ≤ 10) (h : ∀ x ∈ R, x < 1000) : fJoin (.d (sD [32])) (.new ((R.map TL.numL).map sD)) = some (.d (sD (TL.joinL [32] (R.map TL.numL)))) ∧ asc (TL.joinL [32] (R.map TL.numL)) ∧ (TL.joinL [32] (R.map TL.numL)).length ≤ 40 := by
  have hw := wsum_nums R h
  refine ⟨fJoin_sD ?_, join_asc _ fun w hw => ?_, Nat.le_trans (join_len _) (by omega)⟩
  · rw [List.length_singleton, wsum_eq, lim]
    omega
  · obtain ⟨x, _, rfl⟩ := List.mem_map.mp hw
    exact asc_num x
theorem shown_eq {R : List Nat} {S : List (List Nat)} (hS : Small R S) : F_p_book_shown [.d (prD R S)] = some (.d (sD (textN R S))) := by
  obtain ⟨t1, t2, t3⟩ := nums_text hS.rl hS.rb
  have t4 := fun o0 o1 o2 o3 => nums_lc (o0 := o0) (o1 := o1) (o2 := o2) (o3 := o3) hS.rb
  have hl := hS.sl
  have hR : R.length ≤ lim := Nat.le_trans hS.rl (by decide)
  have t5 := fun o0 o4 => shown_steps (o0 := o0) (o4 := o4) S (TL.joinL [32] (R.map TL.numL)) hS.sr (by omega)
  unfold textN
  generalize (R.map TL.numL).map sD = M at *
  generalize S.foldl stepT (TL.joinL [32] (R.map TL.numL)) = T at *
  generalize TL.joinL [32] (R.map TL.numL) = T0 at *
  simp [F_p_book_shown, b_p_book_shown, hR, t1, t4, t5]
theorem law_tail (ns : List Int) {R : List Nat} {S : List (List Nat)} (hS : Small R S) {F : Form} (hF : F.Ok 4 5) (o3 o9 o10 : Option AV) :
    p_tail [some (.bor (ns.map PyData.int)), some (.d (formD F)), some (.d (prD R S)), o3, none, none, none, none, none, o9, o10, none, none, none] = some (.rt (.d (.bool true))) := by
  obtain ⟨t1, t2, t3⟩ := nums_text hS.rl hS.rb
  have hl := hS.sl
  have hR : R.length ≤ lim := Nat.le_trans hS.rl (by decide)
  have t4 := fun o0 o1 o2 o3 o4 o5 o6 o7 o8 o10 o11 o13 => lnums_lc (o0 := o0) (o1 := o1) (o2 := o2) (o3 := o3) (o4 := o4) (o5 := o5) (o6 := o6) (o7 := o7) (o8 := o8) (o10 := o10) (o11 := o11) (o13 := o13) hS.rb
  have t5 := fun o0 o1 o2 o3 o6 o7 o8 o9 o10 o11 o13 => text_steps (o0 := o0) (o1 := o1) (o2 := o2) (o3 := o3) (o6 := o6) (o7 := o7) (o8 := o8) (o9 := o9) (o10 := o10) (o11 := o11) (o13 := o13) S (TL.joinL [32] (R.map TL.numL)) hS.sr (by omega)
  have t6 := steps_len S (TL.joinL [32] (R.map TL.numL)) hS.sr
  have t7 := steps_asc S (TL.joinL [32] (R.map TL.numL)) t2
  have t8 := shown_eq hS
  unfold textN at t8
  generalize (R.map TL.numL).map sD = M at *
  generalize S.foldl stepT (TL.joinL [32] (R.map TL.numL)) = T at *
  generalize TL.joinL [32] (R.map TL.numL) = T0 at *
  have t9 : cmpNe (.d (sD T)) (.d (sD T)) = some (.d (.bool false)) := by
    rw [cmpNe_sD t7 t7]
    simp
  have c6 := cell_eqI ns 6 (by decide)
  have c7 := cell_eqI ns 7 (by decide)
  generalize cellI ns 6 = q6 at *
  generalize cellI ns 7 = q7 at *
  obtain ⟨F2, h2, hF2⟩ := form_ex ns 8 4 5 (by decide) (by decide) (by decide) (by decide) (by decide)
  obtain ⟨l2, s1, s2, s3⟩ := spoiled_ex t7 (by omega) (m := q6 % 8) (c := q7 % 1000000000) (Int.emod_nonneg _ (by decide))
  obtain ⟨l3, s4, s5, s6⟩ := odd_ex (c := q7)
  obtain ⟨l, hl1, hl2, hl3⟩ : ∃ l, (if q6 / 8 % 9 = 1 then l3 else l2) = l ∧ asc l ∧ l.length ≤ 100000 := by
    by_cases hz : q6 / 8 % 9 = 1
    · exact ⟨l3, if_pos hz, s5, s6⟩
    · exact ⟨l2, if_neg hz, s2, s3⟩
  obtain ⟨G, hG1, hG⟩ : ∃ G : Form, (if q6 / 72 % 6 = 1 then F2 else F) = G ∧ G.Ok 4 5 := by
    by_cases hy : q6 / 72 % 6 = 1
    · exact ⟨F2, if_pos hy, hF2⟩
    · exact ⟨F, if_neg hy, hF⟩
  obtain ⟨r, d1, d2, d3⟩ := both_read hG hl2 hl3
  cases r with
  | none =>
    have ht : F_law_told [.d (sD l), .d (formD G)] = some (.new [.bool true, .bool true, .bool false]) := by simp [F_law_told, b_law_told, d2, RV.ret]
    by_cases hz : q6 / 8 % 9 = 1
    · rw [if_pos hz] at hl1
      subst hl1
      by_cases hy : q6 / 72 % 6 = 1
      · rw [if_pos hy] at hG1
        subst hG1
        simp [p_tail, hR, h2, t1, t4, t5, t8, t9, c6, c7, s1, s4, hz, hy, d1, ht, cmpEq_boolsL]
      · rw [if_neg hy] at hG1
        subst hG1
        simp [p_tail, hR, t1, t4, t5, t8, t9, c6, c7, s1, s4, hz, hy, d1, ht, cmpEq_boolsL]
    · rw [if_neg hz] at hl1
      subst hl1
      by_cases hy : q6 / 72 % 6 = 1
      · rw [if_pos hy] at hG1
        subst hG1
        simp [p_tail, hR, h2, t1, t4, t5, t8, t9, c6, c7, s1, hz, hy, d1, ht, cmpEq_boolsL]
      · rw [if_neg hy] at hG1
        subst hG1
        simp [p_tail, hR, t1, t4, t5, t8, t9, c6, c7, s1, hz, hy, d1, ht, cmpEq_boolsL]
  | some x =>
    obtain ⟨R2, S2⟩ := x
    have ht : F_law_told [.d (sD l), .d (formD G)] = some (.d (piD R2 S2)) := by simp [F_law_told, b_law_told, d2, RV.ret]
    obtain ⟨g1, g2, g3⟩ := d3 _ rfl
    have u2 := pair_selfI g1 g2 g3
    by_cases hz : q6 / 8 % 9 = 1
    · rw [if_pos hz] at hl1
      subst hl1
      by_cases hy : q6 / 72 % 6 = 1
      · rw [if_pos hy] at hG1
        subst hG1
        simp [p_tail, hR, h2, t1, t4, t5, t8, t9, c6, c7, s1, s4, hz, hy, d1, ht, u2]
      · rw [if_neg hy] at hG1
        subst hG1
        simp [p_tail, hR, t1, t4, t5, t8, t9, c6, c7, s1, s4, hz, hy, d1, ht, u2]
    · rw [if_neg hz] at hl1
      subst hl1
      by_cases hy : q6 / 72 % 6 = 1
      · rw [if_pos hy] at hG1
        subst hG1
        simp [p_tail, hR, h2, t1, t4, t5, t8, t9, c6, c7, s1, hz, hy, d1, ht, u2]
      · rw [if_neg hy] at hG1
        subst hG1
        simp [p_tail, hR, t1, t4, t5, t8, t9, c6, c7, s1, hz, hy, d1, ht, u2]
/-! ### the book that is drawn anew -/
theorem opCut_tD {p : List Nat} {lo hi : Option Int} : opCut (.d (tD p)) lo hi = some (.d (tD (cutL p lo hi))) := by
  show some (RV.d (PyData.tuple (cutL (p.map nD) lo hi))) = _
  rw [cutL_map]
  rfl
theorem mem_getD {α : Type} {xs : List α} {x : α} (d : α) (h : x ∈ xs) : ∃ i, i < xs.length ∧ xs.getD i d = x := by
  obtain ⟨i, hi, rfl⟩ := List.getElem_of_mem h
  exact ⟨i, hi, by simp [List.getD_eq_getElem?_getD, hi]⟩
theorem row_le {R : List Nat} (h : ∀ r ∈ R, r ≤ 4) (k : Nat) : R.getD k 0 ≤ 4 := by
  by_cases hk : k < R.length
  · exact h _ (getD_mem hk 0)
  · rw [List.getD_eq_getElem?_getD, List.getElem?_eq_none (by omega)]
    exact Nat.zero_le _
section
variable {F : Form} {R : List Nat} {S : List (List Nat)} {ns : List Int}
theorem small_book (hF : F.Ok 4 5) (hB : BookOk F R S) (h4 : ∀ r ∈ R, r ≤ 4) : Small R S := by
  have h1 := hF.most
  have h2 := hF.many
  have h3 := hB.rows
  have h5 := hB.steps
  refine ⟨by omega, fun x hx => by have := h4 x hx; omega, by omega, fun s hs => ?_⟩
  obtain ⟨i, hi, rfl⟩ := mem_getD [] hs
  have g1 := hB.len i (by omega)
  have g2 := hB.lt i (by omega)
  have g3 := row_le h4 (F.arrows.getD i (0, 0)).1
  have g4 := row_le h4 (F.arrows.getD i (0, 0)).2
  exact ⟨by omega, fun x hx => by have := g2 x hx; omega⟩
def drawT (c : Int) (i x m : Nat) : Nat := (drawI c (61 * i + x) m).toNat
theorem drawT_eq {c : Int} {i x m : Nat} (h : 0 < m) : drawI c (61 * i + x) m = (drawT c i x m : Nat) := (Int.toNat_of_nonneg (drawI_lo (by omega))).symm
theorem drawT_lt {c : Int} {i x m : Nat} (h : 0 < m) : drawT c i x m < m := by
  have := drawI_hi (c := c) (k := 61 * i + x) (b := (m : Int)) (by omega)
  rw [drawT_eq h] at this
  omega
/-- a step as it stands in the book drawn anew -/
def newStep (F : Form) (S : List (List Nat)) (c : Int) (k m i : Nat) : List Nat :=
  if (F.arrows.getD i (0, 0)).2 = k then (List.range (S.getD i []).length).map fun x => drawT c i x m else S.getD i []
def newBook (F : Form) (S : List (List Nat)) (c : Int) (k m : Nat) : List (List Nat) := (List.range S.length).map (newStep F S c k m)
theorem new_pos (hB : BookOk F R S) {k m i : Nat} (hkm : R.getD k 0 ≤ m) (hi : i < S.length) (hk : (F.arrows.getD i (0, 0)).2 = k) {y : Nat} (hy : y < (S.getD i []).length) : 0 < m := by
  have h5 := hB.steps
  have g2 := hB.lt i (by omega) _ (getD_mem hy 0)
  rw [hk] at g2
  omega
theorem new_step (hB : BookOk F R S) (h4 : ∀ r ∈ R, r ≤ 4) {c : Int} {k m i : Nat} (hm : m ≤ 200) (hkm : R.getD k 0 ≤ m) (hi : i < S.length) : (newStep F S c k m i).length ≤ 4 ∧ ∀ x ∈ newStep F S c k m i, x < 1000 := by
  have h5 := hB.steps
  have g1 := hB.len i (by omega)
  have g2 := hB.lt i (by omega)
  have g3 := row_le h4 (F.arrows.getD i (0, 0)).1
  have g4 := row_le h4 (F.arrows.getD i (0, 0)).2
  unfold newStep
  by_cases hk : (F.arrows.getD i (0, 0)).2 = k
  · rw [if_pos hk]
    refine ⟨by rw [List.length_map, List.length_range]; omega, fun x hx => ?_⟩
    obtain ⟨y, hy, rfl⟩ := List.mem_map.mp hx
    have hp := new_pos hB hkm hi hk (List.mem_range.mp hy)
    have := drawT_lt (c := c) (i := i) (x := y) hp
    omega
  · rw [if_neg hk]
    exact ⟨by omega, fun x hx => by have := g2 x hx; omega⟩
theorem small_new (hF : F.Ok 4 5) (hB : BookOk F R S) (h4 : ∀ r ∈ R, r ≤ 4) {c : Int} {k m : Nat} (hm : m ≤ 200) (hkm : R.getD k 0 ≤ m) {R' : List Nat} {z : Nat} (hR : R = R' ++ [z]) : Small (R' ++ [m]) (newBook F S c k m) := by
  have h1 := hF.most
  have h2 := hF.many
  have h3 := hB.rows
  have h5 := hB.steps
  have hl : R.length = R'.length + 1 := by rw [hR, List.length_append, List.length_singleton]
  refine ⟨by rw [List.length_append, List.length_singleton]; omega, fun x hx => ?_, by unfold newBook; rw [List.length_map, List.length_range]; omega, fun s hs => ?_⟩
  · rcases List.mem_append.mp hx with h | h
    · have := h4 x (by rw [hR]; exact List.mem_append_left _ h)
      omega
    · rw [List.mem_singleton.mp h]
      omega
  · obtain ⟨i, hi, rfl⟩ := List.mem_map.mp hs
    obtain ⟨g1, g2⟩ := new_step (c := c) hB h4 hm hkm (List.mem_range.mp hi)
    exact ⟨by omega, g2⟩
theorem new_turn (hB : BookOk F R S) (h4 : ∀ r ∈ R, r ≤ 4) (hF : F.Ok 4 5) {k m i : Nat} (hkm : R.getD k 0 ≤ m) (hi : i < S.length) {acc : List D} (ha : acc.length < lim) :
    turn [5, 11] (tTup [tName 11, tName 5]) l_p_law_1 (.tuple [nD i, tD (S.getD i [])]) [some (.bor (ns.map PyData.int)), some (.d (formD F)), some (.d (prD R S)), some (.d (nD k)), none, none, none, none, none, some (.d (nD m)), some (.own acc), none, none, none]
      = some (.nx [some (.bor (ns.map PyData.int)), some (.d (formD F)), some (.d (prD R S)), some (.d (nD k)), none, none, none, none, none, some (.d (nD m)), some (.own (acc ++ [tD (newStep F S (cellI ns 5) k m i)])), none, none, none]) := by
  have h5 := hB.steps
  have h2 := hF.many
  have g1 := hB.len i (by omega)
  have g3 := row_le h4 (F.arrows.getD i (0, 0)).1
  have c5 := cell_eqI ns 5 (by decide)
  have e1 : atD (F.arrows.map arrD) (i : Int) = some (arrD (F.arrows.getD i (0, 0))) := atD_map (by omega) (0, 0)
  have hp := fun hk y hy => new_pos (k := k) hB hkm hi hk (y := y) hy
  unfold newStep
  generalize S.getD i [] = s at *
  generalize F.arrows.getD i (0, 0) = q at *
  by_cases hk : q.2 = k
  · rw [if_pos hk]
    have e2 := lcGo_map (t := tName 13) (f := c_p_law_1) (e := [some (.bor (ns.map PyData.int)), some (.d (formD F)), some (.d (prD R S)), some (.d (nD k)), none, some (.d (tD s)), none, none, none, some (.d (nD m)), some (.own acc), some (.d (nD i)), none, none]) nD (fun x => nD (drawT (cellI ns 5) i x m)) (List.range s.length) fun x hx => ⟨_, .d (nD (drawT (cellI ns 5) i x m)), rfl, by
      have hm := hp hk x (List.mem_range.mp hx)
      have d1 := draw_eq (cellI ns 5) (61 * i + x) m (by omega)
      rw [drawT_eq hm] at d1
      simp [c_p_law_1, c5, d1], rfl⟩
    have e3 : fTuple (.new ((List.range s.length).map fun x => nD (drawT (cellI ns 5) i x m))) = some (.d (tD ((List.range s.length).map fun x => drawT (cellI ns 5) i x m))) := by
      show some (RV.d (PyData.tuple _)) = _
      unfold tD
      rw [List.map_map]
      rfl
    have r1 : -1000000 ≤ (s.length : Int) ∧ (s.length : Int) ≤ 1000000 := by omega
    have r2 : s.length ≤ lim := by rw [lim]; omega
    generalize ((List.range s.length).map fun x => drawT (cellI ns 5) i x m) = T at *
    generalize ((List.range s.length).map fun x => nD (drawT (cellI ns 5) i x m)) = M at *
    simp [l_p_law_1, e1, e2, e3, hk, ha, r1, r2, upTo_nat, -fTuple_new]
  · rw [if_neg hk]
    have hk' : ¬ (q.2 : Int) = k := by omega
    have e0 : cmpEq (.d (nD q.2)) (.d (nD k)) = some (.d (.bool false)) := by
      simp
      omega
    generalize nD k = kk at *
    simp [l_p_law_1, e1, e0, ha]
theorem new_loop (hB : BookOk F R S) (h4 : ∀ r ∈ R, r ≤ 4) (hF : F.Ok 4 5) {k m : Nat} (hkm : R.getD k 0 ≤ m) :
    loopF [5, 11] (tTup [tName 11, tName 5]) l_p_law_1 (enumD 0 (S.map tD)) [some (.bor (ns.map PyData.int)), some (.d (formD F)), some (.d (prD R S)), some (.d (nD k)), none, none, none, none, none, some (.d (nD m)), some (.own []), none, none, none]
      = some (.nx [some (.bor (ns.map PyData.int)), some (.d (formD F)), some (.d (prD R S)), some (.d (nD k)), none, none, none, none, none, some (.d (nD m)), some (.own ((newBook F S (cellI ns 5) k m).map tD)), none, none, none]) := by
  have h5 := hB.steps
  have h2 := hF.many
  have hf : ((List.range S.length).flatMap fun i => [tD (newStep F S (cellI ns 5) k m i)]) = (newBook F S (cellI ns 5) k m).map tD := by
    unfold newBook
    rw [List.map_map]
    generalize List.range S.length = X
    induction X with
    | nil => rfl
    | cons x X ih => rw [List.flatMap_cons, ih]; rfl
  have h := loopF_flat (w := [5, 11]) (t := tTup [tName 11, tName 5]) (b := l_p_law_1) (fun i => PyData.tuple [nD i, tD (S.getD i [])])
    (fun acc => [some (.bor (ns.map PyData.int)), some (.d (formD F)), some (.d (prD R S)), some (.d (nD k)), none, none, none, none, none, some (.d (nD m)), some (.own acc), none, none, none])
    (fun i => [tD (newStep F S (cellI ns 5) k m i)]) (List.range S.length) (fun i hi acc ha => new_turn hB h4 hF hkm (List.mem_range.mp hi) (by rw [List.length_singleton] at ha; omega)) [] (by
      rw [hf, List.length_map]
      unfold newBook
      rw [List.length_map, List.length_range, lim, List.length_nil]
      omega)
  rw [hf, List.nil_append] at h
  rw [enumD_map tD S []]
  exact h
end
theorem law_true (ns : List Int) (h : ns.length ≤ 63) : F_p_law [.bor (ns.map PyData.int)] = some (.d (.bool true)) := by
  obtain ⟨F, h1, hF⟩ := form_ex ns 0 4 5 (by decide) (by decide) (by decide) (by decide) (by decide)
  obtain ⟨R, S, h2, hB, h4⟩ := book_ex ns hF (by decide) (by decide) 3 4 (by decide) (by decide) (by decide)
  have h4 : ∀ r ∈ R, r ≤ 4 := fun r hr => by have := h4 r hr; omega
  obtain ⟨k, hk⟩ : ∃ k : Nat, F.kinds = k + 1 := ⟨F.kinds - 1, by have := hF.pos; omega⟩
  have hl : R.length = k + 1 := hB.rows.trans hk
  have e1 : opSub (.d (nD F.kinds)) (.d (.int 1)) = some (.d (nD k)) := by
    rw [hk]
    simp
  have c5 := cell_eqI ns 5 (by decide)
  unfold F_p_law
  rw [law_split]
  by_cases hq : cellI ns 5 % 4 = 1
  · obtain ⟨R', z, hR⟩ : ∃ R' z, R = R' ++ [z] := by
      rcases List.eq_nil_or_concat R with h | ⟨R', z, h⟩
      · rw [h] at hl; cases hl
      · exact ⟨R', z, by rw [h, List.concat_eq_append]⟩
    have hk2 : R'.length = k := by rw [hR, List.length_append, List.length_singleton] at hl; omega
    have e2 : atD (R.map nD) (k : Int) = some (nD (R.getD k 0)) := atD_nD (by omega)
    have hr := row_le h4 k
    have p1 := Int.emod_nonneg (cellI ns 5 / 4) (show (201 : Int) ≠ 0 by decide)
    have p2 := Int.emod_lt_of_pos (cellI ns 5 / 4) (show (0 : Int) < 201 by decide)
    obtain ⟨m, hm1, hm2, hm3⟩ : ∃ m : Nat, (if cellI ns 5 / 4 % 201 > (R.getD k 0 : Int) then cellI ns 5 / 4 % 201 else (R.getD k 0 : Int)) = (m : Int) ∧ m ≤ 200 ∧ R.getD k 0 ≤ m := by
      by_cases hg : cellI ns 5 / 4 % 201 > (R.getD k 0 : Int)
      · exact ⟨(cellI ns 5 / 4 % 201).toNat, by rw [if_pos hg]; omega, by omega, by omega⟩
      · exact ⟨R.getD k 0, by rw [if_neg hg], by omega, Nat.le_refl _⟩
    have e3 : fMax2 (.d (nD (R.getD k 0))) (.d (.int (cellI ns 5 / 4 % 201))) = some (.d (nD m)) := by
      rw [fMax2_int, hm1]
    have e4 := new_loop (ns := ns) hB h4 hF hm3
    have e5 : opCut (.d (tD R)) none (some (k : Int)) = some (.d (tD R')) := by
      rw [opCut_tD, hR, ← hk2, cut_to]
    have e6 : R'.length < lim := by rw [lim, hk2]; have := hF.most; omega
    have e7 : fTuple (.cur ((newBook F S (cellI ns 5) k m).map tD)) = some (.d (ttD (newBook F S (cellI ns 5) k m))) := rfl
    have e8 := fun o3 o9 o10 => law_tail ns (small_new (c := cellI ns 5) hF hB h4 hm2 hm3 hR) hF o3 o9 o10
    have e9 : ∀ A B, PyData.tuple [tD A, ttD B] = prD A B := fun _ _ => rfl
    generalize newBook F S (cellI ns 5) k m = N at *
    generalize cellI ns 5 = q5 at *
    generalize R.getD k 0 = rk at *
    generalize N.map tD = NN at *
    simp [h1, h2, e1, c5, hq, e2, e3, e4, e5, e6, e7, e8, e9, -fMax2_int, -fTuple_cur]
  · have e8 := fun o3 o9 o10 => law_tail ns (small_book hF hB h4) hF o3 o9 o10
    generalize cellI ns 5 = q5 at *
    simp [h1, h2, e1, c5, hq, e8]
end FS
set_option Elab.async false
set_option linter.all false
set_option maxRecDepth 100000
set_option maxHeartbeats 4000000
set_option autoImplicit false
set_option pp.maxSteps 300
set_option pp.deepTerms.threshold 3
namespace FL
open PySem L2 PyProof.Rows PySem.Spec FS
/-! ### the text -/
def at_ (i : Nat) : Stmt := PySem.Challenge.pw_formshift_k16_book_written.main.body.getD i (.Pass ⟨0, 0, 0, 0⟩)
abbrev s_is_book : Stmt := at_ 2
abbrev ns_is_book : List Str := ["form", "book", "rows", "arrow", "step", "many", "row"]
theorem sc_is_book : FnScope ns_is_book ["form", "book"] (defScope s_is_book) := ⟨rfl, rfl, rfl, by decide +kernel, rfl, by decide +kernel, by decide +kernel⟩
abbrev s_book_shown : Stmt := at_ 9
abbrev ns_book_shown : List Str := ["book", "line", "step", "row", "many"]
theorem sc_book_shown : FnScope ns_book_shown ["book"] (defScope s_book_shown) := ⟨rfl, rfl, rfl, by decide +kernel, rfl, by decide +kernel, by decide +kernel⟩
abbrev s_number_of : Stmt := at_ 10
abbrev ns_number_of : List Str := ["word", "sign"]
theorem sc_number_of : FnScope ns_number_of ["word"] (defScope s_number_of) := ⟨rfl, rfl, rfl, by decide +kernel, rfl, by decide +kernel, by decide +kernel⟩
abbrev s_read_book : Stmt := at_ 11
abbrev ns_read_book : List Str := ["text", "form", "parts", "rows", "steps", "part", "book", "words", "word"]
theorem sc_read_book : FnScope ns_read_book ["text", "form"] (defScope s_read_book) := ⟨rfl, rfl, rfl, by decide +kernel, rfl, by decide +kernel, by decide +kernel⟩
abbrev s__law_stir : Stmt := at_ 13
abbrev ns__law_stir : List Str := ["cell", "found", "factor", "mixed"]
theorem sc__law_stir : FnScope ns__law_stir ["cell"] (defScope s__law_stir) := ⟨rfl, rfl, rfl, by decide +kernel, rfl, by decide +kernel, by decide +kernel⟩
abbrev s__law_cell : Stmt := at_ 14
abbrev ns__law_cell : List Str := ["script", "k"]
theorem sc__law_cell : FnScope ns__law_cell ["script", "k"] (defScope s__law_cell) := ⟨rfl, rfl, rfl, by decide +kernel, rfl, by decide +kernel, by decide +kernel⟩
abbrev s__law_whole : Stmt := at_ 15
abbrev ns__law_whole : List Str := ["found"]
theorem sc__law_whole : FnScope ns__law_whole ["found"] (defScope s__law_whole) := ⟨rfl, rfl, rfl, by decide +kernel, rfl, by decide +kernel, by decide +kernel⟩
abbrev s__law_draw : Stmt := at_ 16
abbrev ns__law_draw : List Str := ["cell", "k", "bound", "stir", "turn"]
theorem sc__law_draw : FnScope ns__law_draw ["cell", "k", "bound"] (defScope s__law_draw) := ⟨rfl, rfl, rfl, by decide +kernel, rfl, by decide +kernel, by decide +kernel⟩
abbrev s__law_form : Stmt := at_ 17
abbrev ns__law_form : List Str := ["script", "first", "most", "many", "kinds", "arrows", "k", "a", "b"]
theorem sc__law_form : FnScope ns__law_form ["script", "first", "most", "many"] (defScope s__law_form) := ⟨rfl, rfl, rfl, by decide +kernel, rfl, by decide +kernel, by decide +kernel⟩
abbrev s__law_book : Stmt := at_ 19
abbrev ns__law_book : List Str := ["script", "first", "form", "most", "rows", "a", "b", "steps", "k", "arrow", "cell", "kind", "x"]
theorem sc__law_book : FnScope ns__law_book ["script", "first", "form", "most"] (defScope s__law_book) := ⟨rfl, rfl, rfl, by decide +kernel, rfl, by decide +kernel, by decide +kernel⟩
abbrev s__law_numbers : Stmt := at_ 21
abbrev ns__law_numbers : List Str := ["found", "x"]
theorem sc__law_numbers : FnScope ns__law_numbers ["found"] (defScope s__law_numbers) := ⟨rfl, rfl, rfl, by decide +kernel, rfl, by decide +kernel, by decide +kernel⟩
abbrev s__law_pair : Stmt := at_ 22
abbrev ns__law_pair : List Str := ["found", "due", "step"]
theorem sc__law_pair : FnScope ns__law_pair ["found", "due"] (defScope s__law_pair) := ⟨rfl, rfl, rfl, by decide +kernel, rfl, by decide +kernel, by decide +kernel⟩
abbrev s__law_spoiled : Stmt := at_ 24
abbrev ns__law_spoiled : List Str := ["text", "mode", "cell", "at", "sign", "words", "spot"]
theorem sc__law_spoiled : FnScope ns__law_spoiled ["text", "mode", "cell"] (defScope s__law_spoiled) := ⟨rfl, rfl, rfl, by decide +kernel, rfl, by decide +kernel, by decide +kernel⟩
abbrev s__law_odd : Stmt := at_ 25
abbrev ns__law_odd : List Str := ["cell"]
theorem sc__law_odd : FnScope ns__law_odd ["cell"] (defScope s__law_odd) := ⟨rfl, rfl, rfl, by decide +kernel, rfl, by decide +kernel, by decide +kernel⟩
abbrev s__law_number : Stmt := at_ 26
abbrev ns__law_number : List Str := ["word", "sign"]
theorem sc__law_number : FnScope ns__law_number ["word"] (defScope s__law_number) := ⟨rfl, rfl, rfl, by decide +kernel, rfl, by decide +kernel, by decide +kernel⟩
abbrev s__law_due : Stmt := at_ 27
abbrev ns__law_due : List Str := ["text", "form", "words", "rows", "steps", "word", "arrow", "step", "row"]
theorem sc__law_due : FnScope ns__law_due ["text", "form"] (defScope s__law_due) := ⟨rfl, rfl, rfl, by decide +kernel, rfl, by decide +kernel, by decide +kernel⟩
abbrev s__law_told : Stmt := at_ 28
abbrev ns__law_told : List Str := ["text", "form", "e"]
theorem sc__law_told : FnScope ns__law_told ["text", "form"] (defScope s__law_told) := ⟨rfl, rfl, rfl, by decide +kernel, rfl, by decide +kernel, by decide +kernel⟩
abbrev s_law : Stmt := at_ 29
abbrev ns_law : List Str := ["script", "form", "book", "last", "text", "step", "found", "due", "told", "many", "steps", "k", "row", "x"]
theorem sc_law : FnScope ns_law ["script"] (defScope s_law) := ⟨rfl, rfl, rfl, by decide +kernel, rfl, by decide +kernel, by decide +kernel⟩
/-! ### what the top has left -/
structure Tx (K : PySem.W.Frag) (mg : Str → Option Value) where
  xa_ShiftError : Addr
  m_ShiftError : mg "ShiftError" = some (.ref xa_ShiftError)
  xa_TooWide : Addr
  m_TooWide : mg "TooWide" = some (.ref xa_TooWide)
  xa_NotRead : Addr
  m_NotRead : mg "NotRead" = some (.ref xa_NotRead)
  xE : PySem.W.excIn K xa_NotRead [.type "ValueError", .type "Exception", .type "BaseException", .type "object"] "ValueError.__new__" = true
  kE : PySem.W.keepIn K (.ref xa_NotRead) = true
  bE : PySem.W.subIn K (.ref xa_NotRead) (.type "BaseException") = some true
  tE : PySem.W.typeIn K (.ref xa_NotRead) = some (.type "type")
  eC : ExcC K xa_NotRead
  eM : PySem.W.exmOne K (.ref xa_NotRead) (.ref xa_ShiftError) = some true
  q_ShiftError : PySem.W.kitOne K (.ref xa_NotRead) (.ref xa_ShiftError) = some true
  q_TooWide : PySem.W.kitOne K (.ref xa_NotRead) (.ref xa_TooWide) = some false
  q_NotRead : PySem.W.kitOne K (.ref xa_NotRead) (.ref xa_NotRead) = some true
  q_ValueError : PySem.W.kitOne K (.ref xa_NotRead) (.type "ValueError") = some true
  f_is_book : Addr
  fd_is_book : FuncData
  F_is_book : Fun K "is_book" "is_book" s_is_book f_is_book fd_is_book
  b_is_book : Binds K fd_is_book ["form", "book"] []
  m_is_book : mg "is_book" = some (.ref f_is_book)
  f_book_shown : Addr
  fd_book_shown : FuncData
  F_book_shown : Fun K "book_shown" "book_shown" s_book_shown f_book_shown fd_book_shown
  b_book_shown : Binds K fd_book_shown ["book"] []
  m_book_shown : mg "book_shown" = some (.ref f_book_shown)
  f_number_of : Addr
  fd_number_of : FuncData
  F_number_of : Fun K "number_of" "number_of" s_number_of f_number_of fd_number_of
  b_number_of : Binds K fd_number_of ["word"] []
  m_number_of : mg "number_of" = some (.ref f_number_of)
  f_read_book : Addr
  fd_read_book : FuncData
  F_read_book : Fun K "read_book" "read_book" s_read_book f_read_book fd_read_book
  b_read_book : Binds K fd_read_book ["text", "form"] []
  m_read_book : mg "read_book" = some (.ref f_read_book)
  f__law_stir : Addr
  fd__law_stir : FuncData
  F__law_stir : Fun K "_law_stir" "_law_stir" s__law_stir f__law_stir fd__law_stir
  b__law_stir : Binds K fd__law_stir ["cell"] []
  m__law_stir : mg "_law_stir" = some (.ref f__law_stir)
  f__law_cell : Addr
  fd__law_cell : FuncData
  F__law_cell : Fun K "_law_cell" "_law_cell" s__law_cell f__law_cell fd__law_cell
  b__law_cell : Binds K fd__law_cell ["script", "k"] []
  m__law_cell : mg "_law_cell" = some (.ref f__law_cell)
  f__law_whole : Addr
  fd__law_whole : FuncData
  F__law_whole : Fun K "_law_whole" "_law_whole" s__law_whole f__law_whole fd__law_whole
  b__law_whole : Binds K fd__law_whole ["found"] []
  m__law_whole : mg "_law_whole" = some (.ref f__law_whole)
  f__law_draw : Addr
  fd__law_draw : FuncData
  F__law_draw : Fun K "_law_draw" "_law_draw" s__law_draw f__law_draw fd__law_draw
  b__law_draw : Binds K fd__law_draw ["cell", "k", "bound"] []
  m__law_draw : mg "_law_draw" = some (.ref f__law_draw)
  f__law_form : Addr
  fd__law_form : FuncData
  F__law_form : Fun K "_law_form" "_law_form" s__law_form f__law_form fd__law_form
  b__law_form : Binds K fd__law_form ["script", "first", "most", "many"] []
  m__law_form : mg "_law_form" = some (.ref f__law_form)
  f__law_book : Addr
  fd__law_book : FuncData
  F__law_book : Fun K "_law_book" "_law_book" s__law_book f__law_book fd__law_book
  b__law_book : Binds K fd__law_book ["script", "first", "form", "most"] []
  m__law_book : mg "_law_book" = some (.ref f__law_book)
  f__law_numbers : Addr
  fd__law_numbers : FuncData
  F__law_numbers : Fun K "_law_numbers" "_law_numbers" s__law_numbers f__law_numbers fd__law_numbers
  b__law_numbers : Binds K fd__law_numbers ["found"] []
  m__law_numbers : mg "_law_numbers" = some (.ref f__law_numbers)
  f__law_pair : Addr
  fd__law_pair : FuncData
  F__law_pair : Fun K "_law_pair" "_law_pair" s__law_pair f__law_pair fd__law_pair
  b__law_pair : Binds K fd__law_pair ["found", "due"] []
  m__law_pair : mg "_law_pair" = some (.ref f__law_pair)
  f__law_spoiled : Addr
  fd__law_spoiled : FuncData
  F__law_spoiled : Fun K "_law_spoiled" "_law_spoiled" s__law_spoiled f__law_spoiled fd__law_spoiled
  b__law_spoiled : Binds K fd__law_spoiled ["text", "mode", "cell"] []
  m__law_spoiled : mg "_law_spoiled" = some (.ref f__law_spoiled)
  f__law_odd : Addr
  fd__law_odd : FuncData
  F__law_odd : Fun K "_law_odd" "_law_odd" s__law_odd f__law_odd fd__law_odd
  b__law_odd : Binds K fd__law_odd ["cell"] []
  m__law_odd : mg "_law_odd" = some (.ref f__law_odd)
  f__law_number : Addr
  fd__law_number : FuncData
  F__law_number : Fun K "_law_number" "_law_number" s__law_number f__law_number fd__law_number
  b__law_number : Binds K fd__law_number ["word"] []
  m__law_number : mg "_law_number" = some (.ref f__law_number)
  f__law_due : Addr
  fd__law_due : FuncData
  F__law_due : Fun K "_law_due" "_law_due" s__law_due f__law_due fd__law_due
  b__law_due : Binds K fd__law_due ["text", "form"] []
  m__law_due : mg "_law_due" = some (.ref f__law_due)
  f__law_told : Addr
  fd__law_told : FuncData
  F__law_told : Fun K "_law_told" "_law_told" s__law_told f__law_told fd__law_told
  b__law_told : Binds K fd__law_told ["text", "form"] []
  m__law_told : mg "_law_told" = some (.ref f__law_told)
  f_law : Addr
  fd_law : FuncData
  F_law : Fun K "law" "law" s_law f_law fd_law
  b_law : Binds K fd_law ["script"] []
  m_law : mg "law" = some (.ref f_law)
  n_ValueError : mg "ValueError" = none
  n_all : mg "all" = none
  n_bool : mg "bool" = none
  n_enumerate : mg "enumerate" = none
  n_int : mg "int" = none
  n_isinstance : mg "isinstance" = none
  n_len : mg "len" = none
  n_max : mg "max" = none
  n_min : mg "min" = none
  n_range : mg "range" = none
  n_sorted : mg "sorted" = none
  n_str : mg "str" = none
  n_tuple : mg "tuple" = none
  n_zip : mg "zip" = none
  c_MOST_ROWS : ∃ t, mg "MOST_ROWS" = some (.int 200 t)
  c_FIGURES : ∃ t, mg "FIGURES" = some (.str "0123456789" t)
theorem hr1 {k : Nat} {A : Around} (hr : Room k A) : A.units + 65 < cLine := by have := hr.un; omega
section
variable {P : Program} {w : World} {K : PySem.W.Frag} {mg : Str → Option Value} {base : Heap} {C : Addr}
theorem G__law_stir (T : Tx K mg) : FnOk P w K mg base CX0 1 T.f__law_stir T.fd__law_stir ["cell"] (spF ⟨P, w, K, C⟩ 1 F_law_stir) := by
  have sc := sc__law_stir
  exact fn_ok T.F__law_stir sc rfl rfl fun cdv A outer s H0 E hr => (jss_cons (js_set (ps_set (i := 1) sc.nd rfl (by first | exact Or.inl rfl | exact Or.inr rfl) (je_c pe_int)))
  (jss_cons (js_for [2, 3] PassesOwn.never rfl (ji_seq (je_frz (je_lst (jz_cons (je_c pe_int) (jz_cons (je_c pe_int) (jz_cons (je_c pe_int) (jz_cons (je_c pe_int) jz_nil))))))) (jg_name (pg_name (i := 2) sc.nd rfl (by first | exact Or.inl rfl | exact Or.inr rfl)))
  (jss_cons (js_set (ps_set (i := 3) sc.nd rfl (by first | exact Or.inl rfl | exact Or.inr rfl) (je_mod (je_add (je_mul (je_var (pv 0)) (je_var (pv 2))) (je_c pe_int)) (je_c pe_int))))
  (jss_cons (js_set (ps_set (i := 3) sc.nd rfl (by first | exact Or.inl rfl | exact Or.inr rfl) (je_mod (je_mul (je_mod (je_mul (je_var (pv 3)) (je_var (pv 3))) (je_c pe_int)) (je_c pe_int)) (je_c pe_int))))
  (jss_one (js_set (ps_set (i := 1) sc.nd rfl (by first | exact Or.inl rfl | exact Or.inr rfl) (je_add (je_mul (je_var (pv 1)) (je_pow (je_c pe_int) (je_c pe_int))) (je_fdiv (je_var (pv 3)) (je_c pe_int)))))))))
  (jss_one (js_ret (ps_ret (je_var (pv 1)))))))
theorem G__law_cell (T : Tx K mg) : FnOk P w K mg base CX0 2 T.f__law_cell T.fd__law_cell ["script", "k"] (spF ⟨P, w, K, C⟩ 2 F_law_cell) := by
  have sc := sc__law_cell
  exact fn_ok T.F__law_cell sc rfl rfl fun cdv A outer s H0 E hr => (jss_cons (js_if (jt_cmp op_lt o_lt (je_var (pv 1)) (je_len (by rfl) T.n_len (je_var (pv 0)))) (jss_one (js_ret (ps_ret (je_call (G__law_stir T) (hr.mono (by decide)) (by rfl) T.m__law_stir T.F__law_stir.kp T.b__law_stir pass0 ar_run (ja_cons (je_ix (je_var (pv 0)) (je_var (pv 1))) ja_nil))))) jss_nil)
  (jss_one (js_ret (ps_ret (je_call (G__law_stir T) (hr.mono (by decide)) (by rfl) T.m__law_stir T.F__law_stir.kp T.b__law_stir pass0 ar_run (ja_cons (je_c pe_int) ja_nil))))))
theorem G__law_draw (T : Tx K mg) : FnOk P w K mg base CX0 1 T.f__law_draw T.fd__law_draw ["cell", "k", "bound"] (spF ⟨P, w, K, C⟩ 3 F_law_draw) := by
  have sc := sc__law_draw
  exact fn_ok T.F__law_draw sc rfl rfl fun cdv A outer s H0 E hr => (jss_cons (js_set (ps_set (i := 3) sc.nd rfl (by first | exact Or.inl rfl | exact Or.inr rfl) (je_mod (je_add (je_add (je_mod (je_var (pv 0)) (je_c pe_int)) (je_c pe_int)) (je_mul (je_var (pv 1)) (je_c pe_int))) (je_c pe_int))))
  (jss_cons (js_for [4] PassesOwn.never rfl (ji_range (by rfl) T.n_range (je_c pe_int)) (jg_name (pg_name (i := 4) sc.nd rfl (by first | exact Or.inl rfl | exact Or.inr rfl)))
  (jss_one (js_set (ps_set (i := 3) sc.nd rfl (by first | exact Or.inl rfl | exact Or.inr rfl) (je_mod (je_mul (je_var (pv 3)) (je_c pe_int)) (je_c pe_int))))))
  (jss_one (js_ret (ps_ret (je_mod (je_fdiv (je_var (pv 3)) (je_c pe_int)) (je_var (pv 2))))))))
theorem G__law_book (T : Tx K mg) : FnOk P w K mg base CX0 3 T.f__law_book T.fd__law_book ["script", "first", "form", "most"] (spF ⟨P, w, K, C⟩ 4 F_law_book) := by
  have sc := sc__law_book
  exact fn_ok T.F__law_book sc rfl rfl fun cdv A outer s H0 E hr => (jss_cons (js_set (ps_set (i := 4) sc.nd rfl (by first | exact Or.inl rfl | exact Or.inr rfl) (je_lc (own := [("kind", 11)]) rfl sc.nd (jc_of (ji_range (by rfl) T.n_range (je_ix (je_var (pv 2)) (je_c pe_int)))) (blkOk_by (N := ns__law_book) (by rfl)) (fun _ _ _ _ _ => (jg_name (pg_name (i := 11) sc.nd rfl (by first | exact Or.inl rfl | exact Or.inr rfl)))) (fun _ _ _ _ _ => jts_nil) (fun _ _ _ _ _ => (je_call (G__law_draw T) (hr.mono (by decide)) (by rfl) T.m__law_draw T.F__law_draw.kp T.b__law_draw pass0 ar_run (ja_cons (je_call (G__law_cell T) (hr.mono (by decide)) (by rfl) T.m__law_cell T.F__law_cell.kp T.b__law_cell pass0 ar_run (ja_cons (je_var (pv 0)) (ja_cons (je_var (pv 1)) ja_nil))) (ja_cons (je_var (pv 11)) (ja_cons (je_add (je_var (pv 3)) (je_c pe_int)) ja_nil))))))))
  (jss_cons (js_for [5, 6] PassesOwn.never rfl (ji_seq (je_frz (je_sortP (by rfl) T.n_sorted (je_ix (je_var (pv 2)) (je_c pe_int))))) (jg_tup rfl (jgs_cons (jg_name (pg_name (i := 5) sc.nd rfl (by first | exact Or.inl rfl | exact Or.inr rfl))) (jgs_cons (jg_name (pg_name (i := 6) sc.nd rfl (by first | exact Or.inl rfl | exact Or.inr rfl))) jgs_nil)))
  (jss_one (js_if (jt_w (jw_and (jt_cmp op_gt o_gt (je_ix (je_var (pv 4)) (je_var (pv 5))) (je_c pe_int)) (jw_and1 (jt_cmp (op_eqD hr.units) o_eq (je_ix (je_var (pv 4)) (je_var (pv 6))) (je_c pe_int))))) (jss_one (js_put (ps_asg (je_frz (je_c pe_int)) (pg_sub (pv 4) (je_var (pv 6)) set_list)))) jss_nil)))
  (jss_cons (js_set (ps_set (i := 7) sc.nd rfl (by first | exact Or.inl rfl | exact Or.inr rfl) (je_lst jz_nil)))
  (jss_cons (js_for [8, 9, 10] PassesOwn.never rfl (ji_enum (by rfl) T.n_enumerate (je_ix (je_var (pv 2)) (je_c pe_int))) (jg_tup rfl (jgs_cons (jg_name (pg_name (i := 8) sc.nd rfl (by first | exact Or.inl rfl | exact Or.inr rfl))) (jgs_cons (jg_name (pg_name (i := 9) sc.nd rfl (by first | exact Or.inl rfl | exact Or.inr rfl))) jgs_nil)))
  (jss_cons (js_set (ps_set (i := 10) sc.nd rfl (by first | exact Or.inl rfl | exact Or.inr rfl) (je_call (G__law_cell T) (hr.mono (by decide)) (by rfl) T.m__law_cell T.F__law_cell.kp T.b__law_cell pass0 ar_run (ja_cons (je_var (pv 0)) (ja_cons (je_add (je_var (pv 1)) (je_c pe_int)) ja_nil)))))
  (jss_one (js_app (ps_expr (pe_bm PySem.F.plainAttrs_list PySem.F.slot_list_append PySem.F.type_list_append mt_append (pv 7) (pa_cons (je_frz (je_tuple (by rfl) T.n_tuple (je_lc (own := [("x", 12)]) rfl sc.nd (jc_of (ji_range (by rfl) T.n_range (je_ix (je_var (pv 4)) (je_ix (je_var (pv 9)) (je_c pe_int))))) (blkOk_by (N := ns__law_book) (by rfl)) (fun _ _ _ _ _ => (jg_name (pg_name (i := 12) sc.nd rfl (by first | exact Or.inl rfl | exact Or.inr rfl)))) (fun _ _ _ _ _ => jts_nil) (fun _ _ _ _ _ => (je_call (G__law_draw T) (hr.mono (by decide)) (by rfl) T.m__law_draw T.F__law_draw.kp T.b__law_draw pass0 ar_run (ja_cons (je_var (pv 10)) (ja_cons (je_add (je_mul (je_c pe_int) (je_var (pv 8))) (je_var (pv 12))) (ja_cons (je_ix (je_var (pv 4)) (je_ix (je_var (pv 9)) (je_c pe_int))) ja_nil)))))))) pa_nil)))))))
  (jss_one (js_ret (ps_ret (je_tup (jz_cons (je_tuple (by rfl) T.n_tuple (je_var (pv 4))) (jz_cons (je_tuple (by rfl) T.n_tuple (je_var (pv 7))) jz_nil))))))))))
theorem G__law_number (T : Tx K mg) : FnOk P w K mg base CX0 1 T.f__law_number T.fd__law_number ["word"] (spF ⟨P, w, K, C⟩ 1 F_law_number) := by
  have sc := sc__law_number
  exact fn_ok T.F__law_number sc rfl rfl fun cdv A outer s H0 E hr => (jss_cons (js_if (jt_w (jw_or (jt_cmp (op_eqD hr.units) o_eq (je_var (pv 0)) (je_c pe_str)) (jw_or (jt_cmp op_gt o_gt (je_len (by rfl) T.n_len (je_var (pv 0))) (je_c pe_int)) (jw_or1 (jt_w (jw_and (jt_cmp op_gt o_gt (je_len (by rfl) T.n_len (je_var (pv 0))) (je_c pe_int)) (jw_and1 (jt_cmp (op_eqD hr.units) o_eq (je_ix (je_var (pv 0)) (je_c pe_int)) (je_c pe_str))))))))) (jss_one (js_ret (ps_ret (je_neg (je_c pe_int))))) jss_nil)
  (jss_cons (js_for [1] PassesOwn.never rfl (ji_str (je_var (pv 0))) (jg_name (pg_name (i := 1) sc.nd rfl (by first | exact Or.inl rfl | exact Or.inr rfl)))
  (jss_one (js_if (jt_cmp op_notIn_sign o_notInS (je_var (pv 1)) (je_c pe_str)) (jss_one (js_ret (ps_ret (je_neg (je_c pe_int))))) jss_nil)))
  (jss_one (js_ret (ps_ret (je_intS (by rfl) T.n_int (je_var (pv 0))))))))
theorem G__law_due (T : Tx K mg) : FnOk P w K mg base CX0 2 T.f__law_due T.fd__law_due ["text", "form"] (spF ⟨P, w, K, C⟩ 2 F_law_due) := by
  have sc := sc__law_due
  exact fn_ok T.F__law_due sc rfl rfl fun cdv A outer s H0 E hr => (jss_cons (js_set (ps_set (i := 2) sc.nd rfl (by first | exact Or.inl rfl | exact Or.inr rfl) (je_split (je_var (pv 0)) (je_c pe_str))))
  (jss_cons (js_set (ps_set (i := 3) sc.nd rfl (by first | exact Or.inl rfl | exact Or.inr rfl) (je_lst jz_nil)))
  (jss_cons (js_while [] PassesOwn.never (jt_w (jw_and (jt_cmp (op_neD hr.units) o_ne (je_var (pv 2)) (je_lst jz_nil)) (jw_and1 (jt_cmp (op_neD hr.units) o_ne (je_ix (je_var (pv 2)) (je_c pe_int)) (je_c pe_str)))))
  (jss_one (js_appPop (ps_expr (pe_bm PySem.F.plainAttrs_list PySem.F.slot_list_append PySem.F.type_list_append mt_append (pv 3) (pa_cons (pe_call (dvs := []) (G__law_number T) (hr.mono (by decide)) (by rfl) T.m__law_number T.F__law_number.kp T.b__law_number .nil pass0 (pa_cons (pe_bm PySem.F.plainAttrs_list PySem.F.slot_list_pop PySem.F.type_list_pop mt_popAt (pv 2) (pa_cons pe_int pa_nil)) pa_nil)) pa_nil))))))
  (jss_lock 2 (jss_start (ps_set (i := 4) sc.nd rfl (by first | exact Or.inl rfl | exact Or.inr rfl) (je_lst jz_nil))
  (jnr_cons (jn_for [5] PassesOwn.never rfl (ji_seq (je_var (pv 2))) (jg_name (pg_name (i := 5) sc.nd rfl (by first | exact Or.inl rfl | exact Or.inr rfl))) td_name (jns_cons (jn_if (nt_of (jt_cmp (op_eqD hr.units) o_eq (je_var (pv 5)) (je_c pe_str))) (jns_cons (jn_app (ps_expr (pe_bm PySem.F.plainAttrs_list PySem.F.slot_list_append PySem.F.type_list_append mt_append (pv 4) (pa_cons (je_lst jz_nil) pa_nil)))) jns_nil) (jns_cons (jn_appAt (ps_expr (pe_bm PySem.F.plainAttrs_list PySem.F.slot_list_append PySem.F.type_list_append mt_append (pe_ix ix_seq (pv 4) (ne_of (je_neg (je_c pe_int))) (fun _ _ => rfl)) (pa_cons (ne_of (je_call (G__law_number T) (hr.mono (by decide)) (by rfl) T.m__law_number T.F__law_number.kp T.b__law_number pass0 ar_run (ja_cons (je_var (pv 5)) ja_nil))) pa_nil)))) jns_nil)) jns_nil))
  (jnr_end (jss_cons (js_if (jt_w (jw_or (jt_cmp (op_neD hr.units) o_ne (je_len (by rfl) T.n_len (je_var (pv 3))) (je_ix (je_var (pv 1)) (je_c pe_int))) (jw_or (jt_cmp (op_neD hr.units) o_ne (je_len (by rfl) T.n_len (je_var (pv 4))) (je_len (by rfl) T.n_len (je_ix (je_var (pv 1)) (je_c pe_int)))) (jw_or (jt_cmp op_lt o_lt (je_minL rfl (by rfl) T.n_min (je_var (pv 3))) (je_c pe_int)) (jw_or1 (jt_cmp op_gt o_gt (je_maxL rfl (by rfl) T.n_max (je_var (pv 3))) (je_c pe_int))))))) (jss_one (js_ret (ps_ret (je_c pe_non)))) jss_nil)
  (jss_lock 4 (jss_cons (js_for [6, 7, 8] PassesOwn.never rfl (ji_zipM (by rfl) T.n_zip (je_ix (je_var (pv 1)) (je_c pe_int)) (je_var (pv 4))) (jg_tup rfl (jgs_cons (jg_name (pg_name (i := 6) sc.nd rfl (by first | exact Or.inl rfl | exact Or.inr rfl))) (jgs_cons (jg_name (pg_name (i := 7) sc.nd rfl (by first | exact Or.inl rfl | exact Or.inr rfl))) jgs_nil)))
  (jss_cons (js_if (jt_cmp (op_neD hr.units) o_ne (je_len (by rfl) T.n_len (je_var (pv 7))) (je_ix (je_var (pv 3)) (je_ix (je_var (pv 6)) (je_c pe_int)))) (jss_one (js_ret (ps_ret (je_c pe_non)))) jss_nil)
  (jss_one (js_for [8] PassesOwn.never rfl (ji_seq (je_var (pv 7))) (jg_name (pg_name (i := 8) sc.nd rfl (by first | exact Or.inl rfl | exact Or.inr rfl)))
  (jss_one (js_if (jt_not (jt_ch2 op_le op_lt o_le o_lt (je_c pe_int) (je_var (pv 8)) (je_ix (je_var (pv 3)) (je_ix (je_var (pv 6)) (je_c pe_int))))) (jss_one (js_ret (ps_ret (je_c pe_non)))) jss_nil))))))
  (jss_one (js_ret (ps_ret (je_tup (jz_cons (je_tuple (by rfl) T.n_tuple (je_var (pv 3))) (jz_cons (je_tuple (by rfl) T.n_tuple (je_lc (own := [("step", 7)]) rfl sc.nd (jc_seq (je_var (pv 4))) (blkOk_by (N := ns__law_due) (by rfl)) (fun _ _ _ _ _ => (jg_name (pg_name (i := 7) sc.nd rfl (by first | exact Or.inl rfl | exact Or.inr rfl)))) (fun _ _ _ _ _ => jts_nil) (fun _ _ _ _ _ => (je_tuple (by rfl) T.n_tuple (je_var (pv 7)))))) jz_nil))))))))))))))))
theorem G__law_form (T : Tx K mg) : FnOk P w K mg base CX0 3 T.f__law_form T.fd__law_form ["script", "first", "most", "many"] (spF ⟨P, w, K, C⟩ 4 F_law_form) := by
  have sc := sc__law_form
  exact fn_ok T.F__law_form sc rfl rfl fun cdv A outer s H0 E hr => (jss_cons (js_set (ps_set (i := 4) sc.nd rfl (by first | exact Or.inl rfl | exact Or.inr rfl) (je_add (je_c pe_int) (je_mod (je_call (G__law_cell T) (hr.mono (by decide)) (by rfl) T.m__law_cell T.F__law_cell.kp T.b__law_cell pass0 ar_run (ja_cons (je_var (pv 0)) (ja_cons (je_var (pv 1)) ja_nil))) (je_var (pv 2))))))
  (jss_cons (js_set (ps_set (i := 5) sc.nd rfl (by first | exact Or.inl rfl | exact Or.inr rfl) (je_lst jz_nil)))
  (jss_cons (js_if (jt_cmp op_gt o_gt (je_var (pv 4)) (je_c pe_int)) (jss_one (js_for [6, 7, 8] PassesOwn.never rfl (ji_range (by rfl) T.n_range (je_mod (je_fdiv (je_call (G__law_cell T) (hr.mono (by decide)) (by rfl) T.m__law_cell T.F__law_cell.kp T.b__law_cell pass0 ar_run (ja_cons (je_var (pv 0)) (ja_cons (je_var (pv 1)) ja_nil))) (je_var (pv 2))) (je_add (je_var (pv 3)) (je_c pe_int)))) (jg_name (pg_name (i := 6) sc.nd rfl (by first | exact Or.inl rfl | exact Or.inr rfl)))
  (jss_cons (js_set (ps_set (i := 7) sc.nd rfl (by first | exact Or.inl rfl | exact Or.inr rfl) (je_call (G__law_draw T) (hr.mono (by decide)) (by rfl) T.m__law_draw T.F__law_draw.kp T.b__law_draw pass0 ar_run (ja_cons (je_call (G__law_cell T) (hr.mono (by decide)) (by rfl) T.m__law_cell T.F__law_cell.kp T.b__law_cell pass0 ar_run (ja_cons (je_var (pv 0)) (ja_cons (je_add (je_var (pv 1)) (je_c pe_int)) ja_nil))) (ja_cons (je_var (pv 6)) (ja_cons (je_sub (je_var (pv 4)) (je_c pe_int)) ja_nil))))))
  (jss_cons (js_set (ps_set (i := 8) sc.nd rfl (by first | exact Or.inl rfl | exact Or.inr rfl) (je_add (je_add (je_var (pv 7)) (je_c pe_int)) (je_call (G__law_draw T) (hr.mono (by decide)) (by rfl) T.m__law_draw T.F__law_draw.kp T.b__law_draw pass0 ar_run (ja_cons (je_call (G__law_cell T) (hr.mono (by decide)) (by rfl) T.m__law_cell T.F__law_cell.kp T.b__law_cell pass0 ar_run (ja_cons (je_var (pv 0)) (ja_cons (je_add (je_var (pv 1)) (je_c pe_int)) ja_nil))) (ja_cons (je_var (pv 6)) (ja_cons (je_sub (je_sub (je_var (pv 4)) (je_c pe_int)) (je_var (pv 7))) ja_nil)))))))
  (jss_one (js_app (ps_expr (pe_bm PySem.F.plainAttrs_list PySem.F.slot_list_append PySem.F.type_list_append mt_append (pv 5) (pa_cons (je_frz (je_tup (jz_cons (je_var (pv 7)) (jz_cons (je_var (pv 8)) jz_nil)))) pa_nil))))))))) jss_nil)
  (jss_one (js_ret (ps_ret (je_tup (jz_cons (je_var (pv 4)) (jz_cons (je_tuple (by rfl) T.n_tuple (je_var (pv 5))) jz_nil)))))))))
theorem G__law_odd (T : Tx K mg) : FnOk P w K mg base CX0 1 T.f__law_odd T.fd__law_odd ["cell"] (spF ⟨P, w, K, C⟩ 1 F_law_odd) := by
  have sc := sc__law_odd
  exact fn_ok T.F__law_odd sc rfl rfl fun cdv A outer s H0 E hr => (jss_one (js_ret (ps_ret (je_ix (je_lst (jz_cons (je_c pe_str) (jz_cons (je_c pe_str) (jz_cons (je_c pe_str) (jz_cons (je_c pe_str) (jz_cons (je_c pe_str) (jz_cons (je_c pe_str) (jz_cons (je_c pe_str) (jz_cons (je_c pe_str) (jz_cons (je_c pe_str) (jz_cons (je_c pe_str) jz_nil))))))))))) (je_mod (je_var (pv 0)) (je_c pe_int))))))
theorem G__law_whole (T : Tx K mg) : FnOk P w K mg base CX0 1 T.f__law_whole T.fd__law_whole ["found"] (spF ⟨P, w, K, C⟩ 1 F_law_whole) := by
  have sc := sc__law_whole
  exact fn_ok T.F__law_whole sc rfl rfl fun cdv A outer s H0 E hr => (jss_one (js_ret (ps_ret (je_and (je_isinst (by rfl) T.n_isinstance (by rfl) T.n_int boot_int (je_var (pv 0)) i_int) (je_one (je_not (je_isinst (by rfl) T.n_isinstance (by rfl) T.n_bool boot_bool (je_var (pv 0)) i_bool)))))))
theorem G__law_numbers (T : Tx K mg) : FnOk P w K mg base CX0 2 T.f__law_numbers T.fd__law_numbers ["found"] (spF ⟨P, w, K, C⟩ 1 F_law_numbers) := by
  have sc := sc__law_numbers
  exact fn_ok T.F__law_numbers sc rfl rfl fun cdv A outer s H0 E hr => (jss_one (js_ret (ps_ret (je_and (je_isinst (by rfl) T.n_isinstance (by rfl) T.n_tuple boot_tuple (je_var (pv 0)) i_tuple) (je_one (je_all rfl (by rfl) T.n_all (je_lc (own := [("x", 1)]) rfl sc.nd (jc_seq (je_var (pv 0))) (blkOk_by (N := ns__law_numbers) (by rfl)) (fun _ _ _ _ _ => (jg_name (pg_name (i := 1) sc.nd rfl (by first | exact Or.inl rfl | exact Or.inr rfl)))) (fun _ _ _ _ _ => jts_nil) (fun _ _ _ _ _ => (je_call (G__law_whole T) (hr.mono (by decide)) (by rfl) T.m__law_whole T.F__law_whole.kp T.b__law_whole pass0 ar_run (ja_cons (je_var (pv 1)) ja_nil))))))))))
theorem G__law_pair (T : Tx K mg) : FnOk P w K mg base CX0 3 T.f__law_pair T.fd__law_pair ["found", "due"] (spF ⟨P, w, K, C⟩ 2 F_law_pair) := by
  have sc := sc__law_pair
  exact fn_ok T.F__law_pair sc rfl rfl fun cdv A outer s H0 E hr => (jss_cons (js_if (jt_w (jw_or (jt_not (jt_val (je_isinst (by rfl) T.n_isinstance (by rfl) T.n_tuple boot_tuple (je_var (pv 0)) i_tuple))) (jw_or (jt_cmp (op_neD hr.units) o_ne (je_len (by rfl) T.n_len (je_var (pv 0))) (je_c pe_int)) (jw_or1 (jt_not (jt_val (je_call (G__law_numbers T) (hr.mono (by decide)) (by rfl) T.m__law_numbers T.F__law_numbers.kp T.b__law_numbers pass0 ar_run (ja_cons (je_ix (je_var (pv 0)) (je_c pe_int)) ja_nil)))))))) (jss_one (js_ret (ps_ret (je_c pe_bl)))) jss_nil)
  (jss_cons (js_if (jt_w (jw_or (jt_not (jt_val (je_isinst (by rfl) T.n_isinstance (by rfl) T.n_tuple boot_tuple (je_ix (je_var (pv 0)) (je_c pe_int)) i_tuple))) (jw_or1 (jt_not (jt_val (je_all rfl (by rfl) T.n_all (je_lc (own := [("step", 2)]) rfl sc.nd (jc_seq (je_ix (je_var (pv 0)) (je_c pe_int))) (blkOk_by (N := ns__law_pair) (by rfl)) (fun _ _ _ _ _ => (jg_name (pg_name (i := 2) sc.nd rfl (by first | exact Or.inl rfl | exact Or.inr rfl)))) (fun _ _ _ _ _ => jts_nil) (fun _ _ _ _ _ => (je_call (G__law_numbers T) (hr.mono (by decide)) (by rfl) T.m__law_numbers T.F__law_numbers.kp T.b__law_numbers pass0 ar_run (ja_cons (je_var (pv 2)) ja_nil)))))))))) (jss_one (js_ret (ps_ret (je_c pe_bl)))) jss_nil)
  (jss_one (js_ret (ps_ret (je_cmp (op_eqD hr.units) o_eq (je_var (pv 0)) (je_var (pv 1))))))))
theorem G__law_spoiled (T : Tx K mg) : FnOk P w K mg base CX0 1 T.f__law_spoiled T.fd__law_spoiled ["text", "mode", "cell"] (spF ⟨P, w, K, C⟩ 3 F_law_spoiled) := by
  have sc := sc__law_spoiled
  exact fn_ok T.F__law_spoiled sc rfl rfl fun cdv A outer s H0 E hr => (jss_cons (js_set (ps_set (i := 3) sc.nd rfl (by first | exact Or.inl rfl | exact Or.inr rfl) (je_mod (je_var (pv 2)) (je_add (je_len (by rfl) T.n_len (je_var (pv 0))) (je_c pe_int)))))
  (jss_cons (js_set (ps_set (i := 4) sc.nd rfl (by first | exact Or.inl rfl | exact Or.inr rfl) (je_ix (je_c pe_str) (je_mod (je_fdiv (je_var (pv 2)) (je_c pe_int)) (je_c pe_int)))))
  (jss_cons (js_if (jt_cmp (op_eqD hr.units) o_eq (je_var (pv 1)) (je_c pe_int)) (jss_one (js_ret (ps_ret (je_add (je_cut (je_var (pv 0)) jp_none (jp_some (je_var (pv 3)))) (je_cut (je_var (pv 0)) (jp_some (je_add (je_var (pv 3)) (je_c pe_int))) jp_none))))) jss_nil)
  (jss_cons (js_if (jt_cmp (op_eqD hr.units) o_eq (je_var (pv 1)) (je_c pe_int)) (jss_one (js_ret (ps_ret (je_add (je_add (je_cut (je_var (pv 0)) jp_none (jp_some (je_var (pv 3)))) (je_var (pv 4))) (je_cut (je_var (pv 0)) (jp_some (je_var (pv 3))) jp_none))))) jss_nil)
  (jss_cons (js_if (jt_cmp (op_eqD hr.units) o_eq (je_var (pv 1)) (je_c pe_int)) (jss_one (js_ret (ps_ret (je_add (je_add (je_cut (je_var (pv 0)) jp_none (jp_some (je_var (pv 3)))) (je_var (pv 4))) (je_cut (je_var (pv 0)) (jp_some (je_add (je_var (pv 3)) (je_c pe_int))) jp_none))))) jss_nil)
  (jss_cons (js_set (ps_set (i := 5) sc.nd rfl (by first | exact Or.inl rfl | exact Or.inr rfl) (je_split (je_var (pv 0)) (je_c pe_str))))
  (jss_cons (js_set (ps_set (i := 6) sc.nd rfl (by first | exact Or.inl rfl | exact Or.inr rfl) (je_mod (je_var (pv 2)) (je_len (by rfl) T.n_len (je_var (pv 5))))))
  (jss_cons (js_if (jt_cmp (op_eqD hr.units) o_eq (je_var (pv 1)) (je_c pe_int)) (jss_one (js_ret (ps_ret (je_join (je_c pe_str) (je_add (je_cut (je_var (pv 5)) jp_none (jp_some (je_var (pv 6)))) (je_cut (je_var (pv 5)) (jp_some (je_add (je_var (pv 6)) (je_c pe_int))) jp_none)))))) jss_nil)
  (jss_cons (js_if (jt_cmp (op_eqD hr.units) o_eq (je_var (pv 1)) (je_c pe_int)) (jss_one (js_ret (ps_ret (je_join (je_c pe_str) (je_add (je_cut (je_var (pv 5)) jp_none (jp_some (je_add (je_var (pv 6)) (je_c pe_int)))) (je_cut (je_var (pv 5)) (jp_some (je_var (pv 6))) jp_none)))))) jss_nil)
  (jss_one (js_ret (ps_ret (je_var (pv 0))))))))))))))
theorem G_is_book (T : Tx K mg) : FnOk P w K mg base CX0 1 T.f_is_book T.fd_is_book ["form", "book"] (spF ⟨P, w, K, C⟩ 2 F_p_is_book) := by
  have sc := sc_is_book
  exact fn_ok T.F_is_book sc rfl rfl fun cdv A outer s H0 E hr => (jss_cons (js_set (ps_set (i := 2) sc.nd rfl (by first | exact Or.inl rfl | exact Or.inr rfl) (je_ix (je_var (pv 1)) (je_c pe_int))))
  (jss_cons (js_if (jt_w (jw_or (jt_cmp (op_neD hr.units) o_ne (je_len (by rfl) T.n_len (je_var (pv 2))) (je_ix (je_var (pv 0)) (je_c pe_int))) (jw_or1 (jt_not (jt_val (je_all rfl (by rfl) T.n_all (je_lc (own := [("many", 5)]) rfl sc.nd (jc_seq (je_var (pv 2))) (blkOk_by (N := ns_is_book) (by rfl)) (fun _ _ _ _ _ => (jg_name (pg_name (i := 5) sc.nd rfl (by first | exact Or.inl rfl | exact Or.inr rfl)))) (fun _ _ _ _ _ => jts_nil) (fun _ _ _ _ _ => (je_ch2 op_le op_le o_le o_le (je_c pe_int) (je_var (pv 5)) (je_gi (by rfl) T.c_MOST_ROWS)))))))))) (jss_one (js_ret (ps_ret (je_c pe_bl)))) jss_nil)
  (jss_cons (js_if (jt_cmp (op_neD hr.units) o_ne (je_len (by rfl) T.n_len (je_ix (je_var (pv 1)) (je_c pe_int))) (je_len (by rfl) T.n_len (je_ix (je_var (pv 0)) (je_c pe_int)))) (jss_one (js_ret (ps_ret (je_c pe_bl)))) jss_nil)
  (jss_cons (js_for [3, 4] PassesOwn.never rfl (ji_zip (by rfl) T.n_zip (je_ix (je_var (pv 0)) (je_c pe_int)) (je_ix (je_var (pv 1)) (je_c pe_int))) (jg_tup rfl (jgs_cons (jg_name (pg_name (i := 3) sc.nd rfl (by first | exact Or.inl rfl | exact Or.inr rfl))) (jgs_cons (jg_name (pg_name (i := 4) sc.nd rfl (by first | exact Or.inl rfl | exact Or.inr rfl))) jgs_nil)))
  (jss_one (js_if (jt_w (jw_or (jt_cmp (op_neD hr.units) o_ne (je_len (by rfl) T.n_len (je_var (pv 4))) (je_ix (je_var (pv 2)) (je_ix (je_var (pv 3)) (je_c pe_int)))) (jw_or1 (jt_not (jt_val (je_all rfl (by rfl) T.n_all (je_lc (own := [("row", 6)]) rfl sc.nd (jc_seq (je_var (pv 4))) (blkOk_by (N := ns_is_book) (by rfl)) (fun _ _ _ _ _ => (jg_name (pg_name (i := 6) sc.nd rfl (by first | exact Or.inl rfl | exact Or.inr rfl)))) (fun _ _ _ _ _ => jts_nil) (fun _ _ _ _ _ => (je_ch2 op_le op_lt o_le o_lt (je_c pe_int) (je_var (pv 6)) (je_ix (je_var (pv 2)) (je_ix (je_var (pv 3)) (je_c pe_int)))))))))))) (jss_one (js_ret (ps_ret (je_c pe_bl)))) jss_nil)))
  (jss_one (js_ret (ps_ret (je_c pe_bl))))))))
theorem G_number_of (T : Tx K mg) : FnOk P w K mg base (L2.CX P w) 1 T.f_number_of T.fd_number_of ["word"] (spX ⟨P, w, K, C⟩ T.xa_NotRead 1 F_p_number_of) := by
  have sc := sc_number_of
  exact fn_okX T.F_number_of sc rfl rfl fun cdv A outer s H0 E hr => (jxs_raise (jt_w (jw_or (jt_cmp (op_eqD hr.units) o_eq (je_var (pv 0)) (je_c pe_str)) (jw_or (jt_cmp op_gt o_gt (je_len (by rfl) T.n_len (je_var (pv 0))) (je_c pe_int)) (jw_or1 (jt_w (jw_and (jt_cmp (op_eqD hr.units) o_eq (je_ix (je_var (pv 0)) (je_c pe_int)) (je_c pe_str)) (jw_and1 (jt_cmp (op_neD hr.units) o_ne (je_var (pv 0)) (je_c pe_str))))))))) (ps_raise rfl (takes_of rfl rfl rfl rfl) (pmk_own PySem.F.excBase_ValueError T.xE T.m_NotRead T.kE (raises_own T.bE T.tE) (by rfl)))
  (jxs_then (jx_for [1] (passes_of rfl) rfl (ji_str (je_var (pv 0))) (jg_name (pg_name (i := 1) sc.nd rfl (by first | exact Or.inl rfl | exact Or.inr rfl)))
  (jxs_raise (jt_cmp op_notIn_sign o_notInS (je_var (pv 1)) (je_gs (by rfl) T.c_FIGURES)) (ps_raise rfl (takes_of rfl rfl rfl rfl) (pmk_own PySem.F.excBase_ValueError T.xE T.m_NotRead T.kE (raises_own T.bE T.tE) (by rfl)))
  (jxs_last jss_nil)))
  (jxs_last (jss_one (js_ret (ps_ret (je_intS (by rfl) T.n_int (je_var (pv 0)))))))))
theorem G_read_book (T : Tx K mg) : FnOk P w K mg base (L2.CX P w) 2 T.f_read_book T.fd_read_book ["text", "form"] (spX ⟨P, w, K, C⟩ T.xa_NotRead 2 F_p_read_book) := by
  have sc := sc_read_book
  exact fn_okX T.F_read_book sc rfl rfl fun cdv A outer s H0 E hr => (jxs_cons (js_set (ps_set (i := 2) sc.nd rfl (by first | exact Or.inl rfl | exact Or.inr rfl) (je_split (je_var (pv 0)) (je_c pe_str))))
  (jxs_then (jx_set (ps_set (i := 3) sc.nd rfl (by first | exact Or.inl rfl | exact Or.inr rfl) (jxe_tuple (by rfl) T.n_tuple (jxe_lc (own := [("word", 8)]) rfl rfl (takes_of rfl rfl rfl rfl) rfl sc.nd (jc_seq (je_split (je_ix (je_var (pv 2)) (je_c pe_int)) (je_c pe_str))) (blkOk_by (N := ns_read_book) (by rfl)) (fun _ _ _ _ _ => (jg_name (pg_name (i := 8) sc.nd rfl (by first | exact Or.inl rfl | exact Or.inr rfl)))) (fun _ _ _ _ _ => (jxe_call (G_number_of T) (hr.mono (by decide)) (by rfl) T.m_number_of T.F_number_of.kp T.b_number_of (fun σ => pass_blkE σ) arX_run2 (ja_cons (je_var (pv 8)) ja_nil)))))))
  (jxs_cons (js_set (ps_set (i := 4) sc.nd rfl (by first | exact Or.inl rfl | exact Or.inr rfl) (je_lst jz_nil)))
  (jxs_then (jx_for [5, 7] (passes_of rfl) rfl (ji_seq (je_frz (je_cut (je_var (pv 2)) (jp_some (je_c pe_int)) jp_none))) (jg_name (pg_name (i := 5) sc.nd rfl (by first | exact Or.inl rfl | exact Or.inr rfl)))
  (jxs_cons (js_set (ps_set (i := 7) sc.nd rfl (by first | exact Or.inl rfl | exact Or.inr rfl) (je_split (je_var (pv 5)) (je_c pe_str))))
  (jxs_raise (jt_cmp (op_neD hr.units) o_ne (je_ix (je_var (pv 7)) (je_c pe_int)) (je_c pe_str)) (ps_raise rfl (takes_of rfl rfl rfl rfl) (pmk_own PySem.F.excBase_ValueError T.xE T.m_NotRead T.kE (raises_own T.bE T.tE) (by rfl)))
  (jxs_one (jx_app (ps_expr (pe_bm PySem.F.plainAttrs_list PySem.F.slot_list_append PySem.F.type_list_append mt_append (pv 4) (pa_cons (jxe_tuple (by rfl) T.n_tuple (jxe_lc (own := [("word", 8)]) rfl rfl (takes_of rfl rfl rfl rfl) rfl sc.nd (jc_seq (je_cut (je_var (pv 7)) (jp_some (je_c pe_int)) jp_none)) (blkOk_by (N := ns_read_book) (by rfl)) (fun _ _ _ _ _ => (jg_name (pg_name (i := 8) sc.nd rfl (by first | exact Or.inl rfl | exact Or.inr rfl)))) (fun _ _ _ _ _ => (jxe_call (G_number_of T) (hr.mono (by decide)) (by rfl) T.m_number_of T.F_number_of.kp T.b_number_of (fun σ => pass_blkE σ) arX_run2 (ja_cons (je_var (pv 8)) ja_nil))))) pa_nil))))))))
  (jxs_cons (js_set (ps_set (i := 6) sc.nd rfl (by first | exact Or.inl rfl | exact Or.inr rfl) (je_tup (jz_cons (je_var (pv 3)) (jz_cons (je_tuple (by rfl) T.n_tuple (je_var (pv 4))) jz_nil)))))
  (jxs_raise (jt_not (jt_val (je_call (G_is_book T) (hr.mono (by decide)) (by rfl) T.m_is_book T.F_is_book.kp T.b_is_book pass0 ar_run (ja_cons (je_var (pv 1)) (ja_cons (je_var (pv 6)) ja_nil))))) (ps_raise rfl (takes_of rfl rfl rfl rfl) (pmk_own PySem.F.excBase_ValueError T.xE T.m_NotRead T.kE (raises_own T.bE T.tE) (by rfl)))
  (jxs_last (jss_one (js_ret (ps_ret (je_var (pv 6))))))))))))
theorem G__law_told (T : Tx K mg) : FnOk P w K mg base CX0 3 T.f__law_told T.fd__law_told ["text", "form"] (spF ⟨P, w, K, C⟩ 2 F_law_told) := by
  have sc := sc__law_told
  exact fn_ok T.F__law_told sc rfl rfl fun cdv A outer s H0 E hr => (jss_one (js_tryL (i := 2) rfl rfl sc.nd rfl rfl ⟨rfl, by decide, .inl T.m_ShiftError⟩ (G_read_book T) (hr.mono (by decide)) (by rfl) T.m_read_book T.F_read_book.kp T.b_read_book arX_run2 (fun pn xe => (ja_cons (je_var (pv 0)) (ja_cons (je_var (pv 1)) ja_nil))) T.eC T.eM (fun _ _ => pv 2) (fun _ _ => pv 2) (fun _ _ => pv 2) (isq_own (by rfl) T.m_NotRead T.q_NotRead) (isq_ty (by rfl) T.n_ValueError (by decide +kernel) T.q_ValueError) (isq_own (by rfl) T.m_TooWide T.q_TooWide) (by rfl) T.n_isinstance rfl rfl rfl rfl rfl rfl))
theorem G_book_shown (T : Tx K mg) : FnOk P w K mg base CX0 1 T.f_book_shown T.fd_book_shown ["book"] (spF ⟨P, w, K, C⟩ 1 F_p_book_shown) := by
  have sc := sc_book_shown
  exact fn_ok T.F_book_shown sc rfl rfl fun cdv A outer s H0 E hr => (jss_cons (js_set (ps_set (i := 1) sc.nd rfl (by first | exact Or.inl rfl | exact Or.inr rfl) (je_join (je_c pe_str) (je_lc (own := [("many", 4)]) rfl sc.nd (jc_seq (je_ix (je_var (pv 0)) (je_c pe_int))) (blkOk_by (N := ns_book_shown) (by rfl)) (fun _ _ _ _ _ => (jg_name (pg_name (i := 4) sc.nd rfl (by first | exact Or.inl rfl | exact Or.inr rfl)))) (fun _ _ _ _ _ => jts_nil) (fun _ _ _ _ _ => (je_str1 (by rfl) T.n_str (je_var (pv 4))))))))
  (jss_cons (js_for [2, 3] PassesOwn.never rfl (ji_seq (je_ix (je_var (pv 0)) (je_c pe_int))) (jg_name (pg_name (i := 2) sc.nd rfl (by first | exact Or.inl rfl | exact Or.inr rfl)))
  (jss_cons (js_set (ps_set (i := 1) sc.nd rfl (by first | exact Or.inl rfl | exact Or.inr rfl) (je_add (je_var (pv 1)) (je_c pe_str))))
  (jss_one (js_for [3] PassesOwn.never rfl (ji_seq (je_var (pv 2))) (jg_name (pg_name (i := 3) sc.nd rfl (by first | exact Or.inl rfl | exact Or.inr rfl)))
  (jss_one (js_set (ps_set (i := 1) sc.nd rfl (by first | exact Or.inl rfl | exact Or.inr rfl) (je_add (je_add (je_var (pv 1)) (je_c pe_str)) (je_str1 (by rfl) T.n_str (je_var (pv 3)))))))))))
  (jss_one (js_ret (ps_ret (je_var (pv 1)))))))
theorem G_law (T : Tx K mg) : FnOk P w K mg base CX0 4 T.f_law T.fd_law ["script"] (spF ⟨P, w, K, C⟩ 1 F_p_law) := by
  have sc := sc_law
  exact fn_ok T.F_law sc rfl rfl fun cdv A outer s H0 E hr => (jss_cons (js_set (ps_set (i := 1) sc.nd rfl (by first | exact Or.inl rfl | exact Or.inr rfl) (je_call (G__law_form T) (hr.mono (by decide)) (by rfl) T.m__law_form T.F__law_form.kp T.b__law_form pass0 ar_run (ja_cons (je_var (pv 0)) (ja_cons (je_c pe_int) (ja_cons (je_c pe_int) (ja_cons (je_c pe_int) ja_nil)))))))
  (jss_cons (js_set (ps_set (i := 2) sc.nd rfl (by first | exact Or.inl rfl | exact Or.inr rfl) (je_call (G__law_book T) (hr.mono (by decide)) (by rfl) T.m__law_book T.F__law_book.kp T.b__law_book pass0 ar_run (ja_cons (je_var (pv 0)) (ja_cons (je_c pe_int) (ja_cons (je_var (pv 1)) (ja_cons (je_c pe_int) ja_nil)))))))
  (jss_cons (js_set (ps_set (i := 3) sc.nd rfl (by first | exact Or.inl rfl | exact Or.inr rfl) (je_sub (je_ix (je_var (pv 1)) (je_c pe_int)) (je_c pe_int))))
  (jss_cons (js_if (jt_cmp (op_eqD hr.units) o_eq (je_mod (je_call (G__law_cell T) (hr.mono (by decide)) (by rfl) T.m__law_cell T.F__law_cell.kp T.b__law_cell pass0 ar_run (ja_cons (je_var (pv 0)) (ja_cons (je_c pe_int) ja_nil))) (je_c pe_int)) (je_c pe_int)) (jss_cons (js_set (ps_set (i := 9) sc.nd rfl (by first | exact Or.inl rfl | exact Or.inr rfl) (je_max2 rfl (by rfl) T.n_max (je_ix (je_ix (je_var (pv 2)) (je_c pe_int)) (je_var (pv 3))) (je_mod (je_fdiv (je_call (G__law_cell T) (hr.mono (by decide)) (by rfl) T.m__law_cell T.F__law_cell.kp T.b__law_cell pass0 ar_run (ja_cons (je_var (pv 0)) (ja_cons (je_c pe_int) ja_nil))) (je_c pe_int)) (je_c pe_int)))))
  (jss_cons (js_set (ps_set (i := 10) sc.nd rfl (by first | exact Or.inl rfl | exact Or.inr rfl) (je_lst jz_nil)))
  (jss_cons (js_for [5, 11] PassesOwn.never rfl (ji_enum (by rfl) T.n_enumerate (je_ix (je_var (pv 2)) (je_c pe_int))) (jg_tup rfl (jgs_cons (jg_name (pg_name (i := 11) sc.nd rfl (by first | exact Or.inl rfl | exact Or.inr rfl))) (jgs_cons (jg_name (pg_name (i := 5) sc.nd rfl (by first | exact Or.inl rfl | exact Or.inr rfl))) jgs_nil)))
  (jss_cons (js_if (jt_cmp (op_eqD hr.units) o_eq (je_ix (je_ix (je_ix (je_var (pv 1)) (je_c pe_int)) (je_var (pv 11))) (je_c pe_int)) (je_var (pv 3))) (jss_one (js_set (ps_set (i := 5) sc.nd rfl (by first | exact Or.inl rfl | exact Or.inr rfl) (je_tuple (by rfl) T.n_tuple (je_lc (own := [("x", 13)]) rfl sc.nd (jc_of (ji_range (by rfl) T.n_range (je_len (by rfl) T.n_len (je_var (pv 5))))) (blkOk_by (N := ns_law) (by rfl)) (fun _ _ _ _ _ => (jg_name (pg_name (i := 13) sc.nd rfl (by first | exact Or.inl rfl | exact Or.inr rfl)))) (fun _ _ _ _ _ => jts_nil) (fun _ _ _ _ _ => (je_call (G__law_draw T) (hr.mono (by decide)) (by rfl) T.m__law_draw T.F__law_draw.kp T.b__law_draw pass0 ar_run (ja_cons (je_call (G__law_cell T) (hr.mono (by decide)) (by rfl) T.m__law_cell T.F__law_cell.kp T.b__law_cell pass0 ar_run (ja_cons (je_var (pv 0)) (ja_cons (je_c pe_int) ja_nil))) (ja_cons (je_add (je_mul (je_c pe_int) (je_var (pv 11))) (je_var (pv 13))) (ja_cons (je_var (pv 9)) ja_nil)))))))))) jss_nil)
  (jss_one (js_app (ps_expr (pe_bm PySem.F.plainAttrs_list PySem.F.slot_list_append PySem.F.type_list_append mt_append (pv 10) (pa_cons (je_frz (je_var (pv 5))) pa_nil)))))))
  (jss_one (js_set (ps_set (i := 2) sc.nd rfl (by first | exact Or.inl rfl | exact Or.inr rfl) (je_tup (jz_cons (je_add (je_cut (je_ix (je_var (pv 2)) (je_c pe_int)) jp_none (jp_some (je_var (pv 3)))) (je_tup (jz_cons (je_var (pv 9)) jz_nil))) (jz_cons (je_tuple (by rfl) T.n_tuple (je_var (pv 10))) jz_nil))))))))) jss_nil)
  (jss_cons (js_set (ps_set (i := 4) sc.nd rfl (by first | exact Or.inl rfl | exact Or.inr rfl) (je_join (je_c pe_str) (je_lc (own := [("many", 9)]) rfl sc.nd (jc_seq (je_ix (je_var (pv 2)) (je_c pe_int))) (blkOk_by (N := ns_law) (by rfl)) (fun _ _ _ _ _ => (jg_name (pg_name (i := 9) sc.nd rfl (by first | exact Or.inl rfl | exact Or.inr rfl)))) (fun _ _ _ _ _ => jts_nil) (fun _ _ _ _ _ => (je_str1 (by rfl) T.n_str (je_var (pv 9))))))))
  (jss_cons (js_for [5, 12] PassesOwn.never rfl (ji_seq (je_ix (je_var (pv 2)) (je_c pe_int))) (jg_name (pg_name (i := 5) sc.nd rfl (by first | exact Or.inl rfl | exact Or.inr rfl)))
  (jss_cons (js_set (ps_set (i := 4) sc.nd rfl (by first | exact Or.inl rfl | exact Or.inr rfl) (je_add (je_var (pv 4)) (je_c pe_str))))
  (jss_one (js_for [12] PassesOwn.never rfl (ji_seq (je_var (pv 5))) (jg_name (pg_name (i := 12) sc.nd rfl (by first | exact Or.inl rfl | exact Or.inr rfl)))
  (jss_one (js_set (ps_set (i := 4) sc.nd rfl (by first | exact Or.inl rfl | exact Or.inr rfl) (je_add (je_add (je_var (pv 4)) (je_c pe_str)) (je_str1 (by rfl) T.n_str (je_var (pv 12)))))))))))
  (jss_cons (js_set (ps_set (i := 6) sc.nd rfl (by first | exact Or.inl rfl | exact Or.inr rfl) (je_call (G_book_shown T) (hr.mono (by decide)) (by rfl) T.m_book_shown T.F_book_shown.kp T.b_book_shown pass0 ar_run (ja_cons (je_var (pv 2)) ja_nil))))
  (jss_cons (js_if (jt_w (jw_or (jt_not (jt_val (je_isinst (by rfl) T.n_isinstance (by rfl) T.n_str boot_str (je_var (pv 6)) i_str))) (jw_or1 (jt_cmp (op_neD hr.units) o_ne (je_var (pv 6)) (je_var (pv 4)))))) (jss_one (js_ret (ps_ret (je_c pe_bl)))) jss_nil)
  (jss_cons (js_set (ps_set (i := 4) sc.nd rfl (by first | exact Or.inl rfl | exact Or.inr rfl) (je_call (G__law_spoiled T) (hr.mono (by decide)) (by rfl) T.m__law_spoiled T.F__law_spoiled.kp T.b__law_spoiled pass0 ar_run (ja_cons (je_var (pv 4)) (ja_cons (je_mod (je_call (G__law_cell T) (hr.mono (by decide)) (by rfl) T.m__law_cell T.F__law_cell.kp T.b__law_cell pass0 ar_run (ja_cons (je_var (pv 0)) (ja_cons (je_c pe_int) ja_nil))) (je_c pe_int)) (ja_cons (je_mod (je_call (G__law_cell T) (hr.mono (by decide)) (by rfl) T.m__law_cell T.F__law_cell.kp T.b__law_cell pass0 ar_run (ja_cons (je_var (pv 0)) (ja_cons (je_c pe_int) ja_nil))) (je_pow (je_c pe_int) (je_c pe_int))) ja_nil))))))
  (jss_cons (js_if (jt_cmp (op_eqD hr.units) o_eq (je_mod (je_fdiv (je_call (G__law_cell T) (hr.mono (by decide)) (by rfl) T.m__law_cell T.F__law_cell.kp T.b__law_cell pass0 ar_run (ja_cons (je_var (pv 0)) (ja_cons (je_c pe_int) ja_nil))) (je_c pe_int)) (je_c pe_int)) (je_c pe_int)) (jss_one (js_set (ps_set (i := 4) sc.nd rfl (by first | exact Or.inl rfl | exact Or.inr rfl) (je_call (G__law_odd T) (hr.mono (by decide)) (by rfl) T.m__law_odd T.F__law_odd.kp T.b__law_odd pass0 ar_run (ja_cons (je_call (G__law_cell T) (hr.mono (by decide)) (by rfl) T.m__law_cell T.F__law_cell.kp T.b__law_cell pass0 ar_run (ja_cons (je_var (pv 0)) (ja_cons (je_c pe_int) ja_nil))) ja_nil))))) jss_nil)
  (jss_cons (js_if (jt_cmp (op_eqD hr.units) o_eq (je_mod (je_fdiv (je_call (G__law_cell T) (hr.mono (by decide)) (by rfl) T.m__law_cell T.F__law_cell.kp T.b__law_cell pass0 ar_run (ja_cons (je_var (pv 0)) (ja_cons (je_c pe_int) ja_nil))) (je_c pe_int)) (je_c pe_int)) (je_c pe_int)) (jss_one (js_set (ps_set (i := 1) sc.nd rfl (by first | exact Or.inl rfl | exact Or.inr rfl) (je_call (G__law_form T) (hr.mono (by decide)) (by rfl) T.m__law_form T.F__law_form.kp T.b__law_form pass0 ar_run (ja_cons (je_var (pv 0)) (ja_cons (je_c pe_int) (ja_cons (je_c pe_int) (ja_cons (je_c pe_int) ja_nil)))))))) jss_nil)
  (jss_cons (js_set (ps_set (i := 7) sc.nd rfl (by first | exact Or.inl rfl | exact Or.inr rfl) (je_call (G__law_due T) (hr.mono (by decide)) (by rfl) T.m__law_due T.F__law_due.kp T.b__law_due pass0 ar_run (ja_cons (je_var (pv 4)) (ja_cons (je_var (pv 1)) ja_nil)))))
  (jss_cons (js_set (ps_set (i := 8) sc.nd rfl (by first | exact Or.inl rfl | exact Or.inr rfl) (je_call (G__law_told T) (hr.mono (by decide)) (by rfl) T.m__law_told T.F__law_told.kp T.b__law_told pass0 ar_run (ja_cons (je_var (pv 4)) (ja_cons (je_var (pv 1)) ja_nil)))))
  (jss_cons (js_if (jt_cmp op_isN o_isN (je_var (pv 7)) (je_c pe_non)) (jss_one (js_ret (ps_ret (je_cmp (op_eqD hr.units) o_eq (je_var (pv 8)) (je_lst (jz_cons (je_c pe_bl) (jz_cons (je_c pe_bl) (jz_cons (je_c pe_bl) jz_nil)))))))) jss_nil)
  (jss_one (js_ret (ps_ret (je_call (G__law_pair T) (hr.mono (by decide)) (by rfl) T.m__law_pair T.F__law_pair.kp T.b__law_pair pass0 ar_run (ja_cons (je_var (pv 8)) (ja_cons (je_var (pv 7)) ja_nil))))))))))))))))))))
end
/-! ### the end -/
def spLaw (K : PySem.W.Frag) : Sp := fun vs H Q _ => ∃ (a : Addr) (ns : List Int), vs = [.ref a] ∧ SqL K H a (ns.map V.int) ∧ ns.length ≤ 63 ∧ ∀ H', Q (.bl true) H'
theorem law_ok {P : Program} {w : World} {K : PySem.W.Frag} {mg : Str → Option Value} {base : Heap} (T : Tx K mg) : FnOk P w K mg base CX0 4 T.f_law T.fd_law ["script"] (spLaw K) := by
  refine (G_law (C := 0) T).imp fun vs H Q E h => ?_
  obtain ⟨a, ns, e, hS, hl, q⟩ := h
  subst e
  exact ⟨rfl, [.bor (ns.map PyData.int)], _, ⟨_, _, rfl, ⟨⟨a, _, rfl, hS, Dens.ints ns⟩, rfl⟩, rfl⟩, law_true ns hl, fun v H' _ r => by rw [r_bool r]; exact q H'⟩
theorem all_mk {l : PySem.W.OpenLaw} {w : World} {K : PySem.W.Frag} {h : Heap} {mg : Str → Option Value} {fa : Addr} (X : K.In h) (G : h.Ns mainGlobals mg) (hfa : mg "law" = some (.ref fa))
    {od0 an0 : Option Addr} {sl0 : Array (Option Value)} {oc0 kV0 dc0 pm0 cd0 ct0 : Value} {f0 : Addr}
    {od1 an1 : Option Addr} {sl1 : Array (Option Value)} {oc1 kV1 dc1 pm1 cd1 ct1 : Value} {f1 : Addr}
    {od2 an2 : Option Addr} {sl2 : Array (Option Value)} {oc2 kV2 dc2 pm2 cd2 ct2 : Value} {f2 : Addr}
    {od3 an3 : Option Addr} {sl3 : Array (Option Value)} {oc3 kV3 dc3 pm3 cd3 ct3 : Value} {f3 : Addr}
    {od4 an4 : Option Addr} {sl4 : Array (Option Value)} {oc4 kV4 dc4 pm4 cd4 ct4 : Value} {f4 : Addr}
    {od5 an5 : Option Addr} {sl5 : Array (Option Value)} {oc5 kV5 dc5 pm5 cd5 ct5 : Value} {f5 : Addr}
    {od6 an6 : Option Addr} {sl6 : Array (Option Value)} {oc6 kV6 dc6 pm6 cd6 ct6 : Value} {f6 : Addr}
    {od7 an7 : Option Addr} {sl7 : Array (Option Value)} {oc7 kV7 dc7 pm7 cd7 ct7 : Value} {f7 : Addr}
    {od8 an8 : Option Addr} {sl8 : Array (Option Value)} {oc8 kV8 dc8 pm8 cd8 ct8 : Value} {f8 : Addr}
    {od9 an9 : Option Addr} {sl9 : Array (Option Value)} {oc9 kV9 dc9 pm9 cd9 ct9 : Value} {f9 : Addr}
    {od10 an10 : Option Addr} {sl10 : Array (Option Value)} {oc10 kV10 dc10 pm10 cd10 ct10 : Value} {f10 : Addr}
    {od11 an11 : Option Addr} {sl11 : Array (Option Value)} {oc11 kV11 dc11 pm11 cd11 ct11 : Value} {f11 : Addr}
    {od12 an12 : Option Addr} {sl12 : Array (Option Value)} {oc12 kV12 dc12 pm12 cd12 ct12 : Value} {f12 : Addr}
    {od13 an13 : Option Addr} {sl13 : Array (Option Value)} {oc13 kV13 dc13 pm13 cd13 ct13 : Value} {f13 : Addr}
    {od14 an14 : Option Addr} {sl14 : Array (Option Value)} {oc14 kV14 dc14 pm14 cd14 ct14 : Value} {f14 : Addr}
    {od15 an15 : Option Addr} {sl15 : Array (Option Value)} {oc15 kV15 dc15 pm15 cd15 ct15 : Value} {f15 : Addr}
    {od16 an16 : Option Addr} {sl16 : Array (Option Value)} {oc16 kV16 dc16 pm16 cd16 ct16 : Value} {f16 : Addr}
    {od17 an17 : Option Addr} {sl17 : Array (Option Value)} {oc17 kV17 dc17 pm17 cd17 ct17 : Value} {f17 : Addr}
    {xa_ShiftError : Addr} (ax_ShiftError : PySem.W.nsIn K mainGlobals "ShiftError" = some (some (.ref xa_ShiftError)))
    {xa_TooWide : Addr} (ax_TooWide : PySem.W.nsIn K mainGlobals "TooWide" = some (some (.ref xa_TooWide)))
    {xa_NotRead : Addr} (ax_NotRead : PySem.W.nsIn K mainGlobals "NotRead" = some (some (.ref xa_NotRead)))
    (xE : PySem.W.excIn K xa_NotRead [.type "ValueError", .type "Exception", .type "BaseException", .type "object"] "ValueError.__new__" = true)
    (kE : PySem.W.keepIn K (.ref xa_NotRead) = true)
    (bE : PySem.W.subIn K (.ref xa_NotRead) (.type "BaseException") = some true)
    (tE : PySem.W.typeIn K (.ref xa_NotRead) = some (.type "type"))
    (hgE : PySem.W.findIn K (.ref xa_NotRead) "__getattribute__" = some (some (.builtin "BaseException.__getattribute__")))
    (hkE : PySem.W.findIn K (.ref xa_NotRead) "__getattr__" = some none)
    (hdE : PySem.W.hasDictIn K xa_NotRead = true)
    (haE : PySem.W.findIn K (.ref xa_NotRead) "__class__" = some (some (.builtin "object.__class__")))
    (hnE : PySem.W.specialIn K (.builtin "object.__class__") "__get__" = some (some (.builtin "getset_descriptor.__get__")))
    (htE : PySem.W.takesIn K (.builtin "object.__class__") = some true)
    (hmE : PySem.W.mroIn K xa_NotRead (.type "object") = some true)
    (bS : PySem.W.subIn K (.ref xa_ShiftError) (.type "BaseException") = some true)
    (sEE : PySem.W.subIn K (.ref xa_NotRead) (.ref xa_NotRead) = some true)
    (sV : PySem.W.subIn K (.ref xa_NotRead) (.type "ValueError") = some true)
    (d_ShiftError : PySem.W.hasDictIn K xa_ShiftError = true)
    (y_ShiftError : PySem.W.typeIn K (.ref xa_ShiftError) = some (.type "type"))
    (s_ShiftError : PySem.W.subIn K (.ref xa_NotRead) (.ref xa_ShiftError) = some true)
    (d_TooWide : PySem.W.hasDictIn K xa_TooWide = true)
    (y_TooWide : PySem.W.typeIn K (.ref xa_TooWide) = some (.type "type"))
    (s_TooWide : PySem.W.subIn K (.ref xa_NotRead) (.ref xa_TooWide) = some false)
    (d_NotRead : PySem.W.hasDictIn K xa_NotRead = true)
    (y_NotRead : PySem.W.typeIn K (.ref xa_NotRead) = some (.type "type"))
    (s_NotRead : PySem.W.subIn K (.ref xa_NotRead) (.ref xa_NotRead) = some true)
    (a0 : PySem.W.nsIn K mainGlobals "is_book" = some (some (.ref f0)))
    (l0 : K.lookup f0 = some ⟨oc0, od0, .func (PySem.W.fnOf "is_book" "is_book" (defArgs s_is_book) (defBody s_is_book) (defScope s_is_book) .none kV0 dc0 pm0 an0 cd0 ct0), sl0⟩) (e0 : PySem.W.codeIn K cd0 "is_book" = true) (k0 : PySem.W.keepIn K (.ref f0) = true)
    (a1 : PySem.W.nsIn K mainGlobals "book_shown" = some (some (.ref f1)))
    (l1 : K.lookup f1 = some ⟨oc1, od1, .func (PySem.W.fnOf "book_shown" "book_shown" (defArgs s_book_shown) (defBody s_book_shown) (defScope s_book_shown) .none kV1 dc1 pm1 an1 cd1 ct1), sl1⟩) (e1 : PySem.W.codeIn K cd1 "book_shown" = true) (k1 : PySem.W.keepIn K (.ref f1) = true)
    (a2 : PySem.W.nsIn K mainGlobals "number_of" = some (some (.ref f2)))
    (l2 : K.lookup f2 = some ⟨oc2, od2, .func (PySem.W.fnOf "number_of" "number_of" (defArgs s_number_of) (defBody s_number_of) (defScope s_number_of) .none kV2 dc2 pm2 an2 cd2 ct2), sl2⟩) (e2 : PySem.W.codeIn K cd2 "number_of" = true) (k2 : PySem.W.keepIn K (.ref f2) = true)
    (a3 : PySem.W.nsIn K mainGlobals "read_book" = some (some (.ref f3)))
    (l3 : K.lookup f3 = some ⟨oc3, od3, .func (PySem.W.fnOf "read_book" "read_book" (defArgs s_read_book) (defBody s_read_book) (defScope s_read_book) .none kV3 dc3 pm3 an3 cd3 ct3), sl3⟩) (e3 : PySem.W.codeIn K cd3 "read_book" = true) (k3 : PySem.W.keepIn K (.ref f3) = true)
    (a4 : PySem.W.nsIn K mainGlobals "_law_stir" = some (some (.ref f4)))
    (l4 : K.lookup f4 = some ⟨oc4, od4, .func (PySem.W.fnOf "_law_stir" "_law_stir" (defArgs s__law_stir) (defBody s__law_stir) (defScope s__law_stir) .none kV4 dc4 pm4 an4 cd4 ct4), sl4⟩) (e4 : PySem.W.codeIn K cd4 "_law_stir" = true) (k4 : PySem.W.keepIn K (.ref f4) = true)
    (a5 : PySem.W.nsIn K mainGlobals "_law_cell" = some (some (.ref f5)))
    (l5 : K.lookup f5 = some ⟨oc5, od5, .func (PySem.W.fnOf "_law_cell" "_law_cell" (defArgs s__law_cell) (defBody s__law_cell) (defScope s__law_cell) .none kV5 dc5 pm5 an5 cd5 ct5), sl5⟩) (e5 : PySem.W.codeIn K cd5 "_law_cell" = true) (k5 : PySem.W.keepIn K (.ref f5) = true)
    (a6 : PySem.W.nsIn K mainGlobals "_law_whole" = some (some (.ref f6)))
    (l6 : K.lookup f6 = some ⟨oc6, od6, .func (PySem.W.fnOf "_law_whole" "_law_whole" (defArgs s__law_whole) (defBody s__law_whole) (defScope s__law_whole) .none kV6 dc6 pm6 an6 cd6 ct6), sl6⟩) (e6 : PySem.W.codeIn K cd6 "_law_whole" = true) (k6 : PySem.W.keepIn K (.ref f6) = true)
    (a7 : PySem.W.nsIn K mainGlobals "_law_draw" = some (some (.ref f7)))
    (l7 : K.lookup f7 = some ⟨oc7, od7, .func (PySem.W.fnOf "_law_draw" "_law_draw" (defArgs s__law_draw) (defBody s__law_draw) (defScope s__law_draw) .none kV7 dc7 pm7 an7 cd7 ct7), sl7⟩) (e7 : PySem.W.codeIn K cd7 "_law_draw" = true) (k7 : PySem.W.keepIn K (.ref f7) = true)
    (a8 : PySem.W.nsIn K mainGlobals "_law_form" = some (some (.ref f8)))
    (l8 : K.lookup f8 = some ⟨oc8, od8, .func (PySem.W.fnOf "_law_form" "_law_form" (defArgs s__law_form) (defBody s__law_form) (defScope s__law_form) .none kV8 dc8 pm8 an8 cd8 ct8), sl8⟩) (e8 : PySem.W.codeIn K cd8 "_law_form" = true) (k8 : PySem.W.keepIn K (.ref f8) = true)
    (a9 : PySem.W.nsIn K mainGlobals "_law_book" = some (some (.ref f9)))
    (l9 : K.lookup f9 = some ⟨oc9, od9, .func (PySem.W.fnOf "_law_book" "_law_book" (defArgs s__law_book) (defBody s__law_book) (defScope s__law_book) .none kV9 dc9 pm9 an9 cd9 ct9), sl9⟩) (e9 : PySem.W.codeIn K cd9 "_law_book" = true) (k9 : PySem.W.keepIn K (.ref f9) = true)
    (a10 : PySem.W.nsIn K mainGlobals "_law_numbers" = some (some (.ref f10)))
    (l10 : K.lookup f10 = some ⟨oc10, od10, .func (PySem.W.fnOf "_law_numbers" "_law_numbers" (defArgs s__law_numbers) (defBody s__law_numbers) (defScope s__law_numbers) .none kV10 dc10 pm10 an10 cd10 ct10), sl10⟩) (e10 : PySem.W.codeIn K cd10 "_law_numbers" = true) (k10 : PySem.W.keepIn K (.ref f10) = true)
    (a11 : PySem.W.nsIn K mainGlobals "_law_pair" = some (some (.ref f11)))
    (l11 : K.lookup f11 = some ⟨oc11, od11, .func (PySem.W.fnOf "_law_pair" "_law_pair" (defArgs s__law_pair) (defBody s__law_pair) (defScope s__law_pair) .none kV11 dc11 pm11 an11 cd11 ct11), sl11⟩) (e11 : PySem.W.codeIn K cd11 "_law_pair" = true) (k11 : PySem.W.keepIn K (.ref f11) = true)
    (a12 : PySem.W.nsIn K mainGlobals "_law_spoiled" = some (some (.ref f12)))
    (l12 : K.lookup f12 = some ⟨oc12, od12, .func (PySem.W.fnOf "_law_spoiled" "_law_spoiled" (defArgs s__law_spoiled) (defBody s__law_spoiled) (defScope s__law_spoiled) .none kV12 dc12 pm12 an12 cd12 ct12), sl12⟩) (e12 : PySem.W.codeIn K cd12 "_law_spoiled" = true) (k12 : PySem.W.keepIn K (.ref f12) = true)
    (a13 : PySem.W.nsIn K mainGlobals "_law_odd" = some (some (.ref f13)))
    (l13 : K.lookup f13 = some ⟨oc13, od13, .func (PySem.W.fnOf "_law_odd" "_law_odd" (defArgs s__law_odd) (defBody s__law_odd) (defScope s__law_odd) .none kV13 dc13 pm13 an13 cd13 ct13), sl13⟩) (e13 : PySem.W.codeIn K cd13 "_law_odd" = true) (k13 : PySem.W.keepIn K (.ref f13) = true)
    (a14 : PySem.W.nsIn K mainGlobals "_law_number" = some (some (.ref f14)))
    (l14 : K.lookup f14 = some ⟨oc14, od14, .func (PySem.W.fnOf "_law_number" "_law_number" (defArgs s__law_number) (defBody s__law_number) (defScope s__law_number) .none kV14 dc14 pm14 an14 cd14 ct14), sl14⟩) (e14 : PySem.W.codeIn K cd14 "_law_number" = true) (k14 : PySem.W.keepIn K (.ref f14) = true)
    (a15 : PySem.W.nsIn K mainGlobals "_law_due" = some (some (.ref f15)))
    (l15 : K.lookup f15 = some ⟨oc15, od15, .func (PySem.W.fnOf "_law_due" "_law_due" (defArgs s__law_due) (defBody s__law_due) (defScope s__law_due) .none kV15 dc15 pm15 an15 cd15 ct15), sl15⟩) (e15 : PySem.W.codeIn K cd15 "_law_due" = true) (k15 : PySem.W.keepIn K (.ref f15) = true)
    (a16 : PySem.W.nsIn K mainGlobals "_law_told" = some (some (.ref f16)))
    (l16 : K.lookup f16 = some ⟨oc16, od16, .func (PySem.W.fnOf "_law_told" "_law_told" (defArgs s__law_told) (defBody s__law_told) (defScope s__law_told) .none kV16 dc16 pm16 an16 cd16 ct16), sl16⟩) (e16 : PySem.W.codeIn K cd16 "_law_told" = true) (k16 : PySem.W.keepIn K (.ref f16) = true)
    (a17 : PySem.W.nsIn K mainGlobals "law" = some (some (.ref f17)))
    (l17 : K.lookup f17 = some ⟨oc17, od17, .func (PySem.W.fnOf "law" "law" (defArgs s_law) (defBody s_law) (defScope s_law) .none kV17 dc17 pm17 an17 cd17 ct17), sl17⟩) (e17 : PySem.W.codeIn K cd17 "law" = true) (k17 : PySem.W.keepIn K (.ref f17) = true)
    (z_ValueError : PySem.W.nsIn K mainGlobals "ValueError" = some none)
    (z_all : PySem.W.nsIn K mainGlobals "all" = some none)
    (z_bool : PySem.W.nsIn K mainGlobals "bool" = some none)
    (z_enumerate : PySem.W.nsIn K mainGlobals "enumerate" = some none)
    (z_int : PySem.W.nsIn K mainGlobals "int" = some none)
    (z_isinstance : PySem.W.nsIn K mainGlobals "isinstance" = some none)
    (z_len : PySem.W.nsIn K mainGlobals "len" = some none)
    (z_max : PySem.W.nsIn K mainGlobals "max" = some none)
    (z_min : PySem.W.nsIn K mainGlobals "min" = some none)
    (z_range : PySem.W.nsIn K mainGlobals "range" = some none)
    (z_sorted : PySem.W.nsIn K mainGlobals "sorted" = some none)
    (z_str : PySem.W.nsIn K mainGlobals "str" = some none)
    (z_tuple : PySem.W.nsIn K mainGlobals "tuple" = some none)
    (z_zip : PySem.W.nsIn K mainGlobals "zip" = some none)
    {t_MOST_ROWS : Tok} (v_MOST_ROWS : PySem.W.nsIn K mainGlobals "MOST_ROWS" = some (some (.int 200 t_MOST_ROWS)))
    {t_FIGURES : Tok} (v_FIGURES : PySem.W.nsIn K mainGlobals "FIGURES" = some (some (.str "0123456789" t_FIGURES)))
    : ∃ fd : FuncData, (∀ (s : Shared) (v : Value), BindsTo s fd ⟨[v], []⟩ [("script", v)]) ∧ ∀ base : Heap, K.In base → base.Ns mainGlobals mg → FnOk l.prog w K mg base CX0 4 fa fd ["script"] (spLaw K) := by
  have e := hfa.symm.trans (PySem.W.mg_of X G a17)
  cases e
  have F0 := fun_mk (st := s_is_book) l0 e0 k0
  have b0 := F0.binds (ps := ["form", "book"]) fun _ _ _ _ _ _ us hl => match us, hl with | [_, _], _ => rfl
  have F1 := fun_mk (st := s_book_shown) l1 e1 k1
  have b1 := F1.binds (ps := ["book"]) fun _ _ _ _ _ _ us hl => match us, hl with | [_], _ => rfl
  have F2 := fun_mk (st := s_number_of) l2 e2 k2
  have b2 := F2.binds (ps := ["word"]) fun _ _ _ _ _ _ us hl => match us, hl with | [_], _ => rfl
  have F3 := fun_mk (st := s_read_book) l3 e3 k3
  have b3 := F3.binds (ps := ["text", "form"]) fun _ _ _ _ _ _ us hl => match us, hl with | [_, _], _ => rfl
  have F4 := fun_mk (st := s__law_stir) l4 e4 k4
  have b4 := F4.binds (ps := ["cell"]) fun _ _ _ _ _ _ us hl => match us, hl with | [_], _ => rfl
  have F5 := fun_mk (st := s__law_cell) l5 e5 k5
  have b5 := F5.binds (ps := ["script", "k"]) fun _ _ _ _ _ _ us hl => match us, hl with | [_, _], _ => rfl
  have F6 := fun_mk (st := s__law_whole) l6 e6 k6
  have b6 := F6.binds (ps := ["found"]) fun _ _ _ _ _ _ us hl => match us, hl with | [_], _ => rfl
  have F7 := fun_mk (st := s__law_draw) l7 e7 k7
  have b7 := F7.binds (ps := ["cell", "k", "bound"]) fun _ _ _ _ _ _ us hl => match us, hl with | [_, _, _], _ => rfl
  have F8 := fun_mk (st := s__law_form) l8 e8 k8
  have b8 := F8.binds (ps := ["script", "first", "most", "many"]) fun _ _ _ _ _ _ us hl => match us, hl with | [_, _, _, _], _ => rfl
  have F9 := fun_mk (st := s__law_book) l9 e9 k9
  have b9 := F9.binds (ps := ["script", "first", "form", "most"]) fun _ _ _ _ _ _ us hl => match us, hl with | [_, _, _, _], _ => rfl
  have F10 := fun_mk (st := s__law_numbers) l10 e10 k10
  have b10 := F10.binds (ps := ["found"]) fun _ _ _ _ _ _ us hl => match us, hl with | [_], _ => rfl
  have F11 := fun_mk (st := s__law_pair) l11 e11 k11
  have b11 := F11.binds (ps := ["found", "due"]) fun _ _ _ _ _ _ us hl => match us, hl with | [_, _], _ => rfl
  have F12 := fun_mk (st := s__law_spoiled) l12 e12 k12
  have b12 := F12.binds (ps := ["text", "mode", "cell"]) fun _ _ _ _ _ _ us hl => match us, hl with | [_, _, _], _ => rfl
  have F13 := fun_mk (st := s__law_odd) l13 e13 k13
  have b13 := F13.binds (ps := ["cell"]) fun _ _ _ _ _ _ us hl => match us, hl with | [_], _ => rfl
  have F14 := fun_mk (st := s__law_number) l14 e14 k14
  have b14 := F14.binds (ps := ["word"]) fun _ _ _ _ _ _ us hl => match us, hl with | [_], _ => rfl
  have F15 := fun_mk (st := s__law_due) l15 e15 k15
  have b15 := F15.binds (ps := ["text", "form"]) fun _ _ _ _ _ _ us hl => match us, hl with | [_, _], _ => rfl
  have F16 := fun_mk (st := s__law_told) l16 e16 k16
  have b16 := F16.binds (ps := ["text", "form"]) fun _ _ _ _ _ _ us hl => match us, hl with | [_, _], _ => rfl
  have F17 := fun_mk (st := s_law) l17 e17 k17
  have b17 := F17.binds (ps := ["script"]) fun _ _ _ _ _ _ us hl => match us, hl with | [_], _ => rfl
  let T : Tx K mg := {
    xa_ShiftError := xa_ShiftError, m_ShiftError := PySem.W.mg_of X G ax_ShiftError,
    xa_TooWide := xa_TooWide, m_TooWide := PySem.W.mg_of X G ax_TooWide,
    xa_NotRead := xa_NotRead, m_NotRead := PySem.W.mg_of X G ax_NotRead,
    xE := xE, kE := kE, bE := bE, tE := tE, eC := ⟨hgE, hkE, bE, hdE, haE, hnE, htE, hmE⟩, eM := PySem.W.exm_ref bS d_ShiftError y_ShiftError s_ShiftError,
    q_ShiftError := kit_ref d_ShiftError y_ShiftError sEE s_ShiftError,
    q_TooWide := kit_ref d_TooWide y_TooWide sEE s_TooWide,
    q_NotRead := kit_ref d_NotRead y_NotRead sEE s_NotRead,
    q_ValueError := kit_typ (by decide +kernel) sV,
    f_is_book := f0, fd_is_book := _, F_is_book := F0, b_is_book := b0, m_is_book := PySem.W.mg_of X G a0,
    f_book_shown := f1, fd_book_shown := _, F_book_shown := F1, b_book_shown := b1, m_book_shown := PySem.W.mg_of X G a1,
    f_number_of := f2, fd_number_of := _, F_number_of := F2, b_number_of := b2, m_number_of := PySem.W.mg_of X G a2,
    f_read_book := f3, fd_read_book := _, F_read_book := F3, b_read_book := b3, m_read_book := PySem.W.mg_of X G a3,
    f__law_stir := f4, fd__law_stir := _, F__law_stir := F4, b__law_stir := b4, m__law_stir := PySem.W.mg_of X G a4,
    f__law_cell := f5, fd__law_cell := _, F__law_cell := F5, b__law_cell := b5, m__law_cell := PySem.W.mg_of X G a5,
    f__law_whole := f6, fd__law_whole := _, F__law_whole := F6, b__law_whole := b6, m__law_whole := PySem.W.mg_of X G a6,
    f__law_draw := f7, fd__law_draw := _, F__law_draw := F7, b__law_draw := b7, m__law_draw := PySem.W.mg_of X G a7,
    f__law_form := f8, fd__law_form := _, F__law_form := F8, b__law_form := b8, m__law_form := PySem.W.mg_of X G a8,
    f__law_book := f9, fd__law_book := _, F__law_book := F9, b__law_book := b9, m__law_book := PySem.W.mg_of X G a9,
    f__law_numbers := f10, fd__law_numbers := _, F__law_numbers := F10, b__law_numbers := b10, m__law_numbers := PySem.W.mg_of X G a10,
    f__law_pair := f11, fd__law_pair := _, F__law_pair := F11, b__law_pair := b11, m__law_pair := PySem.W.mg_of X G a11,
    f__law_spoiled := f12, fd__law_spoiled := _, F__law_spoiled := F12, b__law_spoiled := b12, m__law_spoiled := PySem.W.mg_of X G a12,
    f__law_odd := f13, fd__law_odd := _, F__law_odd := F13, b__law_odd := b13, m__law_odd := PySem.W.mg_of X G a13,
    f__law_number := f14, fd__law_number := _, F__law_number := F14, b__law_number := b14, m__law_number := PySem.W.mg_of X G a14,
    f__law_due := f15, fd__law_due := _, F__law_due := F15, b__law_due := b15, m__law_due := PySem.W.mg_of X G a15,
    f__law_told := f16, fd__law_told := _, F__law_told := F16, b__law_told := b16, m__law_told := PySem.W.mg_of X G a16,
    f_law := fa, fd_law := _, F_law := F17, b_law := b17, m_law := PySem.W.mg_of X G a17,
    n_ValueError := PySem.W.mg_none_of X G z_ValueError,
    n_all := PySem.W.mg_none_of X G z_all,
    n_bool := PySem.W.mg_none_of X G z_bool,
    n_enumerate := PySem.W.mg_none_of X G z_enumerate,
    n_int := PySem.W.mg_none_of X G z_int,
    n_isinstance := PySem.W.mg_none_of X G z_isinstance,
    n_len := PySem.W.mg_none_of X G z_len,
    n_max := PySem.W.mg_none_of X G z_max,
    n_min := PySem.W.mg_none_of X G z_min,
    n_range := PySem.W.mg_none_of X G z_range,
    n_sorted := PySem.W.mg_none_of X G z_sorted,
    n_str := PySem.W.mg_none_of X G z_str,
    n_tuple := PySem.W.mg_none_of X G z_tuple,
    n_zip := PySem.W.mg_none_of X G z_zip,
    c_MOST_ROWS := ⟨_, PySem.W.mg_of X G v_MOST_ROWS⟩,
    c_FIGURES := ⟨_, PySem.W.mg_of X G v_FIGURES⟩ }
  exact ⟨_, fun s v => .of_eq rfl, fun base _ _ => law_ok T⟩
end FL
open PySem PySem.W PyProof.Rows
set_option maxHeartbeats 0 in
theorem PySem.Challenge.cw_formshift_k16_book_written_holds : PySem.Challenge.rw_formshift_k16_book_written.Holds := by
  w_on; o_law; k_head; (case hw => w_witness2)
  k_fill
  refine L2.walk_of (l := PySem.Challenge.rw_formshift_k16_book_written) (n := 63) (k := 4) (x := "script") (CX := fun _ => L2.CX0) (sp := fun w => FL.spLaw _) rfl (by decide) rfl ⟨rfl, by decide, by decide⟩ (fun w h Y => PySem.W.kIn_of Y) ?F (fun _ _ a ns hl _ hS => ⟨a, ns, rfl, hS, hl, fun _ => rfl⟩) (fun _ _ _ _ _ h => h)
  case F =>
    intro w mg fa h KX G hmg
    refine' FL.all_mk KX G hmg ?ax_ShiftError ?ax_TooWide ?ax_NotRead ?xE ?kE ?bE ?tE ?hgE ?hkE ?hdE ?haE ?hnE ?htE ?hmE ?bS ?sEE ?sV ?d_ShiftError ?y_ShiftError ?s_ShiftError ?d_TooWide ?y_TooWide ?s_TooWide ?d_NotRead ?y_NotRead ?s_NotRead ?a0 ?l0 ?e0 ?k0 ?a1 ?l1 ?e1 ?k1 ?a2 ?l2 ?e2 ?k2 ?a3 ?l3 ?e3 ?k3 ?a4 ?l4 ?e4 ?k4 ?a5 ?l5 ?e5 ?k5 ?a6 ?l6 ?e6 ?k6 ?a7 ?l7 ?e7 ?k7 ?a8 ?l8 ?e8 ?k8 ?a9 ?l9 ?e9 ?k9 ?a10 ?l10 ?e10 ?k10 ?a11 ?l11 ?e11 ?k11 ?a12 ?l12 ?e12 ?k12 ?a13 ?l13 ?e13 ?k13 ?a14 ?l14 ?e14 ?k14 ?a15 ?l15 ?e15 ?k15 ?a16 ?l16 ?e16 ?k16 ?a17 ?l17 ?e17 ?k17 ?z_ValueError ?z_all ?z_bool ?z_enumerate ?z_int ?z_isinstance ?z_len ?z_max ?z_min ?z_range ?z_sorted ?z_str ?z_tuple ?z_zip ?v_MOST_ROWS ?v_FIGURES
    (case ax_ShiftError => k_is)
    (case ax_TooWide => k_is)
    (case ax_NotRead => k_is)
    (case xE => k_exc)
    (case kE => k_is)
    (case bE => k_is)
    (case tE => k_is)
    (case hgE => k_is)
    (case hkE => k_is)
    (case hdE => k_is)
    (case haE => k_is)
    (case hnE => k_is)
    (case htE => k_is)
    (case hmE => k_is)
    (case bS => k_is)
    (case sEE => k_is)
    (case sV => k_is)
    (case d_ShiftError => k_is)
    (case y_ShiftError => k_is)
    (case s_ShiftError => k_is)
    (case d_TooWide => k_is)
    (case y_TooWide => k_is)
    (case s_TooWide => k_is)
    (case d_NotRead => k_is)
    (case y_NotRead => k_is)
    (case s_NotRead => k_is)
    (case a0 => k_is)
    (case l0 => k_is)
    (case e0 => k_is)
    (case k0 => k_is)
    (case a1 => k_is)
    (case l1 => k_is)
    (case e1 => k_is)
    (case k1 => k_is)
    (case a2 => k_is)
    (case l2 => k_is)
    (case e2 => k_is)
    (case k2 => k_is)
    (case a3 => k_is)
    (case l3 => k_is)
    (case e3 => k_is)
    (case k3 => k_is)
    (case a4 => k_is)
    (case l4 => k_is)
    (case e4 => k_is)
    (case k4 => k_is)
    (case a5 => k_is)
    (case l5 => k_is)
    (case e5 => k_is)
    (case k5 => k_is)
    (case a6 => k_is)
    (case l6 => k_is)
    (case e6 => k_is)
    (case k6 => k_is)
    (case a7 => k_is)
    (case l7 => k_is)
    (case e7 => k_is)
    (case k7 => k_is)
    (case a8 => k_is)
    (case l8 => k_is)
    (case e8 => k_is)
    (case k8 => k_is)
    (case a9 => k_is)
    (case l9 => k_is)
    (case e9 => k_is)
    (case k9 => k_is)
    (case a10 => k_is)
    (case l10 => k_is)
    (case e10 => k_is)
    (case k10 => k_is)
    (case a11 => k_is)
    (case l11 => k_is)
    (case e11 => k_is)
    (case k11 => k_is)
    (case a12 => k_is)
    (case l12 => k_is)
    (case e12 => k_is)
    (case k12 => k_is)
    (case a13 => k_is)
    (case l13 => k_is)
    (case e13 => k_is)
    (case k13 => k_is)
    (case a14 => k_is)
    (case l14 => k_is)
    (case e14 => k_is)
    (case k14 => k_is)
    (case a15 => k_is)
    (case l15 => k_is)
    (case e15 => k_is)
    (case k15 => k_is)
    (case a16 => k_is)
    (case l16 => k_is)
    (case e16 => k_is)
    (case k16 => k_is)
    (case a17 => k_is)
    (case l17 => k_is)
    (case e17 => k_is)
    (case k17 => k_is)
    (case z_ValueError => k_is)
    (case z_all => k_is)
    (case z_bool => k_is)
    (case z_enumerate => k_is)
    (case z_int => k_is)
    (case z_isinstance => k_is)
    (case z_len => k_is)
    (case z_max => k_is)
    (case z_min => k_is)
    (case z_range => k_is)
    (case z_sorted => k_is)
    (case z_str => k_is)
    (case z_tuple => k_is)
    (case z_zip => k_is)
    (case v_MOST_ROWS => k_is)
    (case v_FIGURES => k_is)

