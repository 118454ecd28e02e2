import PyProof.Rows.All
import Wide.All
import OpenK.AllK
import Wide.FinOn
import PyProof.EqAt
import PyProof.EqKinds
import PyProof.TupleCall
import HandS.ForMost
import HandS.Walk
import HandS.Wide
import HandS.Evl
import HandS.EndBits
import HandS.IsInst
import HandS.SortInts
import HandS.Exc
import HandS.TupAny
import HandS.Style
import HandS.Conv
import HandS.More
import HandS.NoneIn
import HandS.Iter
import HandS.TupLe
import HandS.TryOnly
import HandS.ExcOwn
import HandS.WordsExc
import HandS.ExcIs
import KE.KIsAll
import HandS.ExcValue
import HandS.Text
import HandS.Zip
import HandS.Deep
import HandS.Defaults
import HandS.Remove
import KE.DataMinMax
import KE.SortData
import KE.DataFind
import HandS.StrMore
import KE.GoesMore
import KE.GoesZip
import KE.GoesEnum
import HandS.Codes
import PyProof.StrBlock2
import KE.GoesRaise
import PySem.Challenge.RW_rowecho_k87_texts_of_nothing
section PRwSem
set_option autoImplicit false
set_option linter.all false
/-! RwSem: a pure reading of the program: data D, values Dv (data, a cell of the store, the script), an environment by slots, a store of lists that may change. Every construct is a function; nothing of the model is in sight. -/
namespace Rw
open PySem (Str)
noncomputable section

inductive D where
  | non | bl (b : Bool) | int (i : Int) | str (s : Str) | ty (n : String) | lst (xs : List D) | tup (xs : List D)
/-- an attribute of an object that is only read: data, or a cell; or such an object -/
inductive Fv where
  | d (x : D) | c (n : Nat)
inductive Gv where
  | f (x : Fv) | k (c : String) (ns : List Str) (fs : List Fv)
/-- a value: data that never changes, a cell of the store, a list that is only read (the script), an object that is only read (its class, the attributes' names, the attributes) -/
inductive Dv where
  | d (x : D) | c (n : Nat) | r (xs : List D) | o (c : String) (ns : List Str) (gs : List Gv)

abbrev DEnv := List (Option Dv)
abbrev DSt := List (Option (List D))
abbrev DE := DEnv → DSt → Option (Dv × DSt)
abbrev DT := DEnv → DSt → Option (Bool × DSt)
abbrev DA := DEnv → DSt → Option (List Dv × DSt)
abbrev DF := List Dv → DSt → Option (Dv × DSt)
inductive Out where
  | nx (ρ : DEnv) (M : DSt) | rt (v : Dv) (M : DSt) | bk (ρ : DEnv) (M : DSt) | ct (ρ : DEnv) (M : DSt)
abbrev DS := DEnv → DSt → Option Out
abbrev DI := DEnv → DSt → Option (List D × List Nat × DSt)

/-- the bound of lists here -/
abbrev big : Nat := 1000000
/-- only where p holds -/
def grd {α : Type} (p : Prop) (o : Option α) : Option α := open Classical in if p then o else none
theorem grd_ok {α : Type} {p : Prop} {o : Option α} (h : p) : grd p o = o := if_pos h
theorem grd_some {α : Type} {p : Prop} {o : Option α} {x : α} (h : grd p o = some x) : p ∧ o = some x := by
  unfold grd at h
  split at h
  · exact ⟨by assumption, h⟩
  · cases h

/-- the list that a value is -/
def lv (M : DSt) : Dv → Option (List D)
  | .d (.lst xs) => some xs
  | .c n => (M[n]?).join
  | .r xs => some xs
  | _ => none
/-- .. but the script -/
def lw (M : DSt) : Dv → Option (List D)
  | .d (.lst xs) => some xs
  | .c n => (M[n]?).join
  | _ => none
/-- a list or a tuple -/
def sv (M : DSt) : Dv → Option (List D)
  | .d (.tup xs) => some xs
  | v => lv M v
/-- data: a cell is read -/
def dv (M : DSt) : Dv → Option D
  | .d x => some x
  | .c n => ((M[n]?).join).map D.lst
  | .r xs => some (.lst xs)
  | .o _ _ _ => none
/-- a new list: a cell (c), or data -/
def mkL (c : Bool) (xs : List D) (M : DSt) : Option (Dv × DSt) := match c with
  | true => some (.c M.length, M ++ [some xs])
  | false => some (.d (.lst xs), M)

/-! ### expressions -/
def eVar (i : Nat) : DE := fun ρ M => match ρ[i]? with
  | some (some x) => some (x, M)
  | _ => none
def eC (x : D) : DE := fun _ M => some (.d x, M)
def e1 (f : Dv → DSt → Option (Dv × DSt)) (a : DE) : DE := fun ρ M => match a ρ M with
  | some (x, M1) => f x M1
  | none => none
def e2 (f : Dv → Dv → DSt → Option (Dv × DSt)) (a b : DE) : DE := fun ρ M => match a ρ M with
  | some (x, M1) => match b ρ M1 with
    | some (y, M2) => f x y M2
    | none => none
  | none => none
def aNil : DA := fun _ M => some ([], M)
def aCons (a : DE) (as : DA) : DA := fun ρ M => match a ρ M with
  | some (x, M1) => match as ρ M1 with
    | some (xs, M2) => some (x :: xs, M2)
    | none => none
  | none => none
def eA (f : List Dv → DSt → Option (Dv × DSt)) (as : DA) : DE := fun ρ M => match as ρ M with
  | some (xs, M1) => f xs M1
  | none => none
/-- a chain of two comparisons -/
def eChain (f g : Dv → Dv → DSt → Option (Dv × DSt)) (a b c : DE) : DE := fun ρ M => match a ρ M with
  | some (x, M1) => match b ρ M1 with
    | some (y, M2) => match f x y M2 with
      | some (.d (.bl true), M3) => match c ρ M3 with
        | some (z, M4) => g y z M4
        | none => none
      | some (.d (.bl false), M3) => some (.d (.bl false), M3)
      | _ => none
    | none => none
  | none => none
def tVal (a : DE) : DT := fun ρ M => match a ρ M with
  | some (.d (.bl b), M1) => some (b, M1)
  | _ => none
def tAnd (a b : DT) : DT := fun ρ M => match a ρ M with
  | some (true, M1) => b ρ M1
  | some (false, M1) => some (false, M1)
  | none => none
def tOr (a b : DT) : DT := fun ρ M => match a ρ M with
  | some (true, M1) => some (true, M1)
  | some (false, M1) => b ρ M1
  | none => none
def tNot (a : DT) : DT := fun ρ M => match a ρ M with
  | some (b, M1) => some (!b, M1)
  | none => none
def tYes : DT := fun _ M => some (true, M)
def eIf (t : DT) (a b : DE) : DE := fun ρ M => match t ρ M with
  | some (true, M1) => a ρ M1
  | some (false, M1) => b ρ M1
  | none => none
def eAnd (a b : DE) : DE := fun ρ M => match a ρ M with
  | some (.d (.bl true), M1) => b ρ M1
  | some (.d (.bl false), M1) => some (.d (.bl false), M1)
  | _ => none
def eOr (a b : DE) : DE := fun ρ M => match a ρ M with
  | some (.d (.bl true), M1) => some (.d (.bl true), M1)
  | some (.d (.bl false), M1) => b ρ M1
  | _ => none
def eNot (a : DE) : DE := fun ρ M => match a ρ M with
  | some (.d (.bl b), M1) => some (.d (.bl (!b)), M1)
  | _ => none
/-- data alone -/
def allD : List Dv → Option (List D)
  | [] => some []
  | .d x :: r => (allD r).map (x :: ·)
  | _ :: _ => none
def eTup (as : DA) : DE := eA (fun vs M => match allD vs with
  | some xs => grd (xs.length ≤ big) (some (.d (.tup xs), M))
  | none => none) as
def eLst (c : Bool) (as : DA) : DE := eA (fun vs M => match allD vs with
  | some xs => grd (xs.length ≤ big) (mkL c xs M)
  | none => none) as
/-- a value that is handed on as data: a list that was just made (the last cell) is no cell any more -/
def frz (b : Nat) : Dv × DSt → Option (Dv × DSt)
  | (.d x, M) => some (.d x, M)
  | (.c n, M) => if n = b ∧ M.length = b + 1 then match (M[n]?).join with
      | some xs => some (.d (.lst xs), M.take b)
      | none => none
    else none
  | _ => none
def eFrz (a : DE) : DE := fun ρ M => match a ρ M with
  | some p => frz M.length p
  | none => none
/-- a cell is data from now on -/
def eFrzC (a : DE) : DE := fun ρ M => match a ρ M with
  | some (.c n, M1) => match (M1[n]?).join with
    | some xs => some (.d (.lst xs), M1.set n none)
    | none => none
  | _ => none

/-! ### operators -/
def iLn (i : Int) : Prop := i.natAbs.log2 < 4000000
def mulOk (i j : Int) : Prop := (-(2 ^ 64) < i ∧ i < 2 ^ 64) ∨ (-(2 ^ 64) < j ∧ j < 2 ^ 64) ∨ (iLn i ∧ iLn j)
def divOk (j : Int) : Prop := j ≠ 0 ∧ j.natAbs.log2 < 9000
def powOk (i j : Int) : Prop := 0 ≤ j ∧ j ≤ 1000000 ∧ i.natAbs < 2 ^ 64
abbrev O1 := Dv → DSt → Option (Dv × DSt)
abbrev O2 := Dv → Dv → DSt → Option (Dv × DSt)
abbrev OA := List Dv → DSt → Option (Dv × DSt)
/-- two intsD -/
def oI (f : Int → Int → D) : O2 := fun x y M => match x, y with
  | .d (.int i), .d (.int j) => some (.d (f i j), M)
  | _, _ => none
def oIg (p : Int → Int → Prop) (f : Int → Int → D) : O2 := fun x y M => match x, y with
  | .d (.int i), .d (.int j) => grd (p i j) (some (.d (f i j), M))
  | _, _ => none
def oAdd (c : Bool) : O2 := fun x y M => match x, y with
  | .d (.int i), .d (.int j) => some (.d (.int (i + j)), M)
  | .d (.str s), .d (.str t) => grd (s.length + t.length ≤ big) (some (.d (.str (s ++ t)), M))
  | .d (.tup xs), .d (.tup ys) => grd (xs ≠ [] ∧ ys ≠ [] ∧ xs.length + ys.length ≤ big) (some (.d (.tup (xs ++ ys)), M))
  | x, y => match lw M x, lw M y with
    | some xs, some ys => grd (xs.length + ys.length ≤ big) (mkL c (xs ++ ys) M)
    | _, _ => none
def oSub : O2 := oI fun i j => .int (i - j)
def oMul : O2 := oIg mulOk fun i j => .int (i * j)
/-- a list so many times -/
def oRep (c : Bool) : O2 := fun x y M => match lw M x, y with
  | some xs, .d (.int k) => grd (-(2 ^ 62) ≤ k ∧ k < 2 ^ 62 ∧ xs.length * k.toNat ≤ big) (mkL c (List.replicate k.toNat xs).flatten M)
  | _, _ => none
/-- ints, or a list so many times -/
def oMulU (c : Bool) : O2 := fun x y M => match x, y with
  | .d (.int i), .d (.int j) => grd (mulOk i j) (some (.d (.int (i * j)), M))
  | x, y => oRep c x y M
def oDiv : O2 := oIg (fun _ j => divOk j) fun i j => .int (i.fdiv j)
def oMod : O2 := oIg (fun _ j => j ≠ 0) fun i j => .int (i.fmod j)
def oPow : O2 := oIg powOk fun i j => .int (i ^ j.toNat)
def oLt : O2 := oI fun i j => .bl (decide (i < j))
def oLe : O2 := oI fun i j => .bl (decide (i ≤ j))
def oGt : O2 := oI fun i j => .bl (decide (j < i))
def oGe : O2 := oI fun i j => .bl (decide (j ≤ i))
def oNeg : O1 := fun x M => match x with
  | .d (.int i) => some (.d (.int (-i)), M)
  | _ => none
/-! == of data -/
mutual
def D.eqv : D → D → Bool
  | .non, .non => true
  | .bl a, .bl b => a == b
  | .bl a, .int j => (if a then 1 else 0) == j
  | .int i, .bl b => i == (if b then 1 else 0)
  | .int i, .int j => i == j
  | .str x, .str y => x == y
  | .lst xs, .lst ys => D.eqvs xs ys
  | .tup xs, .tup ys => D.eqvs xs ys
  | _, _ => false
def D.eqvs : List D → List D → Bool
  | [], [] => true
  | x :: xs, y :: ys => D.eqv x y && D.eqvs xs ys
  | [], _ :: _ => false
  | _ :: _, [] => false
end
/-- flat to the depth n, no classes in it, texts of signs that are such -/
def strFine (s : Str) : Bool := s.cps.all (· < 0x110000)
def D.shp : Nat → D → Bool
  | _, .non => true
  | _, .bl _ => true
  | _, .int _ => true
  | _, .str s => strFine s
  | _, .ty _ => false
  | 0, .lst _ => false
  | 0, .tup _ => false
  | n + 1, .lst xs => xs.all (D.shp n)
  | n + 1, .tup xs => xs.all (D.shp n)
def oEq : O2 := fun x y M => match dv M x, dv M y with
  | some a, some b => grd (a.shp 9 = true ∧ b.shp 9 = true) (some (.d (.bl (D.eqv a b)), M))
  | _, _ => none
def oNe : O2 := fun x y M => match dv M x, dv M y with
  | some a, some b => grd (a.shp 9 = true ∧ b.shp 9 = true) (some (.d (.bl (!D.eqv a b)), M))
  | _, _ => none
def isNon : Dv → Bool
  | .d .non => true
  | _ => false
def oIsN : O1 := fun x M => some (.d (.bl (isNon x)), M)
def oNotN : O1 := fun x M => some (.d (.bl (!isNon x)), M)
/-- flat things: None, truths, intsD, texts -/
def D.flat : D → Bool
  | .non => true
  | .bl _ => true
  | .int _ => true
  | .str _ => true
  | _ => false
def oIn (neg : Bool) : O2 := fun x y M => match x, sv M y with
  | .d a, some ys => grd (a.flat = true ∧ ys.all D.flat = true) (some (.d (.bl (xor neg (ys.any fun b => D.eqv b a))), M))
  | _, _ => none
/-- the place that an int means -/
def ixD (n : Nat) (i : Int) : Option Nat := if 0 ≤ i then (if i < n then some i.toNat else none) else if -(n : Int) ≤ i then some (i + n).toNat else none
def oIx : O2 := fun x y M => match sv M x, y with
  | some xs, .d (.int i) => match ixD xs.length i with
    | some k => match xs[k]? with
      | some z => some (.d z, M)
      | none => none
    | none => none
  | none, .d (.int i) => match x with
    | .d (.str s) => grd (s.length ≤ big) (match ixD s.cps.toList.length i with
      | some k => match s.cps.toList[k]? with
        | some z => some (.d (.str ⟨#[z]⟩), M)
        | none => none
      | none => none)
    | _ => none
  | _, _ => none
def sIxD (n d : Nat) : Option Int → Nat
  | none => d
  | some v => if v < 0 then (v + (n : Int)).toNat else min v.toNat n
def cutD (xs : List D) (lo hi : Option Int) : List D := (xs.drop (sIxD xs.length 0 lo)).take (sIxD xs.length xs.length hi - sIxD xs.length 0 lo)
abbrev DO := DEnv → DSt → Option (Option Int × DSt)
def pNone : DO := fun _ M => some (none, M)
def pSome (a : DE) : DO := fun ρ M => match a ρ M with
  | some (.d (.int i), M1) => some (some i, M1)
  | _ => none
def eSl (f : Dv → Option Int → Option Int → DSt → Option (Dv × DSt)) (a : DE) (lo hi : DO) : DE := fun ρ M => match a ρ M with
  | some (x, M1) => match lo ρ M1 with
    | some (l, M2) => match hi ρ M2 with
      | some (h, M3) => f x l h M3
      | none => none
    | none => none
  | none => none
def slL (c : Bool) : Dv → Option Int → Option Int → DSt → Option (Dv × DSt) := fun x l h M => match lv M x with
  | some xs => mkL c (cutD xs l h) M
  | none => none
def slT : Dv → Option Int → Option Int → DSt → Option (Dv × DSt) := fun x l h M => match x with
  | .d (.tup xs) => some (.d (.tup (cutD xs l h)), M)
  | _ => none

/-- a slice of a list or a tuple -/
def slU (c : Bool) : Dv → Option Int → Option Int → DSt → Option (Dv × DSt) := fun x l h M => match x with
  | .d (.tup xs) => some (.d (.tup (cutD xs l h)), M)
  | x => slL c x l h M

/-! ### built-ins -/
def intsD : List D → Option (List Int)
  | [] => some []
  | .int i :: r => (intsD r).map (i :: ·)
  | _ :: _ => none
def blsD : List D → Option (List Bool)
  | [] => some []
  | .bl b :: r => (blsD r).map (b :: ·)
  | _ :: _ => none
def oAbs : OA := fun vs M => match vs with
  | [.d (.int i)] => some (.d (.int (if i < 0 then -i else i)), M)
  | _ => none
def oLen : OA := fun vs M => match vs with
  | [.d (.str s)] => grd (s.length ≤ big) (some (.d (.int s.length), M))
  | [v] => match sv M v with
    | some xs => some (.d (.int xs.length), M)
    | none => none
  | _ => none
def oMax2 : OA := fun vs M => match vs with
  | [.d (.int i), .d (.int j)] => some (.d (.int (if j > i then j else i)), M)
  | _ => none
def oMin2 : OA := fun vs M => match vs with
  | [.d (.int i), .d (.int j)] => some (.d (.int (if j < i then j else i)), M)
  | _ => none
def oSum : OA := fun vs M => match vs with
  | [v] => match lv M v with
    | some xs => match intsD xs with
      | some ns => some (.d (.int ns.sum), M)
      | none => none
    | none => none
  | _ => none
def oAll : OA := fun vs M => match vs with
  | [v] => match lv M v with
    | some xs => match blsD xs with
      | some bs => some (.d (.bl (bs.all id)), M)
      | none => none
    | none => none
  | _ => none
def oAny : OA := fun vs M => match vs with
  | [v] => match lv M v with
    | some xs => match blsD xs with
      | some bs => some (.d (.bl (bs.any id)), M)
      | none => none
    | none => none
  | _ => none
def oInt : OA := fun vs M => match vs with
  | [.d (.int i)] => some (.d (.int i), M)
  | [.d (.bl b)] => some (.d (.int (if b then 1 else 0)), M)
  | _ => none
/-- list(xs) -/
def oList (c : Bool) : OA := fun vs M => match vs with
  | [v] => match sv M v with
    | some xs => mkL c xs M
    | none => none
  | _ => none
/-- intsD from a on -/
def rng (a : Int) (n : Nat) : List D := (List.range n).map fun (k : Nat) => .int (a + (k : Int))
/-- list(range(n)), list(range(a, b)) -/
def oListR1 (c : Bool) : OA := fun vs M => match vs with
  | [.d (.int j)] => grd (-1000000 ≤ j ∧ j ≤ 1000000) (mkL c (rng 0 j.toNat) M)
  | _ => none
def oListR2 (c : Bool) : OA := fun vs M => match vs with
  | [.d (.int i), .d (.int j)] => grd (-1000000 ≤ i ∧ i ≤ 1000000 ∧ -1000000 ≤ j ∧ j ≤ 1000000) (mkL c (rng i (j - i).toNat) M)
  | _ => none
/-- the built-in class that a value has -/
def D.tyN : D → String
  | .non => "NoneType"
  | .bl _ => "bool"
  | .int _ => "int"
  | .str _ => "str"
  | .lst _ => "list"
  | .tup _ => "tuple"
  | .ty _ => "type"
def subTy (a b : String) : Bool := a == b || (a == "bool" && b == "int")
/-- isinstance(x, T), T a built-in class -/
def oIsi (T : String) : OA := fun vs M => match vs with
  | [v, .d (.ty n)] => if n = T then match dv M v with
    | some (.ty _) => none
    | some x => some (.d (.bl (subTy x.tyN T)), M)
    | none => none
    else none
  | _ => none
/-- sorted(xs) of ints -/
def oSorted (c : Bool) : OA := fun vs M => match vs with
  | [v] => match lv M v with
    | some xs => match intsD xs with
      | some ns => mkL c ((ns.mergeSort (fun a b => decide (a ≤ b))).map D.int) M
      | none => none
    | none => none
  | _ => none
/-- xs[::-1] -/
def oRev (c : Bool) : O1 := fun v M => match lv M v with
  | some xs => mkL c xs.reverse M
  | none => none

/-! ### methods of lists -/
def setC (M : DSt) (n : Nat) (xs : List D) : DSt := M.set n (some xs)
def mAppend : Dv → List Dv → DSt → Option (Dv × DSt) := fun v as M => match v, as with
  | .c n, [.d x] => match (M[n]?).join with
    | some xs => grd (xs.length < big) (some (.d .non, setC M n (xs ++ [x])))
    | none => none
  | _, _ => none
def mPop : Dv → List Dv → DSt → Option (Dv × DSt) := fun v as M => match v, as with
  | .c n, [] => match (M[n]?).join with
    | some xs => match xs[xs.length - 1]? with
      | some y => some (.d y, setC M n xs.dropLast)
      | none => none
    | none => none
  | .c n, [.d (.int i)] => match (M[n]?).join with
    | some xs => match ixD xs.length i with
      | some k => match xs[k]? with
        | some y => grd (-(2 ^ 62) ≤ i ∧ i < 2 ^ 62) (some (.d y, setC M n (xs.eraseIdx k)))
        | none => none
      | none => none
    | none => none
  | _, _ => none
def mClear : Dv → List Dv → DSt → Option (Dv × DSt) := fun v as M => match v, as with
  | .c n, [] => match (M[n]?).join with
    | some _ => some (.d .non, setC M n [])
    | none => none
  | _, _ => none
def mInsert : Dv → List Dv → DSt → Option (Dv × DSt) := fun v as M => match v, as with
  | .c n, [.d (.int i), .d y] => match (M[n]?).join with
    | some xs => grd (xs.length < big ∧ 0 ≤ i ∧ i < 2 ^ 62) (some (.d .non, setC M n (xs.take i.toNat ++ [y] ++ xs.drop i.toNat)))
    | none => none
  | _, _ => none
def eM (f : Dv → List Dv → DSt → Option (Dv × DSt)) (a : DE) (as : DA) : DE := fun ρ M => match a ρ M with
  | some (x, M1) => match as ρ M1 with
    | some (xs, M2) => f x xs M2
    | none => none
  | none => none

/-! ### targets -/
inductive Tgt where
  | name (i : Nat) | tup (ts : List Tgt)
mutual
def Tgt.put : Tgt → Dv → DEnv → Option DEnv
  | .name i, v, ρ => some (ρ.set i (some v))
  | .tup ts, .d (.tup xs), ρ => if xs.length = ts.length then Tgt.puts ts xs ρ else none
  | .tup ts, .d (.lst xs), ρ => if xs.length = ts.length then Tgt.puts ts xs ρ else none
  | .tup _, _, _ => none
def Tgt.puts : List Tgt → List D → DEnv → Option DEnv
  | [], [], ρ => some ρ
  | t :: ts, x :: xs, ρ => match t.put (.d x) ρ with
    | some ρ1 => Tgt.puts ts xs ρ1
    | none => none
  | _, _, _ => none
end
mutual
def Tgt.slots : Tgt → List Nat
  | .name i => [i]
  | .tup ts => Tgt.slotss ts
def Tgt.slotss : List Tgt → List Nat
  | [] => []
  | t :: ts => t.slots ++ Tgt.slotss ts
end
/-- slots forgotten -/
def wipeD (ρ : DEnv) : List Nat → DEnv
  | [] => ρ
  | v :: vs => (wipeD ρ vs).set v none

/-! ### what is walked -/
/-- the walked cells stand as they stood -/
def stand (src : List Nat) (M M' : DSt) : Prop := ∀ n ∈ src, M'[n]? = M[n]?
def cellsOf : Dv → List Nat
  | .c n => [n]
  | _ => []
def iL (a : DE) : DI := fun ρ M => match a ρ M with
  | some (x, M1) => match lv M1 x with
    | some xs => some (xs, cellsOf x, M1)
    | none => none
  | none => none
def iT (a : DE) : DI := fun ρ M => match a ρ M with
  | some (.d (.tup xs), M1) => some (xs, [], M1)
  | _ => none
/-- a list or a tuple -/
def iS (a : DE) : DI := fun ρ M => match a ρ M with
  | some (.d (.tup xs), M1) => some (xs, [], M1)
  | some (x, M1) => match lv M1 x with
    | some xs => some (xs, cellsOf x, M1)
    | none => none
  | none => none
def iR1 (a : DA) : DI := fun ρ M => match a ρ M with
  | some ([.d (.int j)], M1) => grd (-(2 ^ 62) ≤ j ∧ j < 2 ^ 62) (some (rng 0 j.toNat, [], M1))
  | _ => none
def iR2 (a : DA) : DI := fun ρ M => match a ρ M with
  | some ([.d (.int i), .d (.int j)], M1) => grd (-(2 ^ 62) ≤ i ∧ i < 2 ^ 62 ∧ -(2 ^ 62) ≤ j ∧ j < 2 ^ 62) (some (rng i (j - i).toNat, [], M1))
  | _ => none
def enumD (k : Nat) : List D → List D
  | [] => []
  | x :: xs => .tup [.int (k : Int), x] :: enumD (k + 1) xs
def iEn (a : DA) : DI := fun ρ M => match a ρ M with
  | some ([x], M1) => match lv M1 x with
    | some xs => some (enumD 0 xs, cellsOf x, M1)
    | none => none
  | _ => none
def zipD : List D → List D → List D
  | x :: xs, y :: ys => .tup [x, y] :: zipD xs ys
  | _, _ => []
def iZ (a : DA) : DI := fun ρ M => match a ρ M with
  | some ([x, y], M1) => match lv M1 x, lv M1 y with
    | some xs, some ys => some (zipD xs ys, cellsOf x ++ cellsOf y, M1)
    | _, _ => none
  | _ => none

/-! ### comprehensions -/
/-- chk: the walked cells stand as they stood, ahead of every turn and at the end -/
def compL {α : Type} (chk : DSt → Prop) (step : α → DSt → Option (Option D × DSt)) : List α → DSt → Option (List D × DSt)
  | [], M => grd (chk M) (some ([], M))
  | x :: xs, M => grd (chk M) (match step x M with
    | some (o, M1) => match compL chk step xs M1 with
      | some (ys, M2) => match o with
        | some y => some (y :: ys, M2)
        | none => some (ys, M2)
      | none => none
    | none => none)
def compStep (tg : Tgt) (t : DT) (el : DE) (ρ : DEnv) (x : D) (M : DSt) : Option (Option D × DSt) :=
  match tg.put (.d x) ρ with
    | some ρ1 => match t ρ1 M with
      | some (true, M1) => match el ρ1 M1 with
        | some (.d y, M2) => some (some y, M2)
        | _ => none
      | some (false, M1) => some (none, M1)
      | none => none
    | none => none
def eComp (c : Bool) (it : DI) (tg : Tgt) (t : DT) (el : DE) (own : List Nat) : DE := fun ρ M => match it ρ M with
  | some (xs, src, M1) => grd (xs.length ≤ big) (match compL (stand src M1) (compStep tg t el (wipeD ρ own)) xs M1 with
    | some (ys, M2) => mkL c ys M2
    | none => none)
  | none => none

/-! ### statements -/
def dPass : DS := fun ρ M => some (.nx ρ M)
def dSeq (s t : DS) : DS := fun ρ M => match s ρ M with
  | some (.nx ρ1 M1) => t ρ1 M1
  | o => o
def dAsg (tg : Tgt) (a : DE) : DS := fun ρ M => match a ρ M with
  | some (v, M1) => match tg.put v ρ with
    | some ρ1 => some (.nx ρ1 M1)
    | none => none
  | none => none
/-- a, b = e, f -/
def dPar (i j : Nat) (a b : DE) : DS := fun ρ M => match a ρ M with
  | some (x, M1) => match b ρ M1 with
    | some (y, M2) => some (.nx ((ρ.set i (some x)).set j (some y)) M2)
    | none => none
  | none => none
def dAug (i : Nat) (f : O2) (a : DE) : DS := fun ρ M => match ρ[i]? with
  | some (some x) => match a ρ M with
    | some (y, M1) => match f x y M1 with
      | some (z, M2) => some (.nx (ρ.set i (some z)) M2)
      | none => none
    | none => none
  | _ => none
/-- o[i] = e -/
def dPut (o i e : DE) : DS := fun ρ M => match e ρ M with
  | some (.d x, M1) => match o ρ M1 with
    | some (.c n, M2) => match i ρ M2 with
      | some (.d (.int k), M3) => match (M3[n]?).join with
        | some xs => match ixD xs.length k with
          | some j => some (.nx ρ (setC M3 n (xs.set j x)))
          | none => none
        | none => none
      | _ => none
    | _ => none
  | _ => none
def dExpr (a : DE) : DS := fun ρ M => match a ρ M with
  | some (_, M1) => some (.nx ρ M1)
  | none => none
def dRet (a : DE) : DS := fun ρ M => match a ρ M with
  | some (v, M1) => some (.rt v M1)
  | none => none
def dRetN : DS := fun _ M => some (.rt (.d .non) M)
def dIf (t : DT) (a b : DS) : DS := fun ρ M => match t ρ M with
  | some (true, M1) => a ρ M1
  | some (false, M1) => b ρ M1
  | none => none
def dBreak : DS := fun ρ M => some (.bk ρ M)
def dCont : DS := fun ρ M => some (.ct ρ M)
def dNever : DS := fun _ _ => none
/-- slots forgotten behind a statement -/
def wipeO (vs : List Nat) : Out → Out
  | .nx ρ M => .nx (wipeD ρ vs) M
  | .bk ρ M => .bk (wipeD ρ vs) M
  | .ct ρ M => .ct (wipeD ρ vs) M
  | .rt v M => .rt v M
def dWipe (vs : List Nat) (s : DS) : DS := fun ρ M => match s ρ M with
  | some o => some (wipeO vs o)
  | none => none
/-- slots forgotten ahead of a block -/
def dPre (vs : List Nat) (s : DS) : DS := fun ρ M => s (wipeD ρ vs) M
def forL {α : Type} (chk : DSt → Prop) (step : α → DEnv → DSt → Option Out) : List α → DEnv → DSt → Option Out
  | [], ρ, M => grd (chk M) (some (.nx ρ M))
  | x :: xs, ρ, M => grd (chk M) (match step x ρ M with
    | some (.nx ρ1 M1) => forL chk step xs ρ1 M1
    | some (.ct ρ1 M1) => forL chk step xs ρ1 M1
    | some (.bk ρ1 M1) => some (.nx ρ1 M1)
    | some (.rt v M1) => some (.rt v M1)
    | none => none)
def forStep (tg : Tgt) (s : DS) (x : D) (ρ : DEnv) (M : DSt) : Option Out := match tg.put (.d x) ρ with
  | some ρ1 => s ρ1 M
  | none => none
def dFor (it : DI) (tg : Tgt) (s : DS) : DS := fun ρ M => match it ρ M with
  | some (xs, src, M1) => forL (stand src M1) (forStep tg s) xs ρ M1
  | none => none
def whileL (t : DT) (s : DS) : Nat → DEnv → DSt → Option Out
  | 0, _, _ => none
  | n + 1, ρ, M => match t ρ M with
    | some (true, M1) => match s ρ M1 with
      | some (.nx ρ1 M2) => whileL t s n ρ1 M2
      | some (.ct ρ1 M2) => whileL t s n ρ1 M2
      | some (.bk ρ1 M2) => some (.nx ρ1 M2)
      | some (.rt v M2) => some (.rt v M2)
      | none => none
    | some (false, M1) => some (.nx ρ M1)
    | none => none
open Classical in
def dWhile (t : DT) (s : DS) : DS := fun ρ M => if h : ∃ o n, whileL t s n ρ M = some o then some h.choose else none
theorem whileL_mono {t : DT} {s : DS} : ∀ {n : Nat} {ρ : DEnv} {M : DSt} {o : Out}, whileL t s n ρ M = some o → whileL t s (n + 1) ρ M = some o
  | 0, _, _, _, h => by cases h
  | n + 1, ρ, M, o, h => by
    unfold whileL at h ⊢
    cases e : t ρ M with
    | none => simp only [e] at h; cases h
    | some p =>
      obtain ⟨b, M1⟩ := p
      simp only [e] at h ⊢
      cases b with
      | false => exact h
      | true =>
        simp only at h ⊢
        cases e2 : s ρ M1 with
        | none => simp only [e2] at h; cases h
        | some q =>
          simp only [e2] at h ⊢
          cases q with
          | nx ρ1 M2 => exact whileL_mono h
          | ct ρ1 M2 => exact whileL_mono h
          | bk ρ1 M2 => exact h
          | rt v M2 => exact h
theorem whileL_le {t : DT} {s : DS} {n m : Nat} {ρ : DEnv} {M : DSt} {o : Out} (h : whileL t s n ρ M = some o) (l : n ≤ m) : whileL t s m ρ M = some o := by
  induction l with
  | refl => exact h
  | step _ ih => exact whileL_mono ih
theorem dWhile_of {t : DT} {s : DS} {n : Nat} {ρ : DEnv} {M : DSt} {o : Out} (h : whileL t s n ρ M = some o) : dWhile t s ρ M = some o := by
  have hx : ∃ o n, whileL t s n ρ M = some o := ⟨o, n, h⟩
  unfold dWhile
  rw [dif_pos hx]
  obtain ⟨m, hm⟩ := hx.choose_spec
  have a := whileL_le hm (Nat.le_max_left m n)
  have b := whileL_le h (Nat.le_max_right m n)
  rw [a] at b
  exact b
theorem dWhile_some {t : DT} {s : DS} {ρ : DEnv} {M : DSt} {o : Out} (h : dWhile t s ρ M = some o) : ∃ n, whileL t s n ρ M = some o := by
  unfold dWhile at h
  split at h
  · rename_i hx
    cases h
    exact hx.choose_spec
  · cases h
/-- one turn -/
theorem dWhile_eq (t : DT) (s : DS) (ρ : DEnv) (M : DSt) : dWhile t s ρ M = match t ρ M with
    | some (true, M1) => match s ρ M1 with
      | some (.nx ρ1 M2) => dWhile t s ρ1 M2
      | some (.ct ρ1 M2) => dWhile t s ρ1 M2
      | some (.bk ρ1 M2) => some (.nx ρ1 M2)
      | some (.rt v M2) => some (.rt v M2)
      | none => none
    | some (false, M1) => some (.nx ρ M1)
    | none => none := by
  have key : ∀ o, dWhile t s ρ M = some o ↔ (match t ρ M with
    | some (true, M1) => match s ρ M1 with
      | some (.nx ρ1 M2) => dWhile t s ρ1 M2
      | some (.ct ρ1 M2) => dWhile t s ρ1 M2
      | some (.bk ρ1 M2) => some (.nx ρ1 M2)
      | some (.rt v M2) => some (.rt v M2)
      | none => none
    | some (false, M1) => some (.nx ρ M1)
    | none => none) = some o := by
    intro o
    constructor
    · intro h
      obtain ⟨n, hn⟩ := dWhile_some h
      cases n with
      | zero => cases hn
      | succ n =>
        unfold whileL at hn
        cases e : t ρ M with
        | none => simp only [e] at hn; cases hn
        | some p =>
          obtain ⟨b, M1⟩ := p
          simp only [e] at hn
          cases b with
          | false => exact hn
          | true =>
            simp only at hn ⊢
            cases e2 : s ρ M1 with
            | none => simp only [e2] at hn; cases hn
            | some q =>
              simp only [e2] at hn
              cases q with
              | nx ρ1 M2 => exact dWhile_of hn
              | ct ρ1 M2 => exact dWhile_of hn
              | bk ρ1 M2 => exact hn
              | rt v M2 => exact hn
    · intro h
      cases e : t ρ M with
      | none => simp only [e] at h; cases h
      | some p =>
        obtain ⟨b, M1⟩ := p
        simp only [e] at h
        cases b with
        | false => exact dWhile_of (n := 1) (by unfold whileL; simp only [e]; exact h)
        | true =>
          simp only at h
          cases e2 : s ρ M1 with
          | none => simp only [e2] at h; cases h
          | some q =>
            simp only [e2] at h
            cases q with
            | nx ρ1 M2 =>
              obtain ⟨n, hn⟩ := dWhile_some h
              exact dWhile_of (n := n + 1) (by unfold whileL; simp only [e, e2]; exact hn)
            | ct ρ1 M2 =>
              obtain ⟨n, hn⟩ := dWhile_some h
              exact dWhile_of (n := n + 1) (by unfold whileL; simp only [e, e2]; exact hn)
            | bk ρ1 M2 => exact dWhile_of (n := 1) (by unfold whileL; simp only [e, e2]; exact h)
            | rt v M2 => exact dWhile_of (n := 1) (by unfold whileL; simp only [e, e2]; exact h)
  apply Option.ext
  exact key

/-! ### defs -/
def startD (n : Nat) (as : List Dv) : DEnv := as.map some ++ List.replicate (n - as.length) none
/-- behind a def: its own cells are gone, but one that it hands back -/
def fin (b : Nat) (v : Dv) (M : DSt) : Option (Dv × DSt) := match v with
  | .c n => if n < b then some (.c n, M.take b) else match (M[n]?).join with
    | some xs => some (.c b, M.take b ++ [some xs])
    | none => none
  | .o _ _ _ => none
  | v => some (v, M.take b)
def fnD (n : Nat) (s : DS) : DF := fun as M => match s (startD n as) M with
  | some (.rt v M1) => fin M.length v M1
  | some (.nx _ M1) => fin M.length (.d .non) M1
  | _ => none
def eCall (f : DF) (as : DA) : DE := eA f as
end
end Rw
end PRwSem
section PRwSem2
set_option autoImplicit false
set_option linter.all false
/-! RwSem2: further constructs of the pure reading. -/
namespace Rw
noncomputable section
/-- a def that calls itself, to a depth -/
def recD (F : DF → DF) : Nat → DF
  | 0 => fun _ _ => none
  | n + 1 => F (recD F n)
/-- how many turns range(i, j, c) has -/
def szC (i j c : Int) : Nat := (if c > 0 then (if i < j then (j - i - 1) / c + 1 else 0) else (if i > j then (i - j - 1) / (-c) + 1 else 0)).toNat
def rngC (i c : Int) (n : Nat) : List D := (List.range n).map fun (k : Nat) => .int (i + (k : Int) * c)
def iR3 (a : DA) : DI := fun ρ M => match a ρ M with
  | some ([.d (.int i), .d (.int j), .d (.int c)], M1) => grd (c ≠ 0 ∧ -1000000 ≤ c ∧ c ≤ 1000000 ∧ -1000000000 ≤ i ∧ i ≤ 1000000000 ∧ -1000000000 ≤ j ∧ j ≤ 1000000000) (some (rngC i c (szC i j c), [], M1))
  | _ => none
def maxZ : List Int → Int
  | [] => 0
  | [x] => x
  | x :: y :: r => max x (maxZ (y :: r))
def minZ : List Int → Int
  | [] => 0
  | [x] => x
  | x :: y :: r => min x (minZ (y :: r))
def oMax1 : OA := fun vs M => match vs with
  | [v] => match lv M v with
    | some xs => match intsD xs with
      | some ns => grd (0 < ns.length) (some (.d (.int (maxZ ns)), M))
      | none => none
    | none => none
  | _ => none
def oMin1 : OA := fun vs M => match vs with
  | [v] => match lv M v with
    | some xs => match intsD xs with
      | some ns => grd (0 < ns.length) (some (.d (.int (minZ ns)), M))
      | none => none
    | none => none
  | _ => none
def mReverse : Dv → List Dv → DSt → Option (Dv × DSt) := fun v as M => match v, as with
  | .c n, [] => match (M[n]?).join with
    | some xs => some (.d .non, setC M n xs.reverse)
    | none => none
  | _, _ => none
/-- o[i] op= e -/
def dAugS (f : O2) (o i e : DE) : DS := fun ρ M => match o ρ M with
  | some (.c n, M1) => match i ρ M1 with
    | some (.d (.int k), M2) => match (M2[n]?).join with
      | some xs => match ixD xs.length k with
        | some j => match xs[j]? with
          | some x => match e ρ M2 with
            | some (y, M3) => match f (.d x) y M3 with
              | some (.d z, M4) => match (M4[n]?).join with
                | some ys => if ys.length = xs.length then some (.nx ρ (setC M4 n (ys.set j z))) else none
                | none => none
              | _ => none
            | none => none
          | none => none
        | none => none
      | none => none
    | _ => none
  | _ => none
/-- <= of two tuples of two ints -/
def oLeT : O2 := fun x y M => match x, y with
  | .d (.tup [.int a, .int b]), .d (.tup [.int c, .int d]) => some (.d (.bl (if a = c then decide (b ≤ d) else decide (a ≤ c))), M)
  | _, _ => none
end
end Rw
end PRwSem2
section PRwSim
set_option Elab.async false
set_option linter.all false
set_option maxRecDepth 100000
set_option maxHeartbeats 2000000
/-! RwSim: the pure reading is kept by the layer's readings. -/
namespace Rw
open PySem L2
open Evl (Ex)

/-! ### values and data -/
/-- the class of this name -/
def ClsK (K : PySem.W.Frag) (c : String) (cls : Value) : Prop := PySem.W.nsIn K mainGlobals (Str.ofString c) = some (some cls)
/-- a caught exception of the class cls, at a -/
def ExK (cls : Value) (a : Addr) : HO := .ext fun g => ∃ (ob : Obj) (fl : Array Value), g.get? a = some ob ∧ Zc cls none ob ∧ ob.data = .fields fl
def tyNs : List String := ["bool", "int", "str", "list", "tuple"]
mutual
inductive Rv (K : PySem.W.Frag) (G : Hp) : V → D → Prop
  | non : Rv K G .non .non
  | bl (b : Bool) : Rv K G (.bl b) (.bl b)
  | int (i : Int) : Rv K G (.int i) (.int i)
  | str (x : Str) : Rv K G (.str x) (.str x)
  | ty (n : String) (h : n ∈ tyNs) : Rv K G (.ty n) (.ty n)
  | exc {a : Addr} {C : Value} {n : String} : G a = some (ExK C a) → ClsK K n C → n ∉ tyNs → Rv K G (.ref a) (.ty n)
  | lst {a : Addr} {xs : List V} {ds : List D} : G a = some (.lst xs) → Rvs K G xs ds → Rv K G (.ref a) (.lst ds)
  | tup {a : Addr} {xs : List V} {ds : List D} : SqT K G a xs → Rvs K G xs ds → Rv K G (.ref a) (.tup ds)
inductive Rvs (K : PySem.W.Frag) (G : Hp) : List V → List D → Prop
  | nil : Rvs K G [] []
  | cons {v : V} {vs : List V} {d : D} {ds : List D} : Rv K G v d → Rvs K G vs ds → Rvs K G (v :: vs) (d :: ds)
end
section
variable {K : PySem.W.Frag} {G G' : Hp}
theorem Rv.mono (e : Ex G G') {v : V} {d : D} (h : Rv K G v d) : Rv K G' v d :=
  Rv.rec (motive_1 := fun v d _ => Rv K G' v d) (motive_2 := fun vs ds _ => Rvs K G' vs ds) .non .bl .int .str .ty (fun h c o => .exc (e _ _ h) c o) (fun h _ ih => .lst (e _ _ h) ih) (fun h _ ih => .tup (Evl.ex_t e h) ih) .nil (fun _ _ a b => .cons a b) h
theorem Rvs.mono (e : Ex G G') : ∀ {vs : List V} {ds : List D}, Rvs K G vs ds → Rvs K G' vs ds
  | _, _, .nil => .nil
  | _, _, .cons h r => .cons (h.mono e) (r.mono e)
theorem Rvs.length : ∀ {vs : List V} {ds : List D}, Rvs K G vs ds → vs.length = ds.length
  | _, _, .nil => rfl
  | _, _, .cons _ r => by simp [r.length]
theorem Rvs.get : ∀ {vs : List V} {ds : List D} {i : Nat} {d : D}, Rvs K G vs ds → ds[i]? = some d → ∃ v, vs[i]? = some v ∧ Rv K G v d
  | _, _, _, _, .nil, e => by simp at e
  | _, _, 0, _, .cons h _, e => by simp at e; subst e; exact ⟨_, rfl, h⟩
  | _, _, i + 1, d, .cons _ r, e => by
    obtain ⟨u, h1, h2⟩ := Rvs.get (i := i) (d := d) r (by simpa using e)
    exact ⟨u, by simpa using h1, h2⟩
theorem Rvs.get' : ∀ {vs : List V} {ds : List D} {i : Nat} {v : V}, Rvs K G vs ds → vs[i]? = some v → ∃ d, ds[i]? = some d ∧ Rv K G v d
  | _, _, _, _, .nil, e => by simp at e
  | _, _, 0, _, .cons h _, e => by simp at e; subst e; exact ⟨_, rfl, h⟩
  | _, _, i + 1, v, .cons _ r, e => by
    obtain ⟨u, h1, h2⟩ := Rvs.get' (i := i) (v := v) r (by simpa using e)
    exact ⟨u, by simpa using h1, h2⟩
theorem Rvs.append : ∀ {xs ys : List V} {ds es : List D}, Rvs K G xs ds → Rvs K G ys es → Rvs K G (xs ++ ys) (ds ++ es)
  | _, _, _, _, .nil, s => s
  | _, _, _, _, .cons h r, s => .cons h (r.append s)
theorem Rvs.take : ∀ {xs : List V} {ds : List D} (n : Nat), Rvs K G xs ds → Rvs K G (xs.take n) (ds.take n)
  | _, _, 0, _ => .nil
  | _, _, _ + 1, .nil => .nil
  | _, _, n + 1, .cons h r => .cons h (r.take n)
theorem Rvs.drop : ∀ {xs : List V} {ds : List D} (n : Nat), Rvs K G xs ds → Rvs K G (xs.drop n) (ds.drop n)
  | _, _, 0, r => r
  | _, _, _ + 1, .nil => .nil
  | _, _, n + 1, .cons _ r => r.drop n
theorem Rvs.set {v : V} {d : D} (h : Rv K G v d) : ∀ {xs : List V} {ds : List D} (i : Nat), Rvs K G xs ds → Rvs K G (xs.set i v) (ds.set i d)
  | _, _, _, .nil => .nil
  | _, _, 0, .cons _ r => .cons h r
  | _, _, i + 1, .cons q r => .cons q (Rvs.set h i r)
theorem Rvs.eraseIdx : ∀ {xs : List V} {ds : List D} (i : Nat), Rvs K G xs ds → Rvs K G (xs.eraseIdx i) (ds.eraseIdx i)
  | _, _, _, .nil => .nil
  | _, _, 0, .cons _ r => r
  | _, _, i + 1, .cons q r => .cons q (Rvs.eraseIdx i r)
theorem Rvs.dropLast {xs : List V} {ds : List D} (h : Rvs K G xs ds) : Rvs K G xs.dropLast ds.dropLast := by
  rw [List.dropLast_eq_take, List.dropLast_eq_take, h.length]
  exact h.take _
theorem Rvs.rep {xs : List V} {ds : List D} (h : Rvs K G xs ds) : ∀ k : Nat, Rvs K G (List.replicate k xs).flatten (List.replicate k ds).flatten
  | 0 => .nil
  | k + 1 => by
    rw [List.replicate_succ, List.replicate_succ, List.flatten_cons, List.flatten_cons]
    exact h.append (h.rep k)
theorem Rvs.ints_of : ∀ {xs : List V} {ds : List D} {ns : List Int}, Rvs K G xs ds → intsD ds = some ns → xs = ns.map V.int
  | _, _, _, .nil, e => by simp [intsD] at e; subst e; rfl
  | _, _, ns, .cons h r, e => by
    rename_i v vs d ds
    cases d <;> simp only [intsD] at e <;> try (cases e)
    rename_i i
    cases e2 : intsD ds with
    | none => rw [e2] at e; cases e
    | some ms =>
      rw [e2] at e
      cases e
      cases h
      rw [Rvs.ints_of r e2]
      rfl
theorem Rvs.bls_of : ∀ {xs : List V} {ds : List D} {ns : List Bool}, Rvs K G xs ds → blsD ds = some ns → xs = ns.map V.bl
  | _, _, _, .nil, e => by simp [blsD] at e; subst e; rfl
  | _, _, ns, .cons h r, e => by
    rename_i v vs d ds
    cases d <;> simp only [blsD] at e <;> try (cases e)
    rename_i i
    cases e2 : blsD ds with
    | none => rw [e2] at e; cases e
    | some ms =>
      rw [e2] at e
      cases e
      cases h
      rw [Rvs.bls_of r e2]
      rfl
theorem Rvs.of_ints : ∀ ns : List Int, Rvs K G (ns.map V.int) (ns.map D.int)
  | [] => .nil
  | n :: r => .cons (.int n) (Rvs.of_ints r)
end

/-! ### the state -/
/-- what is not this code's to change: f, apart from its cells; z, cells among them -/
structure Fz where
  f : Hp
  z : Hp
def Fz.up (F : Fz) (p : Addr) (o : HO) : Fz := ⟨upd F.f p o, F.z⟩
/-- κ: where the cells stand; G: what never changes any more; F: what is not this code's to change -/
structure Sm (K : PySem.W.Frag) (F : Fz) (κ : List Addr) (G : Hp) (M : DSt) (H : Hp) : Prop where
  ex : Ex G H
  fx : Ex F.f H
  zx : Ex F.z H
  dj : ∀ a o, F.f a = some o → G a = none
  zj : ∀ a o, F.z a = some o → G a = none
  fd : ∀ a o, F.f a = some o → F.z a = none
  fk : ∀ a ∈ κ, F.f a = none
  zk : ∀ (n : Nat) (a : Addr) (ds : List D), κ[n]? = some a → M[n]? = some (some ds) → F.z a = none
  len : κ.length = M.length
  nd : κ.Nodup
  th : ∀ a ∈ κ, ∃ xs, H a = some (.lst xs)
  cel : ∀ (n : Nat) (ds : List D), M[n]? = some (some ds) → ∃ a xs, κ[n]? = some a ∧ G a = none ∧ H a = some (.lst xs) ∧ Rvs K G xs ds
/-- an instance of the class of this name that never changes -/
def InsG (K : PySem.W.Frag) (G : Hp) (a : Addr) (c : String) (kvs : List (Str × V)) : Prop := ∃ C dx, G a = some (.ins C dx kvs) ∧ ClsK K c (.ref C)
def FvR (K : PySem.W.Frag) (κ : List Addr) (G : Hp) (u : V) : Fv → Prop
  | .d x => Rv K G u x
  | .c n => ∃ a, u = .ref a ∧ κ[n]? = some a
inductive FvsR (K : PySem.W.Frag) (κ : List Addr) (G : Hp) : List (Str × V) → List Str → List Fv → Prop
  | nil : FvsR K κ G [] [] []
  | cons {s : Str} {u : V} {g : Fv} {kvs : List (Str × V)} {ns : List Str} {gs : List Fv} : FvR K κ G u g → FvsR K κ G kvs ns gs → FvsR K κ G ((s, u) :: kvs) (s :: ns) (g :: gs)
def GvR (K : PySem.W.Frag) (κ : List Addr) (G : Hp) (u : V) : Gv → Prop
  | .f x => FvR K κ G u x
  | .k c ns fs => ∃ a kvs, u = .ref a ∧ InsG K G a c kvs ∧ FvsR K κ G kvs ns fs
inductive GvsR (K : PySem.W.Frag) (κ : List Addr) (G : Hp) : List (Str × V) → List Str → List Gv → Prop
  | nil : GvsR K κ G [] [] []
  | cons {s : Str} {u : V} {g : Gv} {kvs : List (Str × V)} {ns : List Str} {gs : List Gv} : GvR K κ G u g → GvsR K κ G kvs ns gs → GvsR K κ G ((s, u) :: kvs) (s :: ns) (g :: gs)
def Rx (K : PySem.W.Frag) (κ : List Addr) (G : Hp) (u : V) : Dv → Prop
  | .d x => Rv K G u x
  | .c n => ∃ a, u = .ref a ∧ κ[n]? = some a
  | .r ds => ∃ a xs, u = .ref a ∧ SqL K G a xs ∧ Rvs K G xs ds
  | .o c ns gs => ∃ a kvs, u = .ref a ∧ InsG K G a c kvs ∧ GvsR K κ G kvs ns gs
inductive Rxs (K : PySem.W.Frag) (κ : List Addr) (G : Hp) : List V → List Dv → Prop
  | nil : Rxs K κ G [] []
  | cons {v : V} {vs : List V} {d : Dv} {ds : List Dv} : Rx K κ G v d → Rxs K κ G vs ds → Rxs K κ G (v :: vs) (d :: ds)
structure Se (K : PySem.W.Frag) (κ : List Addr) (G : Hp) (σ : L2.St) (ρ : DEnv) : Prop where
  len : σ.length = ρ.length
  at_ : ∀ (i : Nat) (x : Dv), ρ[i]? = some (some x) → ∃ v, σ[i]? = some (some v) ∧ Rx K κ G v x
structure Le (κ : List Addr) (G : Hp) (κ' : List Addr) (G' : Hp) : Prop where
  pre : κ <+: κ'
  ex : Ex G G'
theorem Le.refl (κ : List Addr) (G : Hp) : Le κ G κ G := ⟨List.prefix_refl _, Ex.refl _⟩
theorem Le.trans {κ κ1 κ2 : List Addr} {G G1 G2 : Hp} (a : Le κ G κ1 G1) (b : Le κ1 G1 κ2 G2) : Le κ G κ2 G2 := ⟨a.pre.trans b.pre, a.ex.trans b.ex⟩
section
variable {K : PySem.W.Frag} {F : Fz} {κ κ' : List Addr} {G G' : Hp} {M M' : DSt} {H H' : Hp}
theorem Le.at_ {n : Nat} {a : Addr} (l : Le κ G κ' G') (h : κ[n]? = some a) : κ'[n]? = some a := by
  obtain ⟨t, rfl⟩ := l.pre
  have := (List.getElem?_eq_some_iff.mp h).1
  rw [List.getElem?_append_left this]
  exact h
theorem InsG.mono (e : Ex G G') {a : Addr} {c : String} {kvs : List (Str × V)} (h : InsG K G a c kvs) : InsG K G' a c kvs := let ⟨C, dx, h1, h2⟩ := h; ⟨C, dx, e _ _ h1, h2⟩
theorem FvR.mono (l : Le κ G κ' G') : ∀ {u : V} {x : Fv}, FvR K κ G u x → FvR K κ' G' u x
  | _, .d _, h => Rv.mono l.ex h
  | _, .c _, ⟨a, e, h⟩ => ⟨a, e, l.at_ h⟩
theorem FvsR.mono (l : Le κ G κ' G') {kvs : List (Str × V)} {ns : List Str} {fs : List Fv} (h : FvsR K κ G kvs ns fs) : FvsR K κ' G' kvs ns fs := by
  induction h with
  | nil => exact .nil
  | cons a _ ih => exact .cons (a.mono l) ih
theorem GvR.mono (l : Le κ G κ' G') : ∀ {u : V} {x : Gv}, GvR K κ G u x → GvR K κ' G' u x
  | _, .f _, h => FvR.mono l h
  | _, .k _ _ _, ⟨a, kvs, e, h, r⟩ => ⟨a, kvs, e, h.mono l.ex, r.mono l⟩
theorem GvsR.mono (l : Le κ G κ' G') {kvs : List (Str × V)} {ns : List Str} {fs : List Gv} (h : GvsR K κ G kvs ns fs) : GvsR K κ' G' kvs ns fs := by
  induction h with
  | nil => exact .nil
  | cons a _ ih => exact .cons (a.mono l) ih
theorem Rx.mono (l : Le κ G κ' G') : ∀ {u : V} {x : Dv}, Rx K κ G u x → Rx K κ' G' u x
  | _, .d _, h => Rv.mono l.ex h
  | _, .c _, ⟨a, e, h⟩ => ⟨a, e, l.at_ h⟩
  | _, .r _, ⟨a, xs, e, h, r⟩ => ⟨a, xs, e, Evl.ex_l l.ex h, r.mono l.ex⟩
  | _, .o _ _ _, ⟨a, kvs, e, h, r⟩ => ⟨a, kvs, e, h.mono l.ex, r.mono l⟩
section back
variable {G0 : Hp}
theorem pre_same {n : Nat} {a0 a : Addr} (hp : κ <+: κ') (h0 : κ[n]? = some a0) (h : κ'[n]? = some a) : κ[n]? = some a := by
  obtain ⟨t, rfl⟩ := hp
  have := (List.getElem?_eq_some_iff.mp h0).1
  rw [List.getElem?_append_left this] at h
  exact h
theorem FvR.back (hp : κ <+: κ') : ∀ {x : Fv} {u0 u : V}, FvR K κ G0 u0 x → FvR K κ' G u x → FvR K κ G u x
  | .d _, _, _, _, h => h
  | .c _, _, _, ⟨_, _, e0⟩, ⟨a, e, h⟩ => ⟨a, e, pre_same hp e0 h⟩
theorem FvsR.back (hp : κ <+: κ') : ∀ {kvs0 kvs : List (Str × V)} {ns : List Str} {fs : List Fv}, FvsR K κ G0 kvs0 ns fs → FvsR K κ' G kvs ns fs → FvsR K κ G kvs ns fs
  | _, _, _, _, .nil, .nil => .nil
  | _, _, _, _, .cons a0 r0, .cons a r => .cons (a0.back hp a) (FvsR.back hp r0 r)
theorem GvR.back (hp : κ <+: κ') : ∀ {x : Gv} {u0 u : V}, GvR K κ G0 u0 x → GvR K κ' G u x → GvR K κ G u x
  | .f _, _, _, h0, h => FvR.back hp h0 h
  | .k _ _ _, _, _, ⟨_, _, _, _, r0⟩, ⟨a, kvs, e, h, r⟩ => ⟨a, kvs, e, h, FvsR.back hp r0 r⟩
theorem GvsR.back (hp : κ <+: κ') : ∀ {kvs0 kvs : List (Str × V)} {ns : List Str} {fs : List Gv}, GvsR K κ G0 kvs0 ns fs → GvsR K κ' G kvs ns fs → GvsR K κ G kvs ns fs
  | _, _, _, _, .nil, .nil => .nil
  | _, _, _, _, .cons a0 r0, .cons a r => .cons (GvR.back hp a0 a) (GvsR.back hp r0 r)
end back
theorem Rxs.mono (l : Le κ G κ' G') : ∀ {us : List V} {xs : List Dv}, Rxs K κ G us xs → Rxs K κ' G' us xs
  | _, _, .nil => .nil
  | _, _, .cons h r => .cons (h.mono l) (r.mono l)
theorem Rxs.length : ∀ {us : List V} {xs : List Dv}, Rxs K κ G us xs → us.length = xs.length
  | _, _, .nil => rfl
  | _, _, .cons _ r => by simp [r.length]
theorem Se.mono {σ : L2.St} {ρ : DEnv} (l : Le κ G κ' G') (h : Se K κ G σ ρ) : Se K κ' G' σ ρ := ⟨h.len, fun i x e => let ⟨v, a, b⟩ := h.at_ i x e; ⟨v, a, b.mono l⟩⟩
theorem Se.set {σ : L2.St} {ρ : DEnv} {u : V} {x : Dv} (h : Se K κ G σ ρ) (r : Rx K κ G u x) (i : Nat) : Se K κ G (σ.set i (some u)) (ρ.set i (some x)) := by
  refine ⟨by simp [h.len], fun j y e => ?_⟩
  by_cases hj : i = j
  · subst hj
    by_cases hi : i < ρ.length
    · rw [List.getElem?_set_self hi] at e
      cases e
      exact ⟨u, List.getElem?_set_self (by rw [h.len]; exact hi), r⟩
    · rw [List.getElem?_eq_none (by simpa using hi)] at e
      cases e
  · rw [List.getElem?_set_ne hj] at e
    obtain ⟨v, a, b⟩ := h.at_ j y e
    exact ⟨v, by rw [List.getElem?_set_ne hj]; exact a, b⟩
theorem Se.unset {σ : L2.St} {ρ : DEnv} (h : Se K κ G σ ρ) (i : Nat) : Se K κ G σ (ρ.set i none) := by
  refine ⟨by simp [h.len], fun j y e => ?_⟩
  by_cases hj : i = j
  · subst hj
    by_cases hi : i < ρ.length
    · rw [List.getElem?_set_self hi] at e
      cases e
    · rw [List.getElem?_eq_none (by simpa using hi)] at e
      cases e
  · rw [List.getElem?_set_ne hj] at e
    exact h.at_ j y e
theorem Se.wipe {σ : L2.St} {ρ : DEnv} (h : Se K κ G σ ρ) : ∀ vs : List Nat, Se K κ G σ (wipeD ρ vs)
  | [] => h
  | v :: vs => (h.wipe vs).unset v
/-- both sides forgotten -/
theorem Se.wipe2 {σ : L2.St} {ρ : DEnv} (h : Se K κ G σ ρ) : ∀ vs : List Nat, Se K κ G (L2.wipe σ vs) (wipeD ρ vs)
  | [] => h
  | v :: vs => by
    have h1 := h.wipe2 vs
    refine ⟨by simp [L2.wipe, wipeD, h1.len], fun j y e => ?_⟩
    unfold wipeD at e
    by_cases hj : v = j
    · subst hj
      by_cases hi : v < (wipeD ρ vs).length
      · rw [List.getElem?_set_self hi] at e
        cases e
      · rw [List.getElem?_eq_none (by simpa using hi)] at e
        cases e
    · rw [List.getElem?_set_ne hj] at e
      obtain ⟨v', a, b⟩ := h1.at_ j y e
      exact ⟨v', by unfold L2.wipe; rw [List.getElem?_set_ne hj]; exact a, b⟩
/-- the list that a value is -/
theorem cell_at (S : Sm K F κ G M H) {n : Nat} {ds : List D} {a : Addr} (h : (M[n]?).join = some ds) (ha : κ[n]? = some a) : ∃ xs, G a = none ∧ F.f a = none ∧ H a = some (.lst xs) ∧ Rvs K G xs ds := by
  cases e : M[n]? with
  | none => rw [e] at h; cases h
  | some o =>
    rw [e] at h
    cases o with
    | none => cases h
    | some ds' =>
      cases h
      obtain ⟨a', xs, e1, e2, e4, e5⟩ := S.cel n _ e
      rw [ha] at e1
      cases e1
      exact ⟨xs, e2, S.fk a (List.mem_of_getElem? ha), e4, e5⟩
theorem lw_at (S : Sm K F κ G M H) {u : V} {x : Dv} {ds : List D} (r : Rx K κ G u x) (h : lw M x = some ds) : ∃ a xs, u = .ref a ∧ H a = some (.lst xs) ∧ Rvs K G xs ds := by
  cases x with
  | d y =>
    cases y <;> simp only [lw] at h <;> try (cases h)
    cases r with
    | lst e1 e2 => exact ⟨_, _, rfl, S.ex _ _ e1, e2⟩
  | c n =>
    obtain ⟨a, rfl, ha⟩ := r
    obtain ⟨xs, _, _, e3, e4⟩ := cell_at S h ha
    exact ⟨a, xs, rfl, e3, e4⟩
  | r ys => cases h
  | o c ns gs => cases h
theorem lv_at (S : Sm K F κ G M H) {u : V} {x : Dv} {ds : List D} (r : Rx K κ G u x) (h : lv M x = some ds) : ∃ a xs, u = .ref a ∧ SqL K H a xs ∧ Rvs K G xs ds := by
  cases x with
  | d y =>
    cases y <;> simp only [lv] at h <;> try (cases h)
    cases r with
    | lst e1 e2 => exact ⟨_, _, rfl, .of (S.ex _ _ e1), e2⟩
  | c n =>
    obtain ⟨a, rfl, ha⟩ := r
    obtain ⟨xs, _, _, e3, e4⟩ := cell_at S h ha
    exact ⟨a, xs, rfl, .of e3, e4⟩
  | r ys =>
    cases h
    obtain ⟨a, xs, e, q, p⟩ := r
    exact ⟨a, xs, e, Evl.ex_l S.ex q, p⟩
  | o c ns gs => cases h
theorem sv_at (S : Sm K F κ G M H) {u : V} {x : Dv} {ds : List D} (r : Rx K κ G u x) (h : sv M x = some ds) : ∃ a xs, u = .ref a ∧ (SqL K H a xs ∨ SqT K H a xs) ∧ Rvs K G xs ds := by
  have other : lv M x = some ds → ∃ a xs, u = .ref a ∧ (SqL K H a xs ∨ SqT K H a xs) ∧ Rvs K G xs ds := fun h => by
    obtain ⟨a, xs, e, q, p⟩ := lv_at S r h
    exact ⟨a, xs, e, .inl q, p⟩
  cases x with
  | d y =>
    cases y with
    | tup zs =>
      simp only [sv] at h
      cases h
      cases r with
      | tup e1 e2 => exact ⟨_, _, rfl, .inr (Evl.ex_t S.ex e1), e2⟩
    | _ => exact other h
  | c n => exact other h
  | r ys => exact other h
  | o c ns gs => exact other h
/-! ### the store's steps -/
theorem Sm.zn (S : Sm K F κ G M H) {n : Nat} {ds : List D} {a : Addr} (h : (M[n]?).join = some ds) (ha : κ[n]? = some a) : F.z a = none := by
  cases e : M[n]? with
  | none => rw [e] at h; cases h
  | some o =>
    rw [e] at h
    cases o with
    | none => cases h
    | some ds' => exact S.zk n a ds' ha e
theorem Sm.fresh (S : Sm K F κ G M H) {p : Addr} (hp : H p = none) : G p = none ∧ F.f p = none ∧ p ∉ κ :=
  ⟨Evl.fresh_back S.ex hp, Evl.fresh_back S.fx hp, fun h => by obtain ⟨o, e⟩ := S.th p h; rw [hp] at e; cases e⟩
theorem Sm.freshZ (S : Sm K F κ G M H) {p : Addr} (hp : H p = none) : F.z p = none := Evl.fresh_back S.zx hp
theorem upd_some {H : Hp} {p : Addr} {o : HO} {a : Addr} {u : HO} (h : H p = none) (e : H a = some u) : upd H p o a = some u := by
  rw [upd_ne (ne_of_none e h)]
  exact e
theorem Sm.newG (S : Sm K F κ G M H) {p : Addr} (o : HO) (hp : H p = none) : Sm K F κ (upd G p o) M (upd H p o) := by
  obtain ⟨g, f, _⟩ := S.fresh hp
  have z := S.freshZ hp
  refine ⟨fun a u e => ?_, fun a u e => upd_some hp (S.fx a u e), fun a u e => upd_some hp (S.zx a u e), fun a u e => by rw [upd_ne (ne_of_none e f)]; exact S.dj a u e, fun a u e => by rw [upd_ne (ne_of_none e z)]; exact S.zj a u e, S.fd, S.fk, S.zk, S.len, S.nd, fun a h => let ⟨u, e⟩ := S.th a h; ⟨u, upd_some hp e⟩, fun n ds e => ?_⟩
  · by_cases ha : a = p
    · subst ha
      rw [upd_same] at e ⊢
      exact e
    · rw [upd_ne ha] at e ⊢
      exact S.ex a u e
  · obtain ⟨a, xs, e1, e2, e4, e5⟩ := S.cel n ds e
    refine ⟨a, xs, e1, ?_, upd_some hp e4, e5.mono (Ex.new g)⟩
    rw [upd_ne (ne_of_none e4 hp)]
    exact e2
theorem Le.newG {p : Addr} {o : HO} (h : G p = none) : Le κ G κ (upd G p o) := ⟨List.prefix_refl _, Ex.new h⟩
/-- the last cell of a longer list -/
theorem at_last {α : Type} {l : List α} {x y : α} {n m : Nat} (hl : l.length = m) (h : (l ++ [x])[n]? = some y) : (n < m ∧ l[n]? = some y) ∨ (n = m ∧ x = y) := by
  by_cases hn : n < l.length
  · rw [List.getElem?_append_left hn] at h
    exact .inl ⟨by omega, h⟩
  · rw [List.getElem?_append_right (by omega)] at h
    cases q : n - l.length with
    | zero => rw [q] at h; simp at h; exact .inr ⟨by omega, h⟩
    | succ k => rw [q] at h; simp at h
theorem last_at {α : Type} {l : List α} {x : α} {m : Nat} (hl : l.length = m) : (l ++ [x])[m]? = some x := by
  subst hl
  simp
/-- one cell more, at p: a list, or (none) dead -/
theorem Sm.cell (S : Sm K F κ G M H) {p : Addr} {o : Option (List D)} (nk : p ∉ κ) (g : G p = none) (f : F.f p = none) (z : F.z p = none) {xs : List V} (hp : H p = some (.lst xs)) (r : ∀ ds, o = some ds → Rvs K G xs ds) : Sm K F (κ ++ [p]) G (M ++ [o]) H := by
  refine ⟨S.ex, S.fx, S.zx, S.dj, S.zj, S.fd, fun a h => ?_, fun n a ds h1 h2 => ?_, by simp [S.len], ?_, fun a h => ?_, fun n es e => ?_⟩
  · rcases List.mem_append.mp h with h | h
    · exact S.fk a h
    · simp at h
      subst h
      exact f
  · rcases at_last S.len h1 with ⟨l1, h1⟩ | ⟨l1, h1⟩
    · rcases at_last rfl h2 with ⟨_, h2⟩ | ⟨l2, h2⟩
      · exact S.zk n a ds h1 h2
      · omega
    · subst h1
      exact z
  · rw [List.nodup_append]
    exact ⟨S.nd, by simp, fun a ha b hb e => by simp at hb; subst hb; subst e; exact nk ha⟩
  · rcases List.mem_append.mp h with h | h
    · exact S.th a h
    · simp at h
      subst h
      exact ⟨_, hp⟩
  · rcases at_last rfl e with ⟨l1, e⟩ | ⟨l1, e⟩
    · obtain ⟨a, ys, e1, e2⟩ := S.cel n es e
      exact ⟨a, ys, by rw [List.getElem?_append_left (by rw [S.len]; exact l1)]; exact e1, e2⟩
    · exact ⟨p, xs, by rw [l1]; exact last_at S.len, g, hp, r es e⟩
/-- a new object -/
theorem Sm.laid (S : Sm K F κ G M H) {p : Addr} (o : HO) (hp : H p = none) : Sm K F κ G M (upd H p o) := by
  refine ⟨fun a u e => upd_some hp (S.ex a u e), fun a u e => upd_some hp (S.fx a u e), fun a u e => upd_some hp (S.zx a u e), S.dj, S.zj, S.fd, S.fk, S.zk, S.len, S.nd, fun a h => let ⟨u, e⟩ := S.th a h; ⟨u, upd_some hp e⟩, fun n ds e => ?_⟩
  obtain ⟨a, xs, e1, e2, e4, e5⟩ := S.cel n ds e
  exact ⟨a, xs, e1, e2, upd_some hp e4, e5⟩
theorem Sm.newC (S : Sm K F κ G M H) {p : Addr} {xs : List V} {ds : List D} (hp : H p = none) (r : Rvs K G xs ds) : Sm K F (κ ++ [p]) G (M ++ [some ds]) (upd H p (.lst xs)) := by
  obtain ⟨g, f, nk⟩ := S.fresh hp
  exact (S.laid (.lst xs) hp).cell nk g f (S.freshZ hp) upd_same fun es e => by cases e; exact r
theorem Le.newC {p : Addr} : Le κ G (κ ++ [p]) G := ⟨List.prefix_append _ _, Ex.refl _⟩
/-- a new list, as data or as a cell -/
theorem Sm.new (S : Sm K F κ G M H) {c : Bool} {p : Addr} {xs : List V} {ds : List D} {z : Dv} (hp : H p = none) (r : Rvs K G xs ds) (h : mkL c ds M = some (z, M')) :
    ∃ κ' G', Le κ G κ' G' ∧ Sm K F κ' G' M' (upd H p (.lst xs)) ∧ Rx K κ' G' (.ref p) z := by
  obtain ⟨g, f, nk⟩ := S.fresh hp
  cases c with
  | true =>
    cases h
    refine ⟨κ ++ [p], G, Le.newC, S.newC hp r, p, rfl, ?_⟩
    rw [List.getElem?_append_right (by rw [S.len]; exact Nat.le_refl _), S.len, Nat.sub_self]
    rfl
  | false =>
    cases h
    exact ⟨κ, upd G p (.lst xs), Le.newG g, S.newG _ hp, .lst upd_same (r.mono (Ex.new g))⟩
theorem Sm.put (S : Sm K F κ G M H) {n : Nat} {a : Addr} {ys : List V} {ds es : List D} (h : (M[n]?).join = some ds) (ha : κ[n]? = some a) (r : Rvs K G ys es) : Sm K F κ G (setC M n es) (upd H a (.lst ys)) := by
  obtain ⟨xs, e1, e2, e3, e4⟩ := cell_at S h ha
  have ez := S.zn h ha
  have hn : n < M.length := by
    rw [← S.len]
    exact (List.getElem?_eq_some_iff.mp ha).1
  refine ⟨Ex.mut S.ex e1, Ex.mut S.fx e2, Ex.mut S.zx ez, S.dj, S.zj, S.fd, S.fk, fun m b fs h1 h2 => ?_, by simp [setC, S.len], S.nd, fun b hb => ?_, fun m fs e => ?_⟩
  · unfold setC at h2
    by_cases hm : n = m
    · subst hm
      rw [ha] at h1
      cases h1
      exact ez
    · rw [List.getElem?_set_ne hm] at h2
      exact S.zk m b fs h1 h2
  · by_cases z : b = a
    · subst z
      exact ⟨_, upd_same⟩
    · obtain ⟨q, hq⟩ := S.th b hb
      exact ⟨q, by rw [upd_ne z]; exact hq⟩
  · unfold setC at e
    by_cases hm : n = m
    · subst hm
      rw [List.getElem?_set_self hn] at e
      cases e
      exact ⟨a, ys, ha, e1, upd_same, r⟩
    · rw [List.getElem?_set_ne hm] at e
      obtain ⟨b, zs, q1, q2, q4, q5⟩ := S.cel m fs e
      have nb : b ≠ a := fun z => by
        subst z
        obtain ⟨l1, g1⟩ := List.getElem?_eq_some_iff.mp ha
        obtain ⟨l2, g2⟩ := List.getElem?_eq_some_iff.mp q1
        exact hm ((List.getElem_inj S.nd).mp (g1.trans g2.symm))
      exact ⟨b, zs, q1, q2, by rw [upd_ne nb]; exact q4, q5⟩
theorem take_at {α : Type} {l : List α} {b n : Nat} {x : α} (h : (l.take b)[n]? = some x) : n < b ∧ l[n]? = some x := by
  rw [List.getElem?_take] at h
  split at h
  · exact ⟨by assumption, h⟩
  · cases h
theorem Sm.take (S : Sm K F κ G M H) (b : Nat) : Sm K F (κ.take b) G (M.take b) H := by
  refine ⟨S.ex, S.fx, S.zx, S.dj, S.zj, S.fd, fun a h => S.fk a (List.mem_of_mem_take h), fun n a ds h1 h2 => S.zk n a ds (take_at h1).2 (take_at h2).2, by simp [S.len], S.nd.sublist (List.take_sublist _ _), fun a h => S.th a (List.mem_of_mem_take h), fun n ds e => ?_⟩
  obtain ⟨hn, e⟩ := take_at e
  obtain ⟨a, xs, e1, e2⟩ := S.cel n ds e
  exact ⟨a, xs, by rw [List.getElem?_take, if_pos hn]; exact e1, e2⟩
/-- a cell is data from now on -/
theorem Sm.freeze (S : Sm K F κ G M H) {n : Nat} {a : Addr} {ds : List D} (h : (M[n]?).join = some ds) (ha : κ[n]? = some a) :
    ∃ G', Ex G G' ∧ Sm K F κ G' (M.set n none) H ∧ Rv K G' (.ref a) (.lst ds) := by
  obtain ⟨xs, e1, e2, e3, e4⟩ := cell_at S h ha
  have ez := S.zn h ha
  have hn : n < M.length := by
    rw [← S.len]
    exact (List.getElem?_eq_some_iff.mp ha).1
  refine ⟨upd G a (.lst xs), Ex.new e1, ⟨fun b u e => ?_, S.fx, S.zx, fun b u e => by rw [upd_ne (ne_of_none e e2)]; exact S.dj b u e, fun b u e => by rw [upd_ne (ne_of_none e ez)]; exact S.zj b u e, S.fd, S.fk, fun m b fs h1 h2 => ?_, by simp [S.len], S.nd, S.th, fun m fs e => ?_⟩, .lst upd_same (e4.mono (Ex.new e1))⟩
  · by_cases z : b = a
    · subst z
      rw [upd_same] at e
      cases e
      exact e3
    · rw [upd_ne z] at e
      exact S.ex b u e
  · by_cases hm : n = m
    · subst hm
      rw [List.getElem?_set_self hn] at h2
      cases h2
    · rw [List.getElem?_set_ne hm] at h2
      exact S.zk m b fs h1 h2
  · by_cases hm : n = m
    · subst hm
      rw [List.getElem?_set_self hn] at e
      cases e
    · rw [List.getElem?_set_ne hm] at e
      obtain ⟨b, zs, q1, q2, q4, q5⟩ := S.cel m fs e
      have nb : b ≠ a := fun z => by
        subst z
        obtain ⟨l1, g1⟩ := List.getElem?_eq_some_iff.mp ha
        obtain ⟨l2, g2⟩ := List.getElem?_eq_some_iff.mp q1
        exact hm ((List.getElem_inj S.nd).mp (g1.trans g2.symm))
      exact ⟨b, zs, q1, by rw [upd_ne nb]; exact q2, q4, q5.mono (Ex.new e1)⟩
/-! ### a list that is being made stands by itself -/
theorem Sm.frame (S : Sm K F κ G M H) {p : Addr} (hp : H p = none) (xs : List V) : Sm K (F.up p (.lst xs)) κ G M (upd H p (.lst xs)) := by
  obtain ⟨g, f, nk⟩ := S.fresh hp
  have z := S.freshZ hp
  have S1 := S.laid (.lst xs) hp
  refine ⟨S1.ex, fun a u e => ?_, S1.zx, fun a u e => ?_, S1.zj, fun a u e => ?_, fun a h => ?_, S1.zk, S1.len, S1.nd, S1.th, S1.cel⟩
  · show upd H p (.lst xs) a = some u
    by_cases ha : a = p
    · subst ha
      exact e.symm ▸ (show upd H a (.lst xs) a = upd F.f a (.lst xs) a by rw [upd_same, upd_same])
    · rw [upd_ne ha]
      exact S.fx a u (by rw [← upd_ne (H := F.f) ha]; exact e)
  · by_cases ha : a = p
    · subst ha
      exact g
    · exact S.dj a u (by rw [← upd_ne (H := F.f) ha]; exact e)
  · by_cases ha : a = p
    · subst ha
      exact z
    · exact S.fd a u (by rw [← upd_ne (H := F.f) ha]; exact e)
  · show upd F.f p (.lst xs) a = none
    rw [upd_ne (show a ≠ p from fun z => nk (z ▸ h))]
    exact S.fk a h
/-- it grows -/
theorem Sm.grow {p : Addr} {xs : List V} (S : Sm K (F.up p (.lst xs)) κ G M H) (ys : List V) : Sm K (F.up p (.lst ys)) κ G M (upd H p (.lst ys)) := by
  have up1 : (F.up p (.lst xs)).f p = some (.lst xs) := upd_same
  have np : ∀ a ∈ κ, a ≠ p := fun a h z => by
    have q := S.fk a h
    rw [z, up1] at q
    cases q
  have gp : G p = none := S.dj p _ up1
  have zp : F.z p = none := S.fd p _ up1
  have back : ∀ a u, a ≠ p → (F.up p (.lst ys)).f a = some u → (F.up p (.lst xs)).f a = some u := fun a u h e => by
    show upd F.f p (.lst xs) a = some u
    rw [upd_ne h, ← upd_ne (H := F.f) (o := .lst ys) h]
    exact e
  refine ⟨fun a u e => ?_, fun a u e => ?_, fun a u e => ?_, fun a u e => ?_, S.zj, fun a u e => ?_, fun a h => ?_, S.zk, S.len, S.nd, fun a h => let ⟨u, e⟩ := S.th a h; ⟨u, by rw [upd_ne (np a h)]; exact e⟩, fun n ds e => ?_⟩
  · rw [upd_ne (ne_of_none e gp)]
    exact S.ex a u e
  · by_cases ha : a = p
    · subst ha
      rw [upd_same]
      exact (show (F.up a (.lst ys)).f a = some (.lst ys) from upd_same).symm.trans e
    · rw [upd_ne ha]
      exact S.fx a u (back a u ha e)
  · rw [upd_ne (ne_of_none e zp)]
    exact S.zx a u e
  · by_cases ha : a = p
    · subst ha
      exact gp
    · exact S.dj a u (back a u ha e)
  · by_cases ha : a = p
    · subst ha
      exact zp
    · exact S.fd a u (back a u ha e)
  · have q := S.fk a h
    show upd F.f p (.lst ys) a = none
    rw [upd_ne (np a h)]
    rw [show (F.up p (.lst xs)).f a = F.f a from upd_ne (np a h)] at q
    exact q
  · obtain ⟨a, xs, e1, e2, e4, e5⟩ := S.cel n ds e
    exact ⟨a, xs, e1, e2, by rw [upd_ne (np a (List.mem_of_getElem? e1))]; exact e4, e5⟩
/-- it is made -/
theorem Sm.unframe {p : Addr} {o : HO} (S : Sm K (F.up p o) κ G M H) (hF : F.f p = none) : Sm K F κ G M H ∧ p ∉ κ ∧ G p = none ∧ F.z p = none ∧ H p = some o := by
  have up1 : (F.up p o).f p = some o := upd_same
  have np : ∀ a ∈ κ, a ≠ p := fun a h z => by
    have q := S.fk a h
    rw [z, up1] at q
    cases q
  have fw : ∀ a u, F.f a = some u → (F.up p o).f a = some u := fun a u e => by
    show upd F.f p o a = some u
    rw [upd_ne (ne_of_none e hF)]
    exact e
  refine ⟨⟨S.ex, fun a u e => S.fx a u (fw a u e), S.zx, fun a u e => S.dj a u (fw a u e), S.zj, fun a u e => S.fd a u (fw a u e), fun a h => ?_, S.zk, S.len, S.nd, S.th, S.cel⟩, fun h => np p h rfl, S.dj p _ up1, S.fd p _ up1, S.fx p _ up1⟩
  have q := S.fk a h
  rw [show (F.up p o).f a = F.f a from upd_ne (np a h)] at q
  exact q
/-- what stands is data from now on -/
theorem Sm.asG (S : Sm K F κ G M H) {p : Addr} {o : HO} (hp : H p = some o) (nk : p ∉ κ) (g : G p = none) (f : F.f p = none) (z : F.z p = none) : Sm K F κ (upd G p o) M H := by
  refine ⟨fun a u e => ?_, S.fx, S.zx, fun a u e => by rw [upd_ne (ne_of_none e f)]; exact S.dj a u e, fun a u e => by rw [upd_ne (ne_of_none e z)]; exact S.zj a u e, S.fd, S.fk, S.zk, S.len, S.nd, S.th, fun n ds e => ?_⟩
  · by_cases ha : a = p
    · subst ha
      rw [upd_same] at e
      cases e
      exact hp
    · rw [upd_ne ha] at e
      exact S.ex a u e
  · obtain ⟨a, xs, e1, e2, e4, e5⟩ := S.cel n ds e
    exact ⟨a, xs, e1, by rw [upd_ne (show a ≠ p from fun z => nk (z ▸ List.mem_of_getElem? e1))]; exact e2, e4, e5.mono (Ex.new g)⟩
theorem Sm.made {c : Bool} {p : Addr} {xs : List V} {ds : List D} {z : Dv} (S : Sm K (F.up p (.lst xs)) κ G M H) (hF : F.f p = none) (r : Rvs K G xs ds) (h : mkL c ds M = some (z, M')) :
    ∃ κ' G', Le κ G κ' G' ∧ Sm K F κ' G' M' H ∧ Rx K κ' G' (.ref p) z := by
  obtain ⟨S1, nk, gp, zp, hp⟩ := S.unframe hF
  cases c with
  | false =>
    cases h
    exact ⟨κ, upd G p (.lst xs), Le.newG gp, S1.asG hp nk gp hF zp, .lst upd_same (r.mono (Ex.new gp))⟩
  | true =>
    cases h
    exact ⟨κ ++ [p], G, Le.newC, S1.cell nk gp hF zp hp fun es e => (by cases e; exact r), p, rfl, last_at S1.len⟩
end
end Rw
end PRwSim
section PRwSimE
set_option Elab.async false
set_option linter.all false
set_option maxRecDepth 100000
set_option maxHeartbeats 2000000
namespace Rw
open PySem L2 PySem.Spec PyProof.Rows
open Evl (Ex)

/-- behind an expression -/
abbrev PV (K : PySem.W.Frag) (F : Fz) (κ : List Addr) (G : Hp) (Q : VK) (v : Dv) (M' : DSt) : Prop := ∀ κ' G' u H', Le κ G κ' G' → Sm K F κ' G' M' H' → Rx K κ' G' u v → Q u H'
structure SimE (K : PySem.W.Frag) (t : TE) (e : DE) : Prop where
  run : ∀ {F κ G σ ρ M H Q v M'}, Sm K F κ G M H → Se K κ G σ ρ → e ρ M = some (v, M') → PV K F κ G Q v M' → t σ H Q
structure SimT (K : PySem.W.Frag) (t : TT) (e : DT) : Prop where
  run : ∀ {F κ G σ ρ M H b M'} {Q : Bool → Hp → Prop}, Sm K F κ G M H → Se K κ G σ ρ → e ρ M = some (b, M') → (∀ κ' G' H', Le κ G κ' G' → Sm K F κ' G' M' H' → Q b H') → t σ H Q
structure SimA (K : PySem.W.Frag) (t : TA) (e : DA) : Prop where
  run : ∀ {F κ G σ ρ M H vs M'} {Q : List V → Hp → Prop}, Sm K F κ G M H → Se K κ G σ ρ → e ρ M = some (vs, M') → (∀ κ' G' us H', Le κ G κ' G' → Sm K F κ' G' M' H' → Rxs K κ' G' us vs → Q us H') → t σ H Q
def SimR2 (K : PySem.W.Frag) (r : R2) (f : O2) : Prop := ∀ {F κ G M H Q x y z M' u v}, Sm K F κ G M H → Rx K κ G u x → Rx K κ G v y → f x y M = some (z, M') → PV K F κ G Q z M' → r u v H Q
def SimR1 (K : PySem.W.Frag) (r : V → Hp → VK → Prop) (f : O1) : Prop := ∀ {F κ G M H Q x z M' u}, Sm K F κ G M H → Rx K κ G u x → f x M = some (z, M') → PV K F κ G Q z M' → r u H Q
def SimRA (K : PySem.W.Frag) (r : List V → Hp → VK → Prop) (f : OA) : Prop := ∀ {F κ G M H Q xs z M' us}, Sm K F κ G M H → Rxs K κ G us xs → f xs M = some (z, M') → PV K F κ G Q z M' → r us H Q
def SimRM (K : PySem.W.Frag) (T : String) (r : V → List V → Hp → VK → Prop) (f : Dv → List Dv → DSt → Option (Dv × DSt)) : Prop := ∀ {F κ G M H Q x xs z M' u us}, Sm K F κ G M H → Rx K κ G u x → Rxs K κ G us xs → f x xs M = some (z, M') → PV K F κ G Q z M' → r u us H Q
section
variable {K : PySem.W.Frag}
theorem PV.weak {F : Fz} {κ κ1 : List Addr} {G G1 : Hp} {Q : VK} {v : Dv} {M' : DSt} (l : Le κ G κ1 G1) (k : PV K F κ G Q v M') : PV K F κ1 G1 Q v M' := fun κ' G' u H' l' S r => k κ' G' u H' (l.trans l') S r
theorem PV.here {F : Fz} {κ : List Addr} {G : Hp} {Q : VK} {v : Dv} {M' : DSt} {H : Hp} {u : V} (k : PV K F κ G Q v M') (S : Sm K F κ G M' H) (r : Rx K κ G u v) : Q u H := k κ G u H (Le.refl _ _) S r

/-! ### names, constants, operators -/
theorem sim_var (i : Nat) : SimE K (tVar i) (eVar i) := ⟨fun {F κ G σ ρ M H Q v M'} S E h k => by
  unfold eVar at h
  split at h
  · rename_i x e
    cases h
    obtain ⟨u, hu, r⟩ := E.at_ i _ e
    exact ⟨u, hu, k.here S r⟩
  · cases h⟩
theorem sim_c {v : V} {d : D} (hd : ∀ G, Rv K G v d) : SimE K (tC v) (eC d) := ⟨fun {F κ G σ ρ M H Q x M'} S E h k => by
  cases h
  exact k.here S (hd G)⟩
theorem sim_op {r : R2} {f : O2} {ta tb : TE} {a b : DE} (hr : SimR2 K r f) (ha : SimE K ta a) (hb : SimE K tb b) : SimE K (tOp r ta tb) (e2 f a b) := ⟨fun {F κ G σ ρ M H Q z M'} S E h k => by
  unfold e2 at h
  split at h
  · rename_i x M1 e
    split at h
    · rename_i y M2 e2
      refine ha.run S E e fun κ1 G1 u H1 l1 S1 r1 => hb.run S1 (E.mono l1) e2 fun κ2 G2 v H2 l2 S2 r2 => ?_
      exact hr S2 (r1.mono l2) r2 h (k.weak (l1.trans l2))
    · cases h
  · cases h⟩
theorem sim_un {r : V → Hp → VK → Prop} {f : O1} {ta : TE} {a : DE} (hr : SimR1 K r f) (ha : SimE K ta a) : SimE K (tUn r ta) (e1 f a) := ⟨fun {F κ G σ ρ M H Q z M'} S E h k => by
  unfold e1 at h
  split at h
  · rename_i x M1 e
    exact ha.run S E e fun κ1 G1 u H1 l1 S1 r1 => hr S1 r1 h (k.weak l1)
  · cases h⟩
theorem sim_nil : SimA K tNil aNil := ⟨fun {F κ G σ ρ M H vs M' Q} S E h k => by
  cases h
  exact k κ G [] H (Le.refl _ _) S .nil⟩
theorem sim_cons {ta : TE} {a : DE} {tr : TA} {as : DA} (ha : SimE K ta a) (hr : SimA K tr as) : SimA K (tCons ta tr) (aCons a as) := ⟨fun {F κ G σ ρ M H vs M' Q} S E h k => by
  unfold aCons at h
  split at h
  · rename_i x M1 e
    split at h
    · rename_i xs M2 e2
      cases h
      exact ha.run S E e fun κ1 G1 u H1 l1 S1 r1 => hr.run S1 (E.mono l1) e2 fun κ2 G2 us H2 l2 S2 r2 => k κ2 G2 (u :: us) H2 (l1.trans l2) S2 (.cons (r1.mono l2) r2)
    · cases h
  · cases h⟩
theorem sim_cb {r : List V → Hp → VK → Prop} {f : OA} {ta : TA} {a : DA} (hr : SimRA K r f) (ha : SimA K ta a) : SimE K (tCB r ta) (eA f a) := ⟨fun {F κ G σ ρ M H Q z M'} S E h k => by
  unfold eA at h
  split at h
  · rename_i xs M1 e
    exact ha.run S E e fun κ1 G1 us H1 l1 S1 r1 => hr S1 r1 h (k.weak l1)
  · cases h⟩
theorem sim_chain {r r' : R2} {f g : O2} {ta tb tc : TE} {a b c : DE} (hr : SimR2 K r f) (hr' : SimR2 K r' g) (ha : SimE K ta a) (hb : SimE K tb b) (hc : SimE K tc c) : SimE K (tChain r r' ta tb tc) (eChain f g a b c) := ⟨fun {F κ G σ ρ M H Q z M'} S E h k => by
  unfold eChain at h
  split at h
  · rename_i x M1 e
    split at h
    · rename_i y M2 e2
      refine ha.run S E e fun κ1 G1 u H1 l1 S1 r1 => hb.run S1 (E.mono l1) e2 fun κ2 G2 v H2 l2 S2 r2 => ?_
      split at h
      · rename_i M3 e3
        split at h
        · rename_i zz M4 e4
          refine hr S2 (r1.mono l2) r2 e3 fun κ3 G3 w H3 l3 S3 r3 => ⟨true, ?_, ?_⟩
          · cases r3; rfl
          · show (if true = true then _ else _)
            rw [if_pos rfl]
            exact hc.run S3 (((E.mono l1).mono l2).mono l3) e4 fun κ4 G4 w4 H4 l4 S4 r4 => hr' S4 ((r2.mono l3).mono l4) r4 h (k.weak (((l1.trans l2).trans l3).trans l4))
        · cases h
      · rename_i M3 e3
        cases h
        refine hr S2 (r1.mono l2) r2 e3 fun κ3 G3 w H3 l3 S3 r3 => ⟨false, ?_, ?_⟩
        · cases r3; rfl
        · show (if false = true then _ else _)
          rw [if_neg Bool.false_ne_true]
          exact k κ3 G3 (.bl false) H3 ((l1.trans l2).trans l3) S3 (Rv.bl false)
      · cases h
    · cases h
  · cases h⟩

/-! ### tests -/
theorem sim_tB {ta : TE} {a : DE} (ha : SimE K ta a) : SimT K (tB ta) (tVal a) := ⟨fun {F κ G σ ρ M H b M' Q} S E h k => by
  unfold tVal at h
  split at h
  · rename_i c M1 e
    cases h
    refine ha.run S E e fun κ1 G1 u H1 l1 S1 r1 => ⟨b, ?_, k κ1 G1 H1 l1 S1⟩
    cases r1; rfl
  · cases h⟩
theorem sim_tTest {ta : TE} {a : DE} (ha : SimE K ta a) : SimT K (tTest ta) (tVal a) := ⟨fun {F κ G σ ρ M H b M' Q} S E h k => (sim_tB ha).run S E h k⟩
theorem sim_and {t u : TT} {a b : DT} (ha : SimT K t a) (hb : SimT K u b) : SimT K (L2.tAnd t u) (Rw.tAnd a b) := ⟨fun {F κ G σ ρ M H c M' Q} S E h k => by
  unfold Rw.tAnd at h
  split at h
  · rename_i M1 e
    refine ha.run S E e fun κ1 G1 H1 l1 S1 => ?_
    show (if true = true then _ else _)
    rw [if_pos rfl]
    exact hb.run S1 (E.mono l1) h fun κ2 G2 H2 l2 S2 => k κ2 G2 H2 (l1.trans l2) S2
  · rename_i M1 e
    cases h
    refine ha.run S E e fun κ1 G1 H1 l1 S1 => ?_
    show (if false = true then _ else _)
    rw [if_neg Bool.false_ne_true]
    exact k κ1 G1 H1 l1 S1
  · cases h⟩
theorem sim_or {t u : TT} {a b : DT} (ha : SimT K t a) (hb : SimT K u b) : SimT K (L2.tOr t u) (Rw.tOr a b) := ⟨fun {F κ G σ ρ M H c M' Q} S E h k => by
  unfold Rw.tOr at h
  split at h
  · rename_i M1 e
    cases h
    refine ha.run S E e fun κ1 G1 H1 l1 S1 => ?_
    show (if true = true then _ else _)
    rw [if_pos rfl]
    exact k κ1 G1 H1 l1 S1
  · rename_i M1 e
    refine ha.run S E e fun κ1 G1 H1 l1 S1 => ?_
    show (if false = true then _ else _)
    rw [if_neg Bool.false_ne_true]
    exact hb.run S1 (E.mono l1) h fun κ2 G2 H2 l2 S2 => k κ2 G2 H2 (l1.trans l2) S2
  · cases h⟩
theorem sim_not {t : TT} {a : DT} (ha : SimT K t a) : SimT K (L2.tNot t) (Rw.tNot a) := ⟨fun {F κ G σ ρ M H c M' Q} S E h k => by
  unfold Rw.tNot at h
  split at h
  · rename_i b M1 e
    cases h
    exact ha.run S E e k
  · cases h⟩
theorem sim_ifE {t : TT} {c : DT} {ta tb : TE} {a b : DE} (hc : SimT K t c) (ha : SimE K ta a) (hb : SimE K tb b) : SimE K (tIf t ta tb) (eIf c a b) := ⟨fun {F κ G σ ρ M H Q z M'} S E h k => by
  unfold eIf at h
  split at h
  · rename_i M1 e
    refine hc.run S E e fun κ1 G1 H1 l1 S1 => ?_
    show (if true = true then _ else _)
    rw [if_pos rfl]
    exact ha.run S1 (E.mono l1) h (k.weak l1)
  · rename_i M1 e
    refine hc.run S E e fun κ1 G1 H1 l1 S1 => ?_
    show (if false = true then _ else _)
    rw [if_neg Bool.false_ne_true]
    exact hb.run S1 (E.mono l1) h (k.weak l1)
  · cases h⟩
theorem sim_andV {ta tb : TE} {a b : DE} (ha : SimE K ta a) (hb : SimE K tb b) : SimE K (tAndV ta tb) (eAnd a b) := ⟨fun {F κ G σ ρ M H Q z M'} S E h k => by
  unfold eAnd at h
  split at h
  · rename_i M1 e
    refine ha.run S E e fun κ1 G1 u H1 l1 S1 r1 => ⟨true, by cases r1; rfl, ?_⟩
    rw [if_pos rfl]
    exact hb.run S1 (E.mono l1) h (k.weak l1)
  · rename_i M1 e
    cases h
    refine ha.run S E e fun κ1 G1 u H1 l1 S1 r1 => ⟨false, by cases r1; rfl, ?_⟩
    rw [if_neg Bool.false_ne_true]
    exact k κ1 G1 _ H1 l1 S1 (Rv.bl false)
  · cases h⟩
theorem sim_orV {ta tb : TE} {a b : DE} (ha : SimE K ta a) (hb : SimE K tb b) : SimE K (tOrV ta tb) (eOr a b) := ⟨fun {F κ G σ ρ M H Q z M'} S E h k => by
  unfold eOr at h
  split at h
  · rename_i M1 e
    cases h
    refine ha.run S E e fun κ1 G1 u H1 l1 S1 r1 => ⟨true, by cases r1; rfl, ?_⟩
    rw [if_pos rfl]
    exact k κ1 G1 _ H1 l1 S1 (Rv.bl true)
  · rename_i M1 e
    refine ha.run S E e fun κ1 G1 u H1 l1 S1 r1 => ⟨false, by cases r1; rfl, ?_⟩
    rw [if_neg Bool.false_ne_true]
    exact hb.run S1 (E.mono l1) h (k.weak l1)
  · cases h⟩
theorem sim_notV {ta : TE} {a : DE} (ha : SimE K ta a) : SimE K (tNotV ta) (eNot a) := ⟨fun {F κ G σ ρ M H Q z M'} S E h k => by
  unfold eNot at h
  split at h
  · rename_i b M1 e
    cases h
    refine ha.run S E e fun κ1 G1 u H1 l1 S1 r1 => ⟨b, by cases r1; rfl, k κ1 G1 _ H1 l1 S1 (Rv.bl _)⟩
  · cases h⟩

/-! ### operators on values -/
theorem rx_int {κ : List Addr} {G : Hp} {u : V} {i : Int} (r : Rx K κ G u (.d (.int i))) : u = .int i := by cases r; rfl
theorem rx_str {κ : List Addr} {G : Hp} {u : V} {i : Str} (r : Rx K κ G u (.d (.str i))) : u = .str i := by cases r; rfl
theorem rx_bl {κ : List Addr} {G : Hp} {u : V} {i : Bool} (r : Rx K κ G u (.d (.bl i))) : u = .bl i := by cases r; rfl
/-- what an int operation gives: an int or a truth -/
theorem sr_I0 {g : Int → Int → V} {f : Int → Int → D} (hg : ∀ i j G, Rv K G (g i j) (f i j)) : SimR2 K (rI0 g) (oI f) := fun {F κ G M H Q x y z M' u v} S rx ry h k => by
  unfold oI at h
  split at h
  · cases h
    exact ⟨_, _, rx_int rx, rx_int ry, k.here S (hg _ _ _)⟩
  · cases h
theorem sr_I {C : Int → Int → Prop} {p : Int → Int → Prop} {g : Int → Int → V} {f : Int → Int → D} (hc : ∀ i j, p i j → C i j) (hg : ∀ i j G, p i j → Rv K G (g i j) (f i j)) : SimR2 K (rI C g) (oIg p f) := fun {F κ G M H Q x y z M' u v} S rx ry h k => by
  unfold oIg at h
  split at h
  · obtain ⟨hp, h⟩ := grd_some h
    cases h
    exact ⟨_, _, rx_int rx, rx_int ry, hc _ _ hp, k.here S (hg _ _ _ hp)⟩
  · cases h
theorem sr_sub : SimR2 K (rI0 fun i j => .int (i - j)) oSub := sr_I0 fun _ _ _ => .int _
theorem sr_lt : SimR2 K (rI0 fun i j => .bl (decide (i < j))) oLt := sr_I0 fun _ _ _ => .bl _
theorem sr_le : SimR2 K (rI0 fun i j => .bl (decide (i ≤ j))) oLe := sr_I0 fun _ _ _ => .bl _
theorem sr_gt : SimR2 K (rI0 fun i j => .bl (decide (j < i))) oGt := sr_I0 fun _ _ _ => .bl _
theorem sr_ge : SimR2 K (rI0 fun i j => .bl (decide (j ≤ i))) oGe := sr_I0 fun _ _ _ => .bl _
def CMulR (i j : Int) : Prop := IntMulOk i j
theorem op_mulR {X : Cx} : OpR X (binaryOp .Mult) (rI CMulR fun i j => .int (i * j)) := opI fun _ _ _ _ _ _ _ hc q => mul_int q hc
theorem mulOk_ok {i j : Int} (h : mulOk i j) : CMulR i j := by
  rcases h with h | h | ⟨h1, h2⟩
  · exact (show CMul i j from .inl h).ok
  · exact (show CMul i j from .inr h).ok
  · unfold CMulR
    have b : ∀ x : Int, Builtin.Int.intBits x ≤ x.natAbs.log2 + 1 := fun x => by
      unfold Builtin.Int.intBits
      split <;> omega
    have e1 := b i
    have e2 := b j
    unfold iLn at h1 h2
    have e : bitsLine = 134217728 := by decide
    unfold IntMulOk
    intro z
    rw [Bool.and_eq_true] at z
    have z2 := z.2
    unfold Builtin.Int.intTooBig at z2
    have z3 := of_decide_eq_true z2
    rw [e] at z3
    omega
theorem sr_mul : SimR2 K (rI CMulR fun i j => .int (i * j)) oMul := sr_I (fun _ _ h => mulOk_ok h) fun _ _ _ _ => .int _
def CDivR (_ j : Int) : Prop := divOk j
theorem op_fdivR {X : Cx} : OpR X (binaryOp .FloorDiv) (rI CDivR fun i j => .int (i.fdiv j)) := opI fun i j _ _ _ _ _ hc q => floordiv_int hc.1 q (.inl (PyProof.noPylong_of_log2 hc.2))
theorem sr_div : SimR2 K (rI CDivR fun i j => .int (i.fdiv j)) oDiv := sr_I (fun _ _ h => h) fun _ _ _ _ => .int _
theorem sr_mod : SimR2 K (rI (fun _ j => j ≠ 0) fun i j => .int (i.fmod j)) oMod := sr_I (fun _ _ h => h) fun _ _ _ _ => .int _
theorem sr_pow : SimR2 K (rI CPow fun i j => .int (i ^ j.toNat)) oPow := sr_I (fun _ _ h => h) fun _ _ _ _ => .int _
theorem sr_neg : SimR1 K (rU fun i => .int (-i)) oNeg := fun {F κ G M H Q x z M' u} S rx h k => by
  unfold oNeg at h
  split at h
  · cases h
    exact ⟨_, rx_int rx, k.here S (Rv.int _)⟩
  · cases h
theorem sz_big {n : Nat} (h : n ≤ big) : n ≤ sizeLine := Nat.le_trans h (by decide)
theorem sz_big1 {n : Nat} (h : n < big) : n < sizeLine := Nat.lt_of_lt_of_le h (by decide)
/-- a + b: ints, texts, lists -/
def rAddS1 : R2 := fun x y H Q => ∃ i j, x = .str i ∧ y = .str j ∧ i.length + j.length ≤ sizeLine ∧ Q (.str (i ++ j)) H
def rAdd3 (K : PySem.W.Frag) : R2 := fun x y H Q => rI0 (fun i j => .int (i + j)) x y H Q ∨ (rAddS1 x y H Q ∨ (rCatT K x y H Q ∨ rCat x y H Q))
theorem op_add3 {X : Cx} : OpR X (binaryOp .Add) (rAdd3 X.K) := op_add.or (op_add_str.or (op_catT.or op_cat))
theorem sr_add (c : Bool) : SimR2 K (rAdd3 K) (oAdd c) := fun {F κ G M H Q x y z M' u v} S rx ry h k => by
  unfold oAdd at h
  split at h
  · cases h
    exact .inl ⟨_, _, rx_int rx, rx_int ry, k.here S (Rv.int _)⟩
  · obtain ⟨hp, h⟩ := grd_some h
    cases h
    exact .inr (.inl ⟨_, _, rx_str rx, rx_str ry, sz_big hp, k.here S (Rv.str _)⟩)
  · rename_i xs ys
    obtain ⟨⟨n1, n2, hp⟩, h⟩ := grd_some h
    cases h
    cases rx with
    | tup sx vx =>
      rename_i a us
      cases ry with
      | tup sy vy =>
        rename_i b vs
        refine .inr (.inr (.inl ⟨a, b, us, vs, rfl, rfl, Evl.ex_t S.ex sx, Evl.ex_t S.ex sy, ?_, sz_big (by rw [vx.length, vy.length]; exact hp), fun e => ?_, fun _ p hp => ?_⟩))
        · intro e
          subst e
          cases vx
          exact n1 rfl
        · subst e
          cases vy
          exact absurd rfl n2
        · obtain ⟨g, f, nk⟩ := S.fresh hp
          exact k κ (upd G p (.tup (us ++ vs))) _ _ (Le.newG g) (S.newG _ hp) (.tup (.of upd_same) ((vx.append vy).mono (Ex.new g)))
  · split at h
    · rename_i xs ys e1 e2
      obtain ⟨hp, h⟩ := grd_some h
      obtain ⟨a, us, rfl, ha, ra⟩ := lw_at S rx e1
      obtain ⟨b, vs, rfl, hb, rb⟩ := lw_at S ry e2
      refine .inr (.inr (.inr ⟨a, b, us, vs, rfl, rfl, ha, hb, sz_big (by rw [ra.length, rb.length]; exact hp), fun p hp => ?_⟩))
      obtain ⟨κ', G', l, S', r⟩ := S.new hp (ra.append rb) h
      exact k κ' G' _ _ l S' r
    · cases h
theorem sr_rep (c : Bool) : SimR2 K rRep (oRep c) := fun {F κ G M H Q x y z M' u v} S rx ry h k => by
  unfold oRep at h
  split at h
  · rename_i xs kk e1
    obtain ⟨⟨h1, h2, h3⟩, h⟩ := grd_some h
    obtain ⟨a, us, rfl, ha, ra⟩ := lw_at S rx e1
    refine ⟨a, kk, us, rfl, rx_int ry, ha, by omega, by omega, sz_big (by rw [ra.length]; exact h3), fun p hp => ?_⟩
    obtain ⟨κ', G', l, S', r⟩ := S.new hp (ra.rep kk.toNat) h
    exact k κ' G' _ _ l S' r
  · cases h
/-! ### == -/
mutual
def D.toPy : D → PyData
  | .non => .none
  | .bl b => .bool b
  | .int i => .int i
  | .str s => .str s
  | .ty _ => .none
  | .lst xs => .list (D.toPys xs)
  | .tup xs => .tuple (D.toPys xs)
def D.toPys : List D → List PyData
  | [] => []
  | x :: xs => x.toPy :: D.toPys xs
end
end
end Rw
end PRwSimE
section PRwSimF
set_option Elab.async false
set_option linter.all false
set_option maxRecDepth 100000
set_option maxHeartbeats 2000000
namespace Rw
open PySem L2 PySem.Spec PyProof.Rows
open Evl (Ex)
section
variable {K : PySem.W.Frag}
/-! ### == -/
theorem dp_all {G H : Hp} {n : Nat} (ih : ∀ (d : D) (v : V), Rv K G v d → d.shp n = true → Dp K H v d.toPy) : ∀ {vs : List V} {ds : List D}, Rvs K G vs ds → ds.all (D.shp n) = true → DpAll K H vs (D.toPys ds)
  | _, _, .nil, _ => .nil
  | _, _, .cons h r, hs => by
    simp only [List.all_cons, Bool.and_eq_true] at hs
    exact .cons (ih _ _ h hs.1) (dp_all ih r hs.2)
theorem dp_of {G H : Hp} (e : Ex G H) : ∀ (n : Nat) (d : D) (v : V), Rv K G v d → d.shp n = true → Dp K H v d.toPy
  | 0, d, v, h, hs => by
    cases h with
    | non => exact .non
    | bl b => exact .bl b
    | int i => exact .int i
    | str x => exact .str x
    | ty n _ => cases hs
    | exc h c o => cases hs
    | lst h r => cases hs
    | tup h r => cases hs
  | n + 1, d, v, h, hs => by
    cases h with
    | non => exact .non
    | bl b => exact .bl b
    | int i => exact .int i
    | str x => exact .str x
    | ty n _ => cases hs
    | exc h c o => cases hs
    | lst h r => exact .lst (.of (e _ _ h)) (dp_all (fun d v => dp_of e n d v) r hs)
    | tup h r => exact .tup (Evl.ex_t e h) (dp_all (fun d v => dp_of e n d v) r hs)
theorem shp_lay_all {n : Nat} (ih : ∀ d : D, d.shp n = true → d.toPy.canLay0 = true ∧ d.toPy.depth ≤ n) : ∀ ds : List D, ds.all (D.shp n) = true → PyData.canLayAll0 (D.toPys ds) = true ∧ PyData.depthAll (D.toPys ds) ≤ n
  | [], _ => ⟨rfl, Nat.zero_le _⟩
  | d :: ds, hs => by
    simp only [List.all_cons, Bool.and_eq_true] at hs
    obtain ⟨a, b⟩ := ih d hs.1
    obtain ⟨c, e⟩ := shp_lay_all ih ds hs.2
    refine ⟨?_, ?_⟩
    · simp only [D.toPys, PyData.canLayAll0, a, c, Bool.and_self]
    · simp only [D.toPys, PyData.depthAll]
      omega
theorem shp_lay : ∀ (n : Nat) (d : D), d.shp n = true → d.toPy.canLay0 = true ∧ d.toPy.depth ≤ n
  | n, .non, _ => ⟨rfl, by simp [D.toPy, PyData.depth]⟩
  | n, .bl _, _ => ⟨rfl, by simp [D.toPy, PyData.depth]⟩
  | n, .int _, _ => ⟨rfl, by simp [D.toPy, PyData.depth]⟩
  | n, .str s, h => ⟨by
      have h' : strFine s = true := by cases n <;> exact h
      simp only [D.toPy, PyData.canLay0]
      exact h', by simp [D.toPy, PyData.depth]⟩
  | n, .ty _, h => by cases n <;> cases h
  | 0, .lst _, h => by cases h
  | 0, .tup _, h => by cases h
  | n + 1, .lst ds, h => by
    obtain ⟨a, b⟩ := shp_lay_all (fun d => shp_lay n d) ds h
    exact ⟨by simp only [D.toPy, PyData.canLay0]; exact a, by simp only [D.toPy, PyData.depth]; omega⟩
  | n + 1, .tup ds, h => by
    obtain ⟨a, b⟩ := shp_lay_all (fun d => shp_lay n d) ds h
    exact ⟨by simp only [D.toPy, PyData.canLay0]; exact a, by simp only [D.toPy, PyData.depth]; omega⟩
theorem shaped_of {n : Nat} {d : D} (h : d.shp n = true) (hn : n ≤ 64) : SeqAt.shaped d.toPy = true := by
  obtain ⟨a, b⟩ := shp_lay n d h
  unfold SeqAt.shaped
  rw [a, decide_eq_true (Nat.le_trans b hn)]
  rfl
theorem eqvs_of {n : Nat} (ih : ∀ a b : D, a.shp n = true → b.shp n = true → PyData.eqv a.toPy b.toPy = D.eqv a b) : ∀ (as bs : List D), as.all (D.shp n) = true → bs.all (D.shp n) = true → PyData.eqvAll (D.toPys as) (D.toPys bs) = D.eqvs as bs
  | [], [], _, _ => rfl
  | [], _ :: _, _, _ => rfl
  | _ :: _, [], _, _ => rfl
  | a :: as, b :: bs, h1, h2 => by
    simp only [List.all_cons, Bool.and_eq_true] at h1 h2
    simp only [D.toPys, PyData.eqvAll, D.eqvs]
    rw [ih a b h1.1 h2.1, eqvs_of ih as bs h1.2 h2.2]
theorem eqv_of : ∀ (n : Nat) (a b : D), a.shp n = true → b.shp n = true → PyData.eqv a.toPy b.toPy = D.eqv a b
  | 0, a, b, h1, h2 => by
    cases a <;> cases b <;> simp [D.shp] at h1 h2 <;> simp only [D.toPy, PyData.eqv, D.eqv]
  | n + 1, a, b, h1, h2 => by
    cases a <;> cases b <;> first
      | (simp only [D.shp] at h1 h2; simp only [D.toPy, PyData.eqv, D.eqv]; exact eqvs_of (fun a b => eqv_of n a b) _ _ h1 h2)
      | (simp [D.shp] at h1 h2; done)
      | (simp only [D.toPy, PyData.eqv, D.eqv]; done)
theorem dp_dv {F : Fz} {κ : List Addr} {G : Hp} {M : DSt} {H : Hp} (S : Sm K F κ G M H) {u : V} {x : Dv} {d : D} (r : Rx K κ G u x) (h : dv M x = some d) {n : Nat} (hs : d.shp (n + 1) = true) : Dp K H u d.toPy := by
  cases x with
  | d y =>
    cases h
    exact dp_of S.ex _ _ _ r hs
  | c m =>
    obtain ⟨a, rfl, ha⟩ := r
    simp only [dv] at h
    cases e : (M[m]?).join with
    | none => rw [e] at h; cases h
    | some ds =>
      rw [e] at h
      cases h
      obtain ⟨xs, _, _, e3, e4⟩ := cell_at S e ha
      exact .lst (.of e3) (dp_all (fun d v => dp_of S.ex n d v) e4 hs)
  | o _ _ _ => cases h
  | r ys =>
    cases h
    obtain ⟨a, xs, rfl, q, p⟩ := r
    exact .lst (Evl.ex_l S.ex q) (dp_all (fun d v => dp_of S.ex n d v) p hs)
theorem sr_eq : SimR2 K (rEqD K) oEq := fun {F κ G M H Q x y z M' u v} S rx ry h k => by
  unfold oEq at h
  split at h
  · rename_i a b e1 e2
    obtain ⟨⟨h1, h2⟩, h⟩ := grd_some h
    cases h
    refine ⟨a.toPy, b.toPy, dp_dv S rx e1 h1, dp_dv S ry e2 h2, shaped_of h1 (by decide), shaped_of h2 (by decide), ?_⟩
    rw [eqv_of 9 a b h1 h2]
    exact k.here S (Rv.bl _)
  · cases h
theorem sr_ne : SimR2 K (rNeD K) oNe := fun {F κ G M H Q x y z M' u v} S rx ry h k => by
  unfold oNe at h
  split at h
  · rename_i a b e1 e2
    obtain ⟨⟨h1, h2⟩, h⟩ := grd_some h
    cases h
    refine ⟨a.toPy, b.toPy, dp_dv S rx e1 h1, dp_dv S ry e2 h2, shaped_of h1 (by decide), shaped_of h2 (by decide), ?_⟩
    rw [eqv_of 9 a b h1 h2]
    exact k.here S (Rv.bl _)
  · cases h
/-! ### is None, in -/
theorem isNon_of {κ : List Addr} {G : Hp} {u : V} {x : Dv} (r : Rx K κ G u x) : decide (u = .non) = isNon x := by
  cases x with
  | d y => cases r <;> simp [isNon]
  | c n => obtain ⟨a, rfl, _⟩ := r; simp [isNon]
  | r xs => obtain ⟨a, _, rfl, _⟩ := r; simp [isNon]
  | o _ _ _ => obtain ⟨a, _, rfl, _⟩ := r; simp [isNon]
theorem sim_isN {ta : TE} {a : DE} (ha : SimE K ta a) : SimE K (tOp (fun x y H Q => y = .non ∧ Q (.bl (decide (x = .non))) H) ta (tC .non)) (e1 oIsN a) := ⟨fun {F κ G σ ρ M H Q z M'} S E h k => by
  unfold e1 at h
  split at h
  · rename_i x M1 e
    cases h
    refine ha.run S E e fun κ1 G1 u H1 l1 S1 r1 => ⟨rfl, ?_⟩
    rw [isNon_of r1]
    exact k κ1 G1 _ H1 l1 S1 (Rv.bl _)
  · cases h⟩
theorem sim_notN {ta : TE} {a : DE} (ha : SimE K ta a) : SimE K (tOp (fun x y H Q => y = .non ∧ Q (.bl (!decide (x = .non))) H) ta (tC .non)) (e1 oNotN a) := ⟨fun {F κ G σ ρ M H Q z M'} S E h k => by
  unfold e1 at h
  split at h
  · rename_i x M1 e
    cases h
    refine ha.run S E e fun κ1 G1 u H1 l1 S1 r1 => ⟨rfl, ?_⟩
    rw [isNon_of r1]
    exact k κ1 G1 _ H1 l1 S1 (Rv.bl _)
  · cases h⟩
theorem flat_of {G : Hp} {u : V} {x : D} (r : Rv K G u x) (h : x.flat = true) : flatV u = true := by
  cases r <;> first | rfl | cases h
theorem flats_of {G : Hp} : ∀ {us : List V} {xs : List D}, Rvs K G us xs → xs.all D.flat = true → us.all flatV = true
  | _, _, .nil, _ => rfl
  | _, _, .cons a r, h => by
    simp only [List.all_cons, Bool.and_eq_true] at h ⊢
    exact ⟨flat_of a h.1, flats_of r h.2⟩
theorem eqV_of {G : Hp} {u v : V} {x y : D} (r : Rv K G u x) (q : Rv K G v y) (h : x.flat = true) (h' : y.flat = true) : eqV u v = D.eqv x y := by
  cases r <;> first | (cases h; done) | (cases q <;> first | (cases h'; done) | rfl | simp only [eqV, D.eqv])
theorem inV_of {G : Hp} {v : V} {y : D} (q : Rv K G v y) (h' : y.flat = true) : ∀ {us : List V} {xs : List D}, Rvs K G us xs → xs.all D.flat = true → inV v us = xs.any fun b => D.eqv b y
  | _, _, .nil, _ => rfl
  | _, _, .cons a r, h => by
    simp only [List.all_cons, Bool.and_eq_true] at h
    have ih := inV_of q h' r h.2
    unfold inV at ih ⊢
    simp only [List.any_cons, eqV_of a q h.1 h', ih]
theorem sr_in (neg : Bool) : SimR2 K (rIn K neg) (oIn neg) := fun {F κ G M H Q x y z M' u v} S rx ry h k => by
  unfold oIn at h
  split at h
  · rename_i a ys e
    obtain ⟨⟨h1, h2⟩, h⟩ := grd_some h
    cases h
    obtain ⟨p, xs, rfl, hs, r⟩ := sv_at S ry e
    refine ⟨p, xs, rfl, hs, flat_of rx h1, flats_of r h2, ?_⟩
    rw [inV_of rx h1 r h2]
    refine k.here S ?_
    cases neg
    · rw [Bool.false_xor]; exact Rv.bl _
    · rw [Bool.true_xor]; exact Rv.bl _
  · cases h
/-! ### places and slices -/
theorem ixD_eq (n : Nat) (i : Int) : ixD n i = ixN n i := rfl
theorem sr_ix : SimR2 K (rIx K) oIx := fun {F κ G M H Q x y z M' u v} S rx ry h k => by
  unfold oIx at h
  split at h
  · rename_i xs i e
    split at h
    · rename_i j ej
      split at h
      · rename_i w ew
        cases h
        obtain ⟨p, us, rfl, hs, r⟩ := sv_at S rx e
        obtain ⟨w', hw, rw'⟩ := r.get ew
        have ha : atI us i = some w' := by
          unfold atI
          rw [r.length, ← ixD_eq, ej]
          exact hw
        rcases hs with hs | hs
        · exact .inl ⟨p, us, i, w', rfl, rx_int ry, hs, ha, k.here S rw'⟩
        · exact .inr (.inl ⟨p, us, i, w', rfl, rx_int ry, hs, ha, k.here S rw'⟩)
      · cases h
    · cases h
  · rename_i i e
    split at h
    · rename_i s
      obtain ⟨hp, h⟩ := grd_some h
      split at h
      · rename_i j ej
        split at h
        · rename_i w ew
          cases h
          refine .inr (.inr ⟨s, i, w, rx_str rx, rx_int ry, sz_big hp, ?_, k.here S (Rv.str _)⟩)
          unfold atI
          rw [← ixD_eq, ej]
          exact ew
        · cases h
      · cases h
    · cases h
  · cases h
theorem sIx_eq (n d : Nat) (o : Option Int) : sIxD n d o = HT.sIx n d o := by cases o <;> rfl
theorem Rvs.cut {G : Hp} {us : List V} {xs : List D} (r : Rvs K G us xs) (lo hi : Option Int) : Rvs K G (cutV us lo hi) (cutD xs lo hi) := by
  unfold cutV cutD
  rw [← r.length, sIx_eq, sIx_eq]
  exact (r.drop _).take _
structure SimO (K : PySem.W.Frag) (t : TO) (e : DO) : Prop where
  run : ∀ {F κ G σ ρ M H o M'} {Q : Option Int → Hp → Prop}, Sm K F κ G M H → Se K κ G σ ρ → e ρ M = some (o, M') → (∀ κ' G' H', Le κ G κ' G' → Sm K F κ' G' M' H' → Q o H') → t σ H Q
theorem sim_pn : SimO K tNoPart pNone := ⟨fun {F κ G σ ρ M H o M' Q} S E h k => by
  cases h
  exact k κ G H (Le.refl _ _) S⟩
theorem sim_ps {ta : TE} {a : DE} (ha : SimE K ta a) : SimO K (tPart ta) (pSome a) := ⟨fun {F κ G σ ρ M H o M' Q} S E h k => by
  unfold pSome at h
  split at h
  · rename_i i M1 e
    cases h
    exact ha.run S E e fun κ1 G1 u H1 l1 S1 r1 => ⟨i, rx_int r1, k κ1 G1 H1 l1 S1⟩
  · cases h⟩
def SimSl (K : PySem.W.Frag) (r : V → Option Int → Option Int → Hp → VK → Prop) (f : Dv → Option Int → Option Int → DSt → Option (Dv × DSt)) : Prop := ∀ {F κ G M H Q x lo hi z M' u}, Sm K F κ G M H → Rx K κ G u x → f x lo hi M = some (z, M') → PV K F κ G Q z M' → r u lo hi H Q
theorem sim_sl {r : V → Option Int → Option Int → Hp → VK → Prop} {f : Dv → Option Int → Option Int → DSt → Option (Dv × DSt)} {ta : TE} {a : DE} {tl th : TO} {lo hi : DO} (hr : SimSl K r f) (ha : SimE K ta a) (hl : SimO K tl lo) (hh : SimO K th hi) : SimE K (tSl r ta tl th) (eSl f a lo hi) := ⟨fun {F κ G σ ρ M H Q z M'} S E h k => by
  unfold eSl at h
  split at h
  · rename_i x M1 e
    split at h
    · rename_i l M2 e2
      split at h
      · rename_i hh' M3 e3
        refine ha.run S E e fun κ1 G1 u H1 l1 S1 r1 => hl.run S1 (E.mono l1) e2 fun κ2 G2 H2 l2 S2 => hh.run S2 ((E.mono l1).mono l2) e3 fun κ3 G3 H3 l3 S3 => ?_
        exact hr S3 ((r1.mono l2).mono l3) h (k.weak ((l1.trans l2).trans l3))
      · cases h
    · cases h
  · cases h⟩
theorem ss_list (c : Bool) : SimSl K (rSlL K) (slL c) := fun {F κ G M H Q x lo hi z M' u} S rx h k => by
  unfold slL at h
  split at h
  · rename_i xs e
    obtain ⟨a, us, rfl, hs, r⟩ := lv_at S rx e
    refine ⟨a, us, rfl, hs, fun p hp => ?_⟩
    obtain ⟨κ', G', l, S', r'⟩ := S.new hp (r.cut lo hi) h
    exact k κ' G' _ _ l S' r'
  · cases h
theorem cut_whole {xs : List D} {lo hi : Option Int} (h : HT.sIx xs.length 0 lo = 0 ∧ HT.sIx xs.length xs.length hi = xs.length) : cutD xs lo hi = xs := by
  unfold cutD
  rw [sIx_eq, sIx_eq, h.1, h.2]
  simp
theorem ss_tup : SimSl K (rSlA K) slT := fun {F κ G M H Q x lo hi z M' u} S rx h k => by
  unfold slT at h
  split at h
  · rename_i xs
    cases h
    cases rx with
    | tup hs r =>
      rename_i a us
      refine ⟨a, us, rfl, Evl.ex_t S.ex hs, fun w => ?_, fun _ p hp => ?_⟩
      · rw [r.length] at w
        have e := cut_whole w
        exact k.here S (by rw [e]; exact Rv.tup hs r)
      · have g := (S.fresh hp).1
        exact k κ (upd G p (.tup (cutV us lo hi))) _ _ (Le.newG g) (S.newG _ hp) (Rv.tup (.of upd_same) ((r.cut lo hi).mono (Ex.new g)))
  · cases h
/-! ### displays -/
theorem allD_of {κ : List Addr} {G : Hp} : ∀ {us : List V} {vs : List Dv} {xs : List D}, Rxs K κ G us vs → allD vs = some xs → Rvs K G us xs
  | _, _, _, .nil, h => by cases h; exact .nil
  | _, _, xs, .cons r rs, h => by
    rename_i u us v vs
    cases v with
    | d x =>
      simp only [allD] at h
      cases e : allD vs with
      | none => rw [e] at h; cases h
      | some ys =>
        rw [e] at h
        cases h
        exact .cons r (allD_of rs e)
    | c n => cases h
    | r n => cases h
    | o _ _ _ => cases h
theorem sim_tup {ta : TA} {a : DA} (ha : SimA K ta a) : SimE K (tTup ta) (eTup a) := ⟨fun {F κ G σ ρ M H Q z M'} S E h k => by
  unfold eTup eA at h
  split at h
  · rename_i vs M1 e
    dsimp only at h
    split at h
    · rename_i xs ex
      obtain ⟨hp, h⟩ := grd_some h
      cases h
      refine ha.run S E e fun κ1 G1 us H1 l1 S1 r1 => ?_
      have r := allD_of r1 ex
      refine ⟨sz_big (by rw [r.length]; exact hp), fun p hp => ?_⟩
      have g := (S1.fresh hp).1
      exact k κ1 (upd G1 p (.tup us)) _ _ (l1.trans (Le.newG g)) (S1.newG _ hp) (Rv.tup (.of upd_same) (r.mono (Ex.new g)))
    · cases h
  · cases h⟩
theorem sim_lst (c : Bool) {ta : TA} {a : DA} (ha : SimA K ta a) : SimE K (tLst ta) (eLst c a) := ⟨fun {F κ G σ ρ M H Q z M'} S E h k => by
  unfold eLst eA at h
  split at h
  · rename_i vs M1 e
    dsimp only at h
    split at h
    · rename_i xs ex
      obtain ⟨hp, h⟩ := grd_some h
      refine ha.run S E e fun κ1 G1 us H1 l1 S1 r1 => ?_
      have r := allD_of r1 ex
      refine ⟨sz_big (by rw [r.length]; exact hp), fun p hp => ?_⟩
      obtain ⟨κ', G', l, S', r'⟩ := S1.new hp r h
      exact k κ' G' _ _ (l1.trans l) S' r'
    · cases h
  · cases h⟩
/-- a list that was just made is data -/
theorem sim_frz {ta : TE} {a : DE} (ha : SimE K ta a) : SimE K ta (eFrz a) := ⟨fun {F κ G σ ρ M H Q z M'} S E h k => by
  unfold eFrz at h
  split at h
  · rename_i p e
    obtain ⟨v, M1⟩ := p
    unfold frz at h
    split at h
    · rename_i y M2 ep
      cases ep
      cases h
      exact ha.run S E e k
    · rename_i n M2 ep
      cases ep
      split at h
      · rename_i hn
        obtain ⟨h1, h2⟩ := hn
        split at h
        · rename_i xs ex
          cases h
          refine ha.run S E e fun κ1 G1 u H1 l1 S1 r1 => ?_
          obtain ⟨b, rfl, hb⟩ := r1
          obtain ⟨G2, l2, S2, r2⟩ := S1.freeze ex hb
          have S3 := S2.take M.length
          have e3 : (M1.set n none).take M.length = M1.take M.length := by
            rw [List.take_set_of_le (by omega)]
          rw [e3] at S3
          have e4 : κ1.take M.length = κ := by
            obtain ⟨t, rfl⟩ := l1.pre
            rw [← S.len, List.take_left]
          rw [e4] at S3
          exact k κ G2 _ H1 ⟨List.prefix_refl _, l1.ex.trans l2⟩ S3 r2
        · cases h
      · cases h
    · cases h
  · cases h⟩
theorem sim_frzC {ta : TE} {a : DE} (ha : SimE K ta a) : SimE K ta (eFrzC a) := ⟨fun {F κ G σ ρ M H Q z M'} S E h k => by
  unfold eFrzC at h
  split at h
  · rename_i n M1 e
    split at h
    · rename_i xs ex
      cases h
      refine ha.run S E e fun κ1 G1 u H1 l1 S1 r1 => ?_
      obtain ⟨b, rfl, hb⟩ := r1
      obtain ⟨G2, l2, S2, r2⟩ := S1.freeze ex hb
      exact k κ1 G2 _ H1 ⟨l1.pre, l1.ex.trans l2⟩ S2 r2
    · cases h
  · cases h⟩
end
end Rw
end PRwSimF
section PRwSimG
set_option Elab.async false
set_option linter.all false
set_option maxRecDepth 100000
set_option maxHeartbeats 2000000
namespace Rw
open PySem L2 PySem.Spec PyProof.Rows
open Evl (Ex)
section
variable {K : PySem.W.Frag}
/-! ### built-ins -/
theorem rxs1 {κ : List Addr} {G : Hp} {us : List V} {x : Dv} (r : Rxs K κ G us [x]) : ∃ u, us = [u] ∧ Rx K κ G u x := by
  cases r with
  | cons a r => cases r; exact ⟨_, rfl, a⟩
theorem rxs2 {κ : List Addr} {G : Hp} {us : List V} {x y : Dv} (r : Rxs K κ G us [x, y]) : ∃ u v, us = [u, v] ∧ Rx K κ G u x ∧ Rx K κ G v y := by
  cases r with
  | cons a r =>
    obtain ⟨v, rfl, b⟩ := rxs1 r
    exact ⟨_, v, rfl, a, b⟩
theorem rxs0 {κ : List Addr} {G : Hp} {us : List V} (r : Rxs K κ G us []) : us = [] := by cases r; rfl
def rAbs : List V → Hp → VK → Prop := fun xs H Q => ∃ i, xs = [.int i] ∧ Q (.int (if i < 0 then -i else i)) H
theorem sa_abs : SimRA K rAbs oAbs := fun {F κ G M H Q xs z M' us} S r h k => by
  unfold oAbs at h
  split at h
  · cases h
    obtain ⟨u, rfl, a⟩ := rxs1 r
    exact ⟨_, by rw [rx_int a], k.here S (Rv.int _)⟩
  · cases h
def rMax2 : List V → Hp → VK → Prop := fun xs H Q => ∃ i j, xs = [.int i, .int j] ∧ Q (.int (if j > i then j else i)) H
def rMin2 : List V → Hp → VK → Prop := fun xs H Q => ∃ i j, xs = [.int i, .int j] ∧ Q (.int (if j < i then j else i)) H
theorem sa_max2 : SimRA K rMax2 oMax2 := fun {F κ G M H Q xs z M' us} S r h k => by
  unfold oMax2 at h
  split at h
  · cases h
    obtain ⟨u, v, rfl, a, b⟩ := rxs2 r
    exact ⟨_, _, by rw [rx_int a, rx_int b], k.here S (Rv.int _)⟩
  · cases h
theorem sa_min2 : SimRA K rMin2 oMin2 := fun {F κ G M H Q xs z M' us} S r h k => by
  unfold oMin2 at h
  split at h
  · cases h
    obtain ⟨u, v, rfl, a, b⟩ := rxs2 r
    exact ⟨_, _, by rw [rx_int a, rx_int b], k.here S (Rv.int _)⟩
  · cases h
def rLen (K : PySem.W.Frag) : List V → Hp → VK → Prop := fun xs H Q => ∃ x n, xs = [x] ∧ LenV K x H n ∧ Q (.int n) H
theorem sa_len : SimRA K (rLen K) oLen := fun {F κ G M H Q xs z M' us} S r h k => by
  unfold oLen at h
  split at h
  · obtain ⟨hp, h⟩ := grd_some h
    cases h
    obtain ⟨u, rfl, a⟩ := rxs1 r
    obtain rfl := rx_str a
    exact ⟨_, _, rfl, ⟨sz_big hp, rfl⟩, k.here S (Rv.int _)⟩
  · split at h
    · rename_i xs e
      cases h
      obtain ⟨u, rfl, a⟩ := rxs1 r
      obtain ⟨p, vs, rfl, hs, rr⟩ := sv_at S a e
      refine ⟨_, vs.length, rfl, ?_, ?_⟩
      · rcases hs with hs | hs
        · exact .inl ⟨vs, hs, rfl⟩
        · exact .inr ⟨vs, hs, rfl⟩
      · rw [rr.length]
        exact k.here S (Rv.int _)
    · cases h
  · cases h
theorem sa_sum : SimRA K (rSum K) oSum := fun {F κ G M H Q xs z M' us} S r h k => by
  unfold oSum at h
  split at h
  · split at h
    · rename_i xs e
      split at h
      · rename_i ns en
        cases h
        obtain ⟨u, rfl, a⟩ := rxs1 r
        obtain ⟨p, vs, rfl, hs, rr⟩ := lv_at S a e
        rw [rr.ints_of en] at hs
        exact ⟨p, ns, rfl, hs, k.here S (Rv.int _)⟩
      · cases h
    · cases h
  · cases h
theorem sa_all : SimRA K (rAll K) oAll := fun {F κ G M H Q xs z M' us} S r h k => by
  unfold oAll at h
  split at h
  · split at h
    · rename_i xs e
      split at h
      · rename_i ns en
        cases h
        obtain ⟨u, rfl, a⟩ := rxs1 r
        obtain ⟨p, vs, rfl, hs, rr⟩ := lv_at S a e
        rw [rr.bls_of en] at hs
        exact ⟨p, ns, rfl, hs, k.here S (Rv.bl _)⟩
      · cases h
    · cases h
  · cases h
theorem sa_any : SimRA K (rAny K) oAny := fun {F κ G M H Q xs z M' us} S r h k => by
  unfold oAny at h
  split at h
  · split at h
    · rename_i xs e
      split at h
      · rename_i ns en
        cases h
        obtain ⟨u, rfl, a⟩ := rxs1 r
        obtain ⟨p, vs, rfl, hs, rr⟩ := lv_at S a e
        rw [rr.bls_of en] at hs
        exact ⟨p, ns, rfl, hs, k.here S (Rv.bl _)⟩
      · cases h
    · cases h
  · cases h
def rInt1 : List V → Hp → VK → Prop := fun xs H Q => (∃ i, xs = [.int i] ∧ Q (.int i) H) ∨ ∃ k, xs = [.bl k] ∧ Q (.int (if k then 1 else 0)) H
theorem sa_int : SimRA K rInt1 oInt := fun {F κ G M H Q xs z M' us} S r h k => by
  unfold oInt at h
  split at h
  · cases h
    obtain ⟨u, rfl, a⟩ := rxs1 r
    exact .inl ⟨_, by rw [rx_int a], k.here S (Rv.int _)⟩
  · cases h
    obtain ⟨u, rfl, a⟩ := rxs1 r
    exact .inr ⟨_, by rw [rx_bl a], k.here S (Rv.int _)⟩
  · cases h
def rListOf (K : PySem.W.Frag) : List V → Hp → VK → Prop := fun xs H Q => ∃ p ys, xs = [.ref p] ∧ (SqL K H p ys ∨ SqT K H p ys) ∧ ∀ l, H l = none → Q (.ref l) (upd H l (.lst ys))
theorem sa_list (c : Bool) : SimRA K (rListOf K) (oList c) := fun {F κ G M H Q xs z M' us} S r h k => by
  unfold oList at h
  split at h
  · split at h
    · rename_i xs e
      obtain ⟨u, rfl, a⟩ := rxs1 r
      obtain ⟨p, vs, rfl, hs, rr⟩ := sv_at S a e
      refine ⟨p, vs, rfl, hs, fun l hl => ?_⟩
      obtain ⟨κ', G', l', S', r'⟩ := S.new hl rr h
      exact k κ' G' _ _ l' S' r'
    · cases h
  · cases h
theorem rng_rvs {G : Hp} (a : Int) (n : Nat) : Rvs K G ((List.range n).map fun (i : Nat) => V.int (a + (i : Nat))) (rng a n) := by
  have h := Rvs.of_ints (K := K) (G := G) ((List.range n).map fun (i : Nat) => a + (i : Int))
  rw [List.map_map, List.map_map] at h
  exact h
theorem sim_listR1 (c : Bool) {ta : TE} {a : DE} (ha : SimE K ta a) : SimE K (tLstRg (tRg1 ta)) (eA (oListR1 c) (aCons a aNil)) := ⟨fun {F κ G σ ρ M H Q z M'} S E h k => by
  unfold eA aCons aNil at h
  cases e : a ρ M with
  | none => simp only [e] at h; cases h
  | some p =>
    obtain ⟨x, M1⟩ := p
    simp only [e] at h
    unfold oListR1 at h
    split at h
    · rename_i vs j ej
      cases ej
      obtain ⟨hp, h⟩ := grd_some h
      refine ha.run S E e fun κ1 G1 u H1 l1 S1 r1 => ⟨j, rx_int r1, ?_⟩
      refine ⟨⟨by omega, by omega, by omega, by omega, by omega⟩, fun q hq => ?_⟩
      have rr := rng_rvs (K := K) (G := G1) 0 j.toNat
      have e0 : rgV 0 j = (List.range j.toNat).map fun (i : Nat) => V.int (0 + (i : Nat)) := by unfold rgV; rw [Int.sub_zero]
      rw [e0]
      obtain ⟨κ', G', l', S', r'⟩ := S1.new hq rr h
      exact k κ' G' _ _ (l1.trans l') S' r'
    · cases h⟩
theorem sim_listR2 (c : Bool) {ta tb : TE} {a b : DE} (ha : SimE K ta a) (hb : SimE K tb b) : SimE K (tLstRg (tRg2 ta tb)) (eA (oListR2 c) (aCons a (aCons b aNil))) := ⟨fun {F κ G σ ρ M H Q z M'} S E h k => by
  simp only [eA, aCons, aNil] at h
  cases e : a ρ M with
  | none => simp only [e] at h; cases h
  | some p =>
    obtain ⟨x, M1⟩ := p
    simp only [e] at h
    cases e2 : b ρ M1 with
    | none => simp only [e2] at h; cases h
    | some p =>
      obtain ⟨y, M2⟩ := p
      simp only [e2] at h
      unfold oListR2 at h
      split at h
      · rename_i vs i j ej
        cases ej
        obtain ⟨hp, h⟩ := grd_some h
        refine ha.run S E e fun κ1 G1 u H1 l1 S1 r1 => hb.run S1 (E.mono l1) e2 fun κ2 G2 v H2 l2 S2 r2 => ⟨i, j, rx_int r1, rx_int r2, ?_⟩
        refine ⟨⟨by omega, by omega, by omega, by omega, by omega⟩, fun q hq => ?_⟩
        have rr := rng_rvs (K := K) (G := G2) i (j - i).toNat
        obtain ⟨κ', G', l', S', r'⟩ := S2.new hq rr h
        exact k κ' G' _ _ ((l1.trans l2).trans l') S' r'
      · cases h⟩
/-! ### isinstance, sorted, [::-1] -/
def okTy (T : String) : Bool := T == "bool" || T == "int" || T == "str" || T == "list" || T == "tuple"
theorem kit_names : ∀ t ∈ ["NoneType", "bool", "int", "str", "list", "tuple"], ∀ T ∈ ["bool", "int", "str", "list", "tuple"], kitB t T = some (subTy t T) := by decide +kernel
theorem tyx_of {F : Fz} {κ : List Addr} {G : Hp} {M : DSt} {H : Hp} (S : Sm K F κ G M H) {u : V} {x : Dv} {d : D} (r : Rx K κ G u x) (h : dv M x = some d) (hn : ∀ n, d ≠ .ty n) : TyX K H u (.type d.tyN) ∧ d.tyN ∈ ["NoneType", "bool", "int", "str", "list", "tuple"] := by
  cases x with
  | d y =>
    cases h
    cases r with
    | non => exact ⟨.base .non, by simp [D.tyN]⟩
    | bl b => exact ⟨.base (.bl b), by simp [D.tyN]⟩
    | int i => exact ⟨.base (.int i), by simp [D.tyN]⟩
    | str s => exact ⟨.base (.str s), by simp [D.tyN]⟩
    | ty n _ => exact absurd rfl (hn n)
    | exc h c o => exact absurd rfl (hn _)
    | lst h r => exact ⟨.base (.lst (S.ex _ _ h)), by simp [D.tyN]⟩
    | tup h r =>
      refine ⟨?_, by simp [D.tyN]⟩
      rcases h with (h | ⟨o, h⟩) | ⟨o, its, n, hk, hc, _⟩
      · exact .base (.tup (S.ex _ _ h))
      · exact .fTuple (S.ex _ _ h)
      · exact .kTuple hk hc
  | c m =>
    obtain ⟨a, rfl, ha⟩ := r
    simp only [dv] at h
    cases e : (M[m]?).join with
    | none => rw [e] at h; cases h
    | some ds =>
      rw [e] at h
      cases h
      obtain ⟨xs, _, _, e3, e4⟩ := cell_at S e ha
      exact ⟨.base (.lst e3), by simp [D.tyN]⟩
  | o _ _ _ => cases h
  | r ys =>
    cases h
    obtain ⟨a, xs, rfl, q, p⟩ := r
    refine ⟨?_, by simp [D.tyN]⟩
    rcases Evl.ex_l S.ex q with (h | ⟨o, h⟩) | ⟨o, its, n, hk, hc, _⟩
    · exact .base (.lst h)
    · exact .base (.frz h)
    · exact .kList hk hc
theorem sa_isi (T : String) (hT : T ∈ ["bool", "int", "str", "list", "tuple"]) : SimRA K (rIsi K) (oIsi T) := fun {F κ G M H Q xs z M' us} S r h k => by
  unfold oIsi at h
  split at h
  · rename_i vs v n
    split at h
    · rename_i en
      subst en
      split at h
      · cases h
      · rename_i x nt e
        cases h
        obtain ⟨u, c, rfl, a, b⟩ := rxs2 r
        cases b with
        | exc h1 h2 h3 => exact absurd hT h3
        | ty =>
          obtain ⟨t1, t2⟩ := tyx_of S a e nt
          exact ⟨u, .ty n, _, _, _, rfl, .ty n, t1, kit_ty (kit_names _ t2 n hT), k.here S (Rv.bl _)⟩
      · cases h
    · cases h
  · cases h
theorem sorted_one {ns ms : List Int} (h1 : ms.Perm ns) (h2 : ms.Pairwise (· ≤ ·)) : ms = ns.mergeSort (fun a b => decide (a ≤ b)) := by
  have h3 := List.pairwise_mergeSort (le := fun (a b : Int) => decide (a ≤ b)) (fun a b c => by simp; omega) (fun a b => by simp; omega) ns
  have h4 := List.mergeSort_perm ns (fun a b => decide (a ≤ b))
  refine List.Perm.eq_of_pairwise (le := fun (a b : Int) => a ≤ b) (fun a b _ _ h1 h2 => Int.le_antisymm h1 h2) h2 (h3.imp (by simp)) (h1.trans h4.symm)
theorem sa_sorted (c : Bool) : SimRA K (rSortedI K) (oSorted c) := fun {F κ G M H Q xs z M' us} S r h k => by
  unfold oSorted at h
  split at h
  · split at h
    · rename_i xs e
      split at h
      · rename_i ns en
        obtain ⟨u, rfl, a⟩ := rxs1 r
        obtain ⟨p, vs, rfl, hs, rr⟩ := lv_at S a e
        rw [rr.ints_of en] at hs
        refine ⟨p, ns, rfl, hs, fun ms q h1 h2 hq => ?_⟩
        rw [sorted_one h1 h2]
        obtain ⟨κ', G', l', S', r'⟩ := S.new hq (Rvs.of_ints _) h
        exact k κ' G' _ _ l' S' r'
      · cases h
    · cases h
  · cases h
theorem Rvs.reverse {G : Hp} : ∀ {us : List V} {xs : List D}, Rvs K G us xs → Rvs K G us.reverse xs.reverse
  | _, _, .nil => .nil
  | _, _, .cons h r => by
    rw [List.reverse_cons, List.reverse_cons]
    exact (Rvs.reverse r).append (.cons h .nil)
theorem sim_rev (c : Bool) {ta : TE} {a : DE} (ha : SimE K ta a) : SimE K (tRevL K ta) (e1 (oRev c) a) := ⟨fun {F κ G σ ρ M H Q z M'} S E h k => by
  unfold e1 at h
  split at h
  · rename_i x M1 e
    unfold oRev at h
    split at h
    · rename_i xs ex
      refine ha.run S E e fun κ1 G1 u H1 l1 S1 r1 => ?_
      obtain ⟨p, vs, rfl, hs, rr⟩ := lv_at S1 r1 ex
      refine ⟨p, vs, rfl, hs, fun q hq => ?_⟩
      obtain ⟨κ', G', l', S', r'⟩ := S1.new hq rr.reverse h
      exact k κ' G' _ _ (l1.trans l') S' r'
    · cases h
  · cases h⟩
/-! ### methods of lists -/
theorem sim_bm {r : V → List V → Hp → VK → Prop} {f : Dv → List Dv → DSt → Option (Dv × DSt)} {to : TE} {o : DE} {ta : TA} {a : DA} (hr : SimRM K "list" r f) (hl : ∀ v as M z, f v as M = some z → ∃ n, v = .c n) (ho : SimE K to o) (ha : SimA K ta a) : SimE K (tBM K "list" r to ta) (eM f o a) := ⟨fun {F κ G σ ρ M H Q z M'} S E h k => by
  unfold eM at h
  split at h
  · rename_i x M1 e
    split at h
    · rename_i xs M2 e2
      obtain ⟨n, rfl⟩ := hl _ _ _ _ h
      refine ho.run S E e fun κ1 G1 u H1 l1 S1 r1 => ⟨?_, ?_⟩
      · obtain ⟨b, rfl, hb⟩ := r1
        obtain ⟨q, hq⟩ := S1.th b (List.mem_of_getElem? hb)
        exact .inl ⟨rfl, q, .of hq⟩
      · exact ha.run S1 (E.mono l1) e2 fun κ2 G2 us H2 l2 S2 r2 => hr S2 (r1.mono l2) r2 h (k.weak (l1.trans l2))
    · cases h
  · cases h⟩
theorem sim_bm0 {r : V → List V → Hp → VK → Prop} {f : Dv → List Dv → DSt → Option (Dv × DSt)} {to : TE} {o : DE} (hr : SimRM K "list" r f) (hl : ∀ v as M z, f v as M = some z → ∃ n, v = .c n) (ho : SimE K to o) : SimE K (tBM0 K "list" r to) (eM f o aNil) := ⟨fun {F κ G σ ρ M H Q z M'} S E h k => by
  have h2 := (sim_bm hr hl ho (sim_nil (K := K))).run S E h k
  exact h2⟩
theorem sm_append : SimRM K "list" rAppend mAppend := fun {F κ G M H Q x xs z M' u us} S r rs h k => by
  unfold mAppend at h
  split at h
  · rename_i n y
    split at h
    · rename_i ys e
      obtain ⟨hp, h⟩ := grd_some h
      cases h
      obtain ⟨a, rfl, ha⟩ := r
      obtain ⟨v, rfl, rv⟩ := rxs1 rs
      obtain ⟨vs, _, _, e3, e4⟩ := cell_at S e ha
      refine ⟨a, vs, v, rfl, rfl, e3, sz_big1 (by rw [e4.length]; exact hp), ?_⟩
      exact k κ G _ _ (Le.refl _ _) (S.put e ha (e4.append (.cons rv .nil))) Rv.non
    · cases h
  · cases h
theorem lm_append : ∀ v as M z, mAppend v as M = some z → ∃ n, v = .c n := fun v as M z h => by
  unfold mAppend at h
  split at h
  · exact ⟨_, rfl⟩
  · cases h
theorem sm_clear : SimRM K "list" rClear mClear := fun {F κ G M H Q x xs z M' u us} S r rs h k => by
  unfold mClear at h
  split at h
  · rename_i n
    split at h
    · rename_i ys e
      cases h
      obtain ⟨a, rfl, ha⟩ := r
      obtain ⟨vs, _, _, e3, e4⟩ := cell_at S e ha
      refine ⟨a, vs, rfl, rxs0 rs, e3, ?_⟩
      exact k κ G _ _ (Le.refl _ _) (S.put e ha .nil) Rv.non
    · cases h
  · cases h
theorem lm_clear : ∀ v as M z, mClear v as M = some z → ∃ n, v = .c n := fun v as M z h => by
  unfold mClear at h
  split at h
  · exact ⟨_, rfl⟩
  · cases h
def rPops : V → List V → Hp → VK → Prop := fun x vs H Q => rPop x vs H Q ∨ rPopAt x vs H Q
theorem mt_pops {X : Cx} : MtM X "list.pop" rPops := fun pins s σ H x vs v us Q I rx rv h => by
  rcases h with h | h
  · exact mt_pop pins s σ H x vs v us Q I rx rv h
  · exact mt_popAt pins s σ H x vs v us Q I rx rv h
theorem sm_pop : SimRM K "list" rPops mPop := fun {F κ G M H Q x xs z M' u us} S r rs h k => by
  unfold mPop at h
  split at h
  · rename_i n
    split at h
    · rename_i ys e
      split at h
      · rename_i y ey
        cases h
        obtain ⟨a, rfl, ha⟩ := r
        obtain ⟨vs, _, _, e3, e4⟩ := cell_at S e ha
        obtain ⟨w, hw, rw'⟩ := e4.get ey
        refine .inl ⟨a, vs, w, rfl, rxs0 rs, e3, by rw [e4.length]; exact hw, ?_⟩
        exact k κ G _ _ (Le.refl _ _) (S.put e ha e4.dropLast) rw'
      · cases h
    · cases h
  · rename_i n i
    split at h
    · rename_i ys e
      split at h
      · rename_i j ej
        split at h
        · rename_i y ey
          obtain ⟨hi, h⟩ := grd_some h
          cases h
          obtain ⟨a, rfl, ha⟩ := r
          obtain ⟨v, rfl, rv⟩ := rxs1 rs
          obtain rfl := rx_int rv
          obtain ⟨vs, _, _, e3, e4⟩ := cell_at S e ha
          obtain ⟨w, hw, rw'⟩ := e4.get ey
          obtain ⟨q1, q2, q3, q4⟩ := ixN_seq ej
          refine .inr ⟨a, vs, i, j, w, rfl, rfl, e3, by omega, by omega, by rw [e4.length]; exact q1, hw, ?_⟩
          exact k κ G _ _ (Le.refl _ _) (S.put e ha (e4.eraseIdx j)) rw'
        · cases h
      · cases h
    · cases h
  · cases h
end
end Rw
end PRwSimG
section PRwSimS
set_option Elab.async false
set_option linter.all false
set_option maxRecDepth 100000
set_option maxHeartbeats 2000000
namespace Rw
open PySem L2 PySem.Spec PyProof.Rows
open Evl (Ex)
section
variable {K : PySem.W.Frag}
/-! ### targets -/
theorem wipe_get (σ : L2.St) : ∀ (vs : List Nat) (j : Nat), (L2.wipe σ vs)[j]? = if j ∈ vs then (σ[j]?).map fun _ => none else σ[j]?
  | [], j => by simp [L2.wipe]
  | v :: vs, j => by
    unfold L2.wipe
    by_cases hj : v = j
    · subst hj
      by_cases hl : v < σ.length
      · rw [List.getElem?_set_self (by rw [wipe_length]; exact hl), if_pos (by simp), List.getElem?_eq_getElem hl]
        rfl
      · rw [List.getElem?_eq_none (by rw [List.length_set, wipe_length]; omega), if_pos (by simp), List.getElem?_eq_none (by omega)]
        rfl
    · rw [List.getElem?_set_ne hj, wipe_get σ vs j]
      by_cases hm : j ∈ vs
      · rw [if_pos hm, if_pos (List.mem_cons_of_mem _ hm)]
      · rw [if_neg hm, if_neg (by simp only [List.mem_cons, not_or]; exact ⟨fun e => hj e.symm, hm⟩)]
theorem wipe_length_ite {o : Option (Option V)} {p : Prop} [Decidable p] : (if p then (if p then o.map fun _ => none else o).map fun _ => none else (if p then o.map fun _ => none else o)) = if p then o.map (fun _ => none) else o := by
  split <;> simp [Function.comp_def]
theorem wipe_set {σ : L2.St} {i : Nat} {o : Option V} {vs : List Nat} (h : i ∈ vs) : L2.wipe (σ.set i o) vs = L2.wipe σ vs := by
  apply List.ext_getElem?
  intro j
  rw [wipe_get, wipe_get]
  by_cases hj : j ∈ vs
  · rw [if_pos hj, if_pos hj]
    by_cases e : i = j
    · subst e
      by_cases hl : i < σ.length
      · rw [List.getElem?_set_self hl, List.getElem?_eq_getElem hl]
        rfl
      · rw [List.getElem?_eq_none (by simpa using hl), List.getElem?_eq_none (by simpa using hl)]
    · rw [List.getElem?_set_ne e]
  · rw [if_neg hj, if_neg hj, List.getElem?_set_ne (fun (e : i = j) => hj (e ▸ h))]

mutual
def Tgt.tg (K : PySem.W.Frag) : Tgt → TG
  | .name i => gName i
  | .tup ts => fun v σ H Q => gTup K ts.length (Tgt.tgs K ts) v σ H Q ∨ gUnl K ts.length (Tgt.tgs K ts) v σ H Q
def Tgt.tgs (K : PySem.W.Frag) : List Tgt → TGs
  | [] => gNil
  | t :: ts => gCons (t.tg K) (Tgt.tgs K ts)
end
mutual
theorem put_ok {F : Fz} {κ : List Addr} {G : Hp} {M : DSt} {H : Hp} (S : Sm K F κ G M H) : ∀ (t : Tgt) {u : V} {x : Dv} {σ : L2.St} {ρ ρ' : DEnv} {Q : L2.St → Hp → Prop}, Rx K κ G u x → Se K κ G σ ρ → t.put x ρ = some ρ' → (∀ σ', Se K κ G σ' ρ' → (∀ vs : List Nat, (∀ i ∈ t.slots, i ∈ vs) → L2.wipe σ' vs = L2.wipe σ vs) → Q σ' H) → t.tg K u σ H Q
  | .name i, u, x, σ, ρ, ρ', Q, r, E, h, k => by
    simp only [Tgt.put] at h
    cases h
    refine k _ (E.set r i) fun vs hv => ?_
    exact wipe_set (hv i (by simp [Tgt.slots]))
  | .tup ts, u, x, σ, ρ, ρ', Q, r, E, h, k => by
    cases x with
    | d y =>
      cases y with
      | tup xs =>
        simp only [Tgt.put] at h
        split at h
        · rename_i hl
          cases r with
          | tup hs rs =>
            rename_i a us
            exact .inl ⟨a, us, rfl, Evl.ex_t S.ex hs, by rw [rs.length]; exact hl, puts_ok S ts rs E h fun σ' E' w => k σ' E' fun vs hv => w vs (by simpa only [Tgt.slots] using hv)⟩
        · cases h
      | lst xs =>
        simp only [Tgt.put] at h
        split at h
        · rename_i hl
          cases r with
          | lst hs rs =>
            rename_i a us
            exact .inr ⟨a, us, rfl, .of (S.ex _ _ hs), by rw [rs.length]; exact hl, puts_ok S ts rs E h fun σ' E' w => k σ' E' fun vs hv => w vs (by simpa only [Tgt.slots] using hv)⟩
        · cases h
      | _ => simp [Tgt.put] at h
    | c n => simp [Tgt.put] at h
    | r n => simp [Tgt.put] at h
    | o _ _ _ => simp [Tgt.put] at h
theorem puts_ok {F : Fz} {κ : List Addr} {G : Hp} {M : DSt} {H : Hp} (S : Sm K F κ G M H) : ∀ (ts : List Tgt) {us : List V} {xs : List D} {σ : L2.St} {ρ ρ' : DEnv} {Q : L2.St → Hp → Prop}, Rvs K G us xs → Se K κ G σ ρ → Tgt.puts ts xs ρ = some ρ' → (∀ σ', Se K κ G σ' ρ' → (∀ vs : List Nat, (∀ i ∈ Tgt.slotss ts, i ∈ vs) → L2.wipe σ' vs = L2.wipe σ vs) → Q σ' H) → Tgt.tgs K ts us σ H Q
  | [], _, _, σ, ρ, ρ', Q, .nil, E, h, k => by
    simp only [Tgt.puts] at h
    cases h
    exact ⟨rfl, k σ E fun _ _ => rfl⟩
  | [], _, _, σ, ρ, ρ', Q, .cons r rs, E, h, k => by simp [Tgt.puts] at h
  | t :: ts, _, _, σ, ρ, ρ', Q, .nil, E, h, k => by simp [Tgt.puts] at h
  | t :: ts, _, _, σ, ρ, ρ', Q, .cons r rs, E, h, k => by
    rename_i v vs d ds
    simp only [Tgt.puts] at h
    split at h
    · rename_i ρ1 e
      refine ⟨v, vs, rfl, put_ok S t (x := .d d) r E e fun σ1 E1 w1 => puts_ok S ts rs E1 h fun σ2 E2 w2 => k σ2 E2 fun ws hw => ?_⟩
      rw [w2 ws fun i hi => hw i (by simp only [Tgt.slotss]; exact List.mem_append_right _ hi), w1 ws fun i hi => hw i (by simp only [Tgt.slotss]; exact List.mem_append_left _ hi)]
    · cases h
end
/-! ### what is walked -/
structure SimI (K : PySem.W.Frag) (wi : TI) (it : DI) : Prop where
  run : ∀ {F κ G σ ρ M H xs src M'} {R : It → Hp → Prop}, Sm K F κ G M H → Se K κ G σ ρ → it ρ M = some (xs, src, M') →
    (∀ κ1 G1 H1 J (Gd : Hp → Prop) Y, Le κ G κ1 G1 → Sm K F κ1 G1 M' H1 → Walk J xs.length Gd Y →
      (∀ F2 κ2 G2 M2 H2, Le κ1 G1 κ2 G2 → Sm K F2 κ2 G2 M2 H2 → stand src M' M2 → Gd H2) →
      (∀ i F2 κ2 G2 M2 H2 x H3, i < xs.length → Le κ1 G1 κ2 G2 → Sm K F2 κ2 G2 M2 H2 → stand src M' M2 → Y i H2 x H3 → ∃ G3 d, Ex G2 G3 ∧ Sm K F2 κ2 G3 M2 H3 ∧ xs[i]? = some d ∧ Rv K G3 x d) → R J H1) → wi σ H R
/-- a value that is a list stands as long as its cell stands -/
theorem lv_stand {F2 : Fz} {κ κ2 : List Addr} {G G2 : Hp} {M M2 : DSt} {H2 : Hp} {x : Dv} {a : Addr} {xs : List D} (l : Le κ G κ2 G2) (S2 : Sm K F2 κ2 G2 M2 H2) (r : Rx K κ G (.ref a) x) (h : lv M x = some xs) (st : stand (cellsOf x) M M2) : ∃ us, SqL K H2 a us ∧ Rvs K G2 us xs := by
  have r2 := r.mono l
  have h2 : lv M2 x = some xs := by
    cases x with
    | d y => cases y <;> exact h
    | c n =>
      have e := st n (by simp [cellsOf])
      simp only [lv] at h ⊢
      rw [e]
      exact h
    | r ys => exact h
    | o _ _ _ => exact h
  obtain ⟨b, us, e, q, p⟩ := lv_at S2 r2 h2
  cases e
  exact ⟨us, q, p⟩
theorem sim_iL {ta : TE} {a : DE} (ha : SimE K ta a) : SimI K (iList K ta) (iL a) := ⟨fun {F κ G σ ρ M H xs src M' R} S E h k => by
  unfold iL at h
  split at h
  · rename_i x M1 e
    split at h
    · rename_i ys ey
      cases h
      refine ha.run S E e fun κ1 G1 u H1 l1 S1 r1 => ?_
      obtain ⟨b, us, rfl, q, p⟩ := lv_at S1 r1 ey
      refine ⟨b, rfl, ⟨us, q⟩, ?_⟩
      refine k κ1 G1 H1 (Itl K b) (fun H => ∃ us G, SqL K H b us ∧ Rvs K G us xs) (fun i H x H' => H' = H ∧ ∀ us, SqL K H b us → us[i]? = some x) l1 S1 ⟨fun i H hi ⟨us, G, q, p⟩ => ?_, fun H ⟨us, G, q, p⟩ => ⟨us, q, by rw [p.length]; exact Nat.le_refl _⟩, fun i H x H' hi _ y => y⟩ (fun F2 κ2 G2 M2 H2 l2 S2 st => ?_) fun i F2 κ2 G2 M2 H2 x H3 hi l2 S2 st y => ?_
      · have hl : i < us.length := by rw [p.length]; exact hi
        exact ⟨us, us[i], q, by simp [hl]⟩
      · obtain ⟨us2, q2, p2⟩ := lv_stand l2 S2 r1 ey st
        exact ⟨us2, G2, q2, p2⟩
      · obtain ⟨us2, q2, p2⟩ := lv_stand l2 S2 r1 ey st
        obtain ⟨rfl, y⟩ := y
        obtain ⟨d, hd, rd⟩ := p2.get' (y us2 q2)
        exact ⟨G2, d, Ex.refl _, S2, hd, rd⟩
    · cases h
  · cases h⟩
theorem sim_iT {ta : TE} {a : DE} (ha : SimE K ta a) : SimI K (iTup K ta) (iT a) := ⟨fun {F κ G σ ρ M H xs src M' R} S E h k => by
  unfold iT at h
  split at h
  · rename_i ys M1 e
    cases h
    refine ha.run S E e fun κ1 G1 u H1 l1 S1 r1 => ?_
    cases r1 with
    | tup hs rs =>
      rename_i b us
      refine ⟨b, rfl, ⟨us, Evl.ex_t S1.ex hs⟩, ?_⟩
      refine k κ1 G1 H1 (Itt K b) (fun H => SqT K H b us) (YAt us) l1 S1 ?_ (fun F2 κ2 G2 M2 H2 l2 S2 st => ?_) fun i F2 κ2 G2 M2 H2 x H3 hi l2 S2 st y => ?_
      · rw [← rs.length]
        exact walk_tup
      · exact Evl.ex_t S2.ex (Evl.ex_t l2.ex hs)
      · obtain ⟨rfl, y⟩ := y
        obtain ⟨d, hd, rd⟩ := (rs.mono l2.ex).get' y
        exact ⟨G2, d, Ex.refl _, S2, hd, rd⟩
  · cases h⟩
theorem rng_length (a : Int) (n : Nat) : (rng a n).length = n := by unfold rng; simp
theorem rng_get {a : Int} {n i : Nat} (h : i < n) : (rng a n)[i]? = some (.int (a + (i : Int))) := by unfold rng; simp [h]
theorem sim_iR1 {ta : TA} {a : DA} (ha : SimA K ta a) : SimI K (iRng1 ta) (iR1 a) := ⟨fun {F κ G σ ρ M H xs src M' R} S E h k => by
  unfold iR1 at h
  split at h
  · rename_i j M1 e
    obtain ⟨hp, h⟩ := grd_some h
    cases h
    refine ha.run S E e fun κ1 G1 us H1 l1 S1 r1 => ?_
    obtain ⟨u, rfl, ru⟩ := rxs1 r1
    obtain rfl := rx_int ru
    refine ⟨j, rfl, hp.1, hp.2, ?_⟩
    refine k κ1 G1 H1 (Itr 0 j.toNat) (fun _ => True) (YFn fun i => .int (0 + (i : Nat))) l1 S1 (by rw [rng_length]; exact walk_range) (fun _ _ _ _ _ _ _ _ => trivial) fun i F2 κ2 G2 M2 H2 x H3 hi l2 S2 st y => ?_
    obtain ⟨rfl, rfl⟩ := y
    rw [rng_length] at hi
    exact ⟨G2, _, Ex.refl _, S2, rng_get hi, .int _⟩
  · cases h⟩
theorem sim_iR2 {ta : TA} {a : DA} (ha : SimA K ta a) : SimI K (iRng2 ta) (iR2 a) := ⟨fun {F κ G σ ρ M H xs src M' R} S E h k => by
  unfold iR2 at h
  split at h
  · rename_i lo j M1 e
    obtain ⟨hp, h⟩ := grd_some h
    cases h
    refine ha.run S E e fun κ1 G1 us H1 l1 S1 r1 => ?_
    obtain ⟨u, v, rfl, ru, rv⟩ := rxs2 r1
    obtain rfl := rx_int ru
    obtain rfl := rx_int rv
    refine ⟨lo, j, rfl, hp, ?_⟩
    refine k κ1 G1 H1 (Itr lo (j - lo).toNat) (fun _ => True) (YFn fun i => .int (lo + (i : Nat))) l1 S1 (by rw [rng_length]; exact walk_range) (fun _ _ _ _ _ _ _ _ => trivial) fun i F2 κ2 G2 M2 H2 x H3 hi l2 S2 st y => ?_
    obtain ⟨rfl, rfl⟩ := y
    rw [rng_length] at hi
    exact ⟨G2, _, Ex.refl _, S2, rng_get hi, .int _⟩
  · cases h⟩
/-- a new pair -/
theorem pair_new {F2 : Fz} {κ2 : List Addr} {G2 : Hp} {M2 : DSt} {H2 : Hp} {T : Addr} {x y : V} {d e : D} (S2 : Sm K F2 κ2 G2 M2 H2) (hT : H2 T = none) (r1 : Rv K G2 x d) (r2 : Rv K G2 y e) : Ex G2 (upd G2 T (.tup [x, y])) ∧ Sm K F2 κ2 (upd G2 T (.tup [x, y])) M2 (upd H2 T (.tup [x, y])) ∧ Rv K (upd G2 T (.tup [x, y])) (.ref T) (.tup [d, e]) := by
  have g := (S2.fresh hT).1
  exact ⟨Ex.new g, S2.newG _ hT, .tup (.of upd_same) (.cons (r1.mono (Ex.new g)) (.cons (r2.mono (Ex.new g)) .nil))⟩
theorem enumD_length : ∀ (k : Nat) (xs : List D), (enumD k xs).length = xs.length
  | _, [] => rfl
  | k, x :: xs => by simp [enumD, enumD_length (k + 1) xs]
theorem enumD_get : ∀ (k : Nat) (xs : List D) (i : Nat) (d : D), xs[i]? = some d → (enumD k xs)[i]? = some (.tup [.int ((k + i : Nat) : Int), d])
  | _, [], _, _, h => by simp at h
  | k, x :: xs, 0, d, h => by simp at h; subst h; simp [enumD]
  | k, x :: xs, i + 1, d, h => by
    have := enumD_get (k + 1) xs i d (by simpa using h)
    simp only [enumD, List.getElem?_cons_succ, this]
    congr 4
    omega
theorem sim_iEn {ta : TA} {a : DA} (ha : SimA K ta a) : SimI K (iEnum K ta) (iEn a) := ⟨fun {F κ G σ ρ M H xs src M' R} S E h k => by
  unfold iEn at h
  split at h
  · rename_i x M1 e
    split at h
    · rename_i ys ey
      cases h
      refine ha.run S E e fun κ1 G1 us H1 l1 S1 rs => ?_
      obtain ⟨u, rfl, r1⟩ := rxs1 rs
      obtain ⟨b, us, rfl, q, p⟩ := lv_at S1 r1 ey
      refine ⟨b, us, rfl, q, ?_⟩
      refine k κ1 G1 H1 (Ite K b) (fun H => ∃ us G, SqL K H b us ∧ Rvs K G us ys) (fun i H v H' => ∃ T x, v = .ref T ∧ H T = none ∧ H' = upd H T (.tup [.int (i : Nat), x]) ∧ ∀ us, SqL K H b us → us[i]? = some x) l1 S1 ⟨fun i H hi ⟨us, G, q, p⟩ => ?_, fun H ⟨us, G, q, p⟩ => ⟨us, q, by rw [p.length, enumD_length]; exact Nat.le_refl _⟩, fun i H x H' hi _ y => y⟩ (fun F2 κ2 G2 M2 H2 l2 S2 st => ?_) fun i F2 κ2 G2 M2 H2 x H3 hi l2 S2 st y => ?_
      · have hl : i < us.length := by rw [p.length]; rw [enumD_length] at hi; exact hi
        exact ⟨us, us[i], q, by simp [hl]⟩
      · obtain ⟨us2, q2, p2⟩ := lv_stand l2 S2 r1 ey st
        exact ⟨us2, G2, q2, p2⟩
      · obtain ⟨us2, q2, p2⟩ := lv_stand l2 S2 r1 ey st
        obtain ⟨T, w, rfl, hT, rfl, y⟩ := y
        obtain ⟨d, hd, rd⟩ := p2.get' (y us2 q2)
        obtain ⟨e1, e2, e3⟩ := pair_new S2 hT (Rv.int ((i : Nat) : Int)) rd
        refine ⟨_, _, e1, e2, enumD_get 0 ys i d hd, ?_⟩
        rw [Nat.zero_add]
        exact e3
    · cases h
  · cases h⟩
theorem zipD_length : ∀ (xs ys : List D), (zipD xs ys).length = min xs.length ys.length
  | [], _ => by simp [zipD]
  | _ :: _, [] => by simp [zipD]
  | x :: xs, y :: ys => by simp only [zipD, List.length_cons, zipD_length xs ys]; omega
theorem zipD_get : ∀ (xs ys : List D) (i : Nat) (d e : D), xs[i]? = some d → ys[i]? = some e → (zipD xs ys)[i]? = some (.tup [d, e])
  | [], _, _, _, _, h, _ => by simp at h
  | _ :: _, [], _, _, _, _, h => by simp at h
  | x :: xs, y :: ys, 0, d, e, h, h' => by simp at h h'; subst h; subst h'; simp [zipD]
  | x :: xs, y :: ys, i + 1, d, e, h, h' => by
    simp only [zipD, List.getElem?_cons_succ]
    exact zipD_get xs ys i d e (by simpa using h) (by simpa using h')
theorem sim_iZ {ta : TA} {a : DA} (ha : SimA K ta a) : SimI K (iZip K ta) (iZ a) := ⟨fun {F κ G σ ρ M H xs src M' R} S E h k => by
  unfold iZ at h
  split at h
  · rename_i x z M1 e
    split at h
    · rename_i ys zs ey ez
      cases h
      refine ha.run S E e fun κ1 G1 us H1 l1 S1 rs => ?_
      obtain ⟨u, v, rfl, r1, r2⟩ := rxs2 rs
      obtain ⟨b, us, rfl, q, p⟩ := lv_at S1 r1 ey
      obtain ⟨c, vs, rfl, q', p'⟩ := lv_at S1 r2 ez
      refine ⟨b, c, us, vs, rfl, q, q', ?_⟩
      have stL : ∀ {M2 : DSt}, stand (cellsOf x ++ cellsOf z) M' M2 → stand (cellsOf x) M' M2 := fun st n hn => st n (List.mem_append_left _ hn)
      have stR : ∀ {M2 : DSt}, stand (cellsOf x ++ cellsOf z) M' M2 → stand (cellsOf z) M' M2 := fun st n hn => st n (List.mem_append_right _ hn)
      refine k κ1 G1 H1 (Itz K b c) (fun H => ∃ us vs G, SqL K H b us ∧ SqL K H c vs ∧ Rvs K G us ys ∧ Rvs K G vs zs) (fun i H v H' => ∃ T x y, v = .ref T ∧ H T = none ∧ H' = upd H T (.tup [x, y]) ∧ (∀ us, SqL K H b us → us[i]? = some x) ∧ ∀ vs, SqL K H c vs → vs[i]? = some y) l1 S1 ⟨fun i H hi ⟨us, vs, G, q, q', p, p'⟩ => ?_, fun H ⟨us, vs, G, q, q', p, p'⟩ => ⟨us, vs, q, q', by rw [p.length, p'.length, zipD_length]; omega⟩, fun i H x H' hi _ y => y⟩ (fun F2 κ2 G2 M2 H2 l2 S2 st => ?_) fun i F2 κ2 G2 M2 H2 x H3 hi l2 S2 st y => ?_
      · rw [zipD_length] at hi
        have hl : i < us.length := by rw [p.length]; omega
        have hl' : i < vs.length := by rw [p'.length]; omega
        exact ⟨us, vs, us[i], vs[i], q, q', by simp [hl], by simp [hl']⟩
      · obtain ⟨us2, q2, p2⟩ := lv_stand l2 S2 r1 ey (stL st)
        obtain ⟨vs2, q3, p3⟩ := lv_stand l2 S2 r2 ez (stR st)
        exact ⟨us2, vs2, G2, q2, q3, p2, p3⟩
      · obtain ⟨us2, q2, p2⟩ := lv_stand l2 S2 r1 ey (stL st)
        obtain ⟨vs2, q3, p3⟩ := lv_stand l2 S2 r2 ez (stR st)
        obtain ⟨T, w, w', rfl, hT, rfl, y, y'⟩ := y
        obtain ⟨d, hd, rd⟩ := p2.get' (y us2 q2)
        obtain ⟨d', hd', rd'⟩ := p3.get' (y' vs2 q3)
        obtain ⟨e1, e2, e3⟩ := pair_new S2 hT rd rd'
        exact ⟨_, _, e1, e2, zipD_get ys zs i d d' hd hd', e3⟩
    · cases h
  · cases h⟩
/-! ### comprehensions -/
/-- the loop of a comprehension, from its reading -/
theorem compL_run {tg : Tgt} {t : DT} {el : DE} {tt : TT} {te : TE} {src : List Nat} {own : List Nat} {xs : List D} {F : Fz} {σ : L2.St} {ρ : DEnv} {κ1 : List Addr} {G1 : Hp} {M' : DSt} {H1 : Hp} {Dl : Addr} {J : It} {Gd : Hp → Prop} {Y : Nat → Hp → V → Hp → Prop} {Q : VK} {c : Bool} {z : Dv} {ys : List D} {M2 Mz : DSt}
    (ht : SimT K tt t) (he : SimE K te el) (hown : ∀ i ∈ tg.slots, i ∈ own) (E : Se K κ1 G1 σ ρ) (S1 : Sm K F κ1 G1 M' H1) (W : Walk J xs.length Gd Y)
    (hG : ∀ F2 κ2 G2 M2 H2, Le κ1 G1 κ2 G2 → Sm K F2 κ2 G2 M2 H2 → stand src M' M2 → Gd H2)
    (hY : ∀ i F2 κ2 G2 M2 H2 x H3, i < xs.length → Le κ1 G1 κ2 G2 → Sm K F2 κ2 G2 M2 H2 → stand src M' M2 → Y i H2 x H3 → ∃ G3 d, Ex G2 G3 ∧ Sm K F2 κ2 G3 M2 H3 ∧ xs[i]? = some d ∧ Rv K G3 x d)
    (hD : H1 Dl = none) (hl : compL (stand src M') (compStep tg t el (wipeD ρ own)) xs M' = some (ys, M2)) (hz : xs.length ≤ big) (hm : mkL c ys M2 = some (z, Mz)) (k : PV K F κ1 G1 Q z Mz) :
    ∃ W : Nat → Nat → Hp → Prop, (∃ m, W 0 m (upd H1 Dl (.lst []))) ∧ ∀ i m H, W i m H →
      (J.stop i H ∧ Q (.ref Dl) H) ∨ (J.go i H ∧ ∃ Nx : Hp → Prop, (∀ H', Nx H' → ∃ m', m' < m ∧ W (i + 1) m' H') ∧ ∀ x H', J.yld i H x H' → tg.tg K x (L2.wipe σ own) H' fun σ2 H2 => L2.wipe σ2 own = L2.wipe σ own ∧ tt σ2 H2 fun b H3 =>
        if b = true then te σ2 H3 fun y H4 => ∃ acc, H4 Dl = some (.lst acc) ∧ acc.length < sizeLine ∧ Nx (upd H4 Dl (.lst (acc ++ [y]))) else Nx H3) := by
  have f0 := S1.fresh hD
  refine lc_it W (fun i H => ∃ κ2 G2 M3 acc as zs, Le κ1 G1 κ2 G2 ∧ Sm K (F.up Dl (.lst acc)) κ2 G2 M3 H ∧ Rvs K G2 acc as ∧ acc.length ≤ i ∧ i ≤ xs.length ∧ compL (stand src M') (compStep tg t el (wipeD ρ own)) (xs.drop i) M3 = some (zs, M2) ∧ ys = as ++ zs) ?_ ?_ ?_ ?_
  · exact ⟨κ1, G1, M', [], [], ys, Le.refl _ _, S1.frame hD [], .nil, Nat.zero_le _, Nat.zero_le _, hl, rfl⟩
  · rintro i H hi ⟨κ2, G2, M3, acc, as, zs, l2, S2, ra, la, _, h2, e2⟩
    refine hG _ κ2 G2 M3 H l2 S2 ?_
    cases hx : xs.drop i with
    | nil => rw [hx] at h2; unfold compL at h2; exact (grd_some h2).1
    | cons y r => rw [hx] at h2; unfold compL at h2; exact (grd_some h2).1
  · rintro i x H H' hi ⟨κ2, G2, M3, acc, as, zs, l2, S2, ra, la, _, h2, e2⟩ hy
    have hx : xs.drop i = xs[i] :: xs.drop (i + 1) := List.drop_eq_getElem_cons hi
    rw [hx] at h2
    unfold compL at h2
    obtain ⟨st, h2⟩ := grd_some h2
    obtain ⟨G3, d, x3, S3, ed, rd⟩ := hY i _ κ2 G2 M3 H x H' hi l2 S2 st hy
    have ed2 : xs[i] = d := by
      rw [List.getElem?_eq_getElem hi] at ed
      exact Option.some.inj ed
    rw [ed2] at h2
    have l3 : Le κ1 G1 κ2 G3 := l2.trans ⟨List.prefix_refl _, x3⟩
    cases es : compStep tg t el (wipeD ρ own) d M3 with
    | none => simp only [es] at h2; cases h2
    | some q =>
      obtain ⟨o, M5⟩ := q
      simp only [es] at h2
      cases ec : compL (stand src M') (compStep tg t el (wipeD ρ own)) (xs.drop (i + 1)) M5 with
      | none => simp only [ec] at h2; cases h2
      | some q =>
        obtain ⟨zs', M6⟩ := q
        simp only [ec] at h2
        unfold compStep at es
        cases ep : tg.put (.d d) (wipeD ρ own) with
        | none => simp only [ep] at es; cases es
        | some ρ1 =>
          simp only [ep] at es
          refine put_ok S3 tg (x := .d d) rd ((E.mono l3).wipe2 own) ep fun σ2 E2 w2 => ⟨?_, ?_⟩
          · rw [w2 own hown]
            apply List.ext_getElem?
            intro j
            rw [wipe_get, wipe_get, wipe_length_ite]
          · cases et : t ρ1 M3 with
            | none => simp only [et] at es; cases es
            | some p =>
              obtain ⟨b, M4⟩ := p
              simp only [et] at es
              refine ht.run S3 E2 et fun κ4 G4 H4 l4 S4 => ?_
              cases b with
              | false =>
                simp only at es
                cases es
                cases h2
                rw [if_neg Bool.false_ne_true]
                exact ⟨κ4, G4, _, acc, as, _, l3.trans l4, S4, (ra.mono x3).mono l4.ex, by omega, by omega, ec, e2⟩
              | true =>
                simp only at es
                rw [if_pos rfl]
                cases ee : el ρ1 M4 with
                | none => simp only [ee] at es; cases es
                | some q =>
                  obtain ⟨v, M7⟩ := q
                  simp only [ee] at es
                  cases v with
                  | c n => simp only at es; cases es
                  | r n => simp only at es; cases es
                  | o _ _ _ => simp only at es; cases es
                  | d y =>
                    simp only at es
                    cases es
                    cases h2
                    refine he.run S4 (E2.mono l4) ee fun κ5 G5 u H5 l5 S5 r5 => ?_
                    have ra5 : Rvs K G5 acc as := ((ra.mono x3).mono l4.ex).mono l5.ex
                    refine ⟨acc, S5.fx Dl _ upd_same, sz_big1 (by omega), κ5, G5, _, acc ++ [u], as ++ [y], zs', (l3.trans l4).trans l5, S5.grow _, ra5.append (.cons r5 .nil), by simp; omega, by omega, ec, ?_⟩
                    rw [e2]
                    simp
  · rintro H ⟨κ2, G2, M3, acc, as, zs, l2, S2, ra, la, _, h2, e2⟩
    rw [List.drop_length] at h2
    unfold compL at h2
    obtain ⟨st, h2⟩ := grd_some h2
    cases h2
    rw [List.append_nil] at e2
    subst e2
    obtain ⟨κ', G', l', S', r'⟩ := S2.made f0.2.1 ra hm
    exact k κ' G' _ _ (l2.trans l') S' r'
theorem sim_lc {c : Bool} {wi : TI} {it : DI} {tg : Tgt} {tt : TT} {t : DT} {te : TE} {el : DE} {own : List Nat} (hi : SimI K wi it) (ht : SimT K tt t) (he : SimE K te el) (hown : ∀ i ∈ tg.slots, i ∈ own) : SimE K (tLc wi (tg.tg K) tt te own) (eComp c it tg t el own) := ⟨fun {F κ G σ ρ M H Q z Mz} S E h k => by
  unfold eComp at h
  split at h
  · rename_i xs src M' e
    obtain ⟨hz, h⟩ := grd_some h
    split at h
    · rename_i ys M2 hl
      refine hi.run S E e fun κ1 G1 H1 J Gd Y l1 S1 W hG hY => fun Dl hD => ?_
      exact compL_run ht he hown (E.mono l1) S1 W hG hY hD hl hz h (k.weak l1)
    · cases h
  · cases h⟩
end
end Rw
end PRwSimS
section PRwSimD
set_option Elab.async false
set_option linter.all false
set_option maxRecDepth 100000
set_option maxHeartbeats 2000000
namespace Rw
open PySem L2 PySem.Spec PyProof.Rows
open Evl (Ex)
/-- behind a statement -/
def PO' (K : PySem.W.Frag) (F : Fz) (κ : List Addr) (G : Hp) (D : Ends) : Out → Prop
  | .nx ρ M => ∀ κ' G' σ' H', Le κ G κ' G' → Sm K F κ' G' M H' → Se K κ' G' σ' ρ → D.nx σ' H'
  | .rt v M => ∀ κ' G' u H', Le κ G κ' G' → Sm K F κ' G' M H' → Rx K κ' G' u v → D.rt u H'
  | .bk ρ M => ∀ κ' G' σ' H', Le κ G κ' G' → Sm K F κ' G' M H' → Se K κ' G' σ' ρ → D.bk σ' H'
  | .ct ρ M => ∀ κ' G' σ' H', Le κ G κ' G' → Sm K F κ' G' M H' → Se K κ' G' σ' ρ → D.ct σ' H'
structure SimS (K : PySem.W.Frag) (t : TS) (s : DS) : Prop where
  run : ∀ {F κ G σ ρ M H D o}, Sm K F κ G M H → Se K κ G σ ρ → s ρ M = some o → PO' K F κ G D o → t D σ H
section
variable {K : PySem.W.Frag}
theorem PO'.weak {F : Fz} {κ κ1 : List Addr} {G G1 : Hp} {D : Ends} {o : Out} (l : Le κ G κ1 G1) (k : PO' K F κ G D o) : PO' K F κ1 G1 D o := by
  cases o <;> exact fun κ' G' u H' l' S r => k κ' G' u H' (l.trans l') S r
theorem ss_pass : SimS K tNext dPass := ⟨fun {F κ G σ ρ M H D o} S E h k => by
  cases h
  exact k κ G σ H (Le.refl _ _) S E⟩
theorem ss_seq {t u : TS} {a b : DS} (ha : SimS K t a) (hb : SimS K u b) : SimS K (tSeq t u) (dSeq a b) := ⟨fun {F κ G σ ρ M H D o} S E h k => by
  unfold dSeq at h
  split at h
  · rename_i ρ1 M1 e
    exact ha.run (D := { D with nx := u D }) S E e fun κ1 G1 σ1 H1 l1 S1 E1 => hb.run S1 E1 h (k.weak l1)
  · rename_i q e
    refine ha.run (D := { D with nx := u D }) S E h ?_
    cases o with
    | nx ρ1 M1 => exact absurd h (e ρ1 M1)
    | rt v M1 => exact k
    | bk ρ1 M1 => exact k
    | ct ρ1 M1 => exact k⟩
theorem ss_asg {te : TE} {a : DE} {tg : Tgt} (ha : SimE K te a) : SimS K (tAsg te (tg.tg K)) (dAsg tg a) := ⟨fun {F κ G σ ρ M H D o} S E h k => by
  unfold dAsg at h
  split at h
  · rename_i v M1 e
    split at h
    · rename_i ρ1 e2
      cases h
      exact ha.run S E e fun κ1 G1 u H1 l1 S1 r1 => put_ok S1 tg r1 (E.mono l1) e2 fun σ2 E2 _ => k κ1 G1 σ2 H1 l1 S1 E2
    · cases h
  · cases h⟩
theorem ss_par {ta tb : TE} {a b : DE} {i j : Nat} (ha : SimE K ta a) (hb : SimE K tb b) : SimS K (tPar i j (tCons ta (tCons tb tNil))) (dPar i j a b) := ⟨fun {F κ G σ ρ M H D o} S E h k => by
  unfold dPar at h
  split at h
  · rename_i x M1 e
    split at h
    · rename_i y M2 e2
      cases h
      refine ha.run S E e fun κ1 G1 u H1 l1 S1 r1 => hb.run S1 (E.mono l1) e2 fun κ2 G2 v H2 l2 S2 r2 => ⟨u, v, rfl, ?_⟩
      exact k κ2 G2 _ H2 (l1.trans l2) S2 ((((E.mono l1).mono l2).set (r1.mono l2) i).set r2 j)
    · cases h
  · cases h⟩
/-- in place -/
def SimIp (K : PySem.W.Frag) (r : TIp) (f : O2) : Prop := ∀ {F κ G M H Q x y z M' u v}, Sm K F κ G M H → Rx K κ G u x → Rx K κ G v y → f x y M = some (z, M') → PV K F κ G Q z M' → r u v H Q
theorem ip_addI : SimIp K (ipI fun i j => i + j) (oI fun i j => .int (i + j)) := fun {F κ G M H Q x y z M' u v} S rx ry h k => by
  unfold oI at h
  split at h
  · cases h
    exact ⟨_, _, rx_int rx, rx_int ry, k.here S (Rv.int _)⟩
  · cases h
theorem ip_subI : SimIp K (ipI fun i j => i - j) (oI fun i j => .int (i - j)) := fun {F κ G M H Q x y z M' u v} S rx ry h k => by
  unfold oI at h
  split at h
  · cases h
    exact ⟨_, _, rx_int rx, rx_int ry, k.here S (Rv.int _)⟩
  · cases h
theorem ss_aug {te : TE} {a : DE} {i : Nat} {r : TIp} {f : O2} (hr : SimIp K r f) (ha : SimE K te a) : SimS K (tAug i te r) (dAug i f a) := ⟨fun {F κ G σ ρ M H D o} S E h k => by
  unfold dAug at h
  split at h
  · rename_i x ex
    split at h
    · rename_i y M1 e
      split at h
      · rename_i z M2 e2
        cases h
        obtain ⟨u, hu, ru⟩ := E.at_ i x ex
        refine ⟨u, hu, ha.run S E e fun κ1 G1 v H1 l1 S1 r1 => hr S1 (ru.mono l1) r1 e2 fun κ2 G2 w H2 l2 S2 r2 => ?_⟩
        exact k κ2 G2 _ H2 (l1.trans l2) S2 (((E.mono l1).mono l2).set r2 i)
      · cases h
    · cases h
  · cases h⟩
theorem ss_put {to ti te : TE} {o i e : DE} (ho : SimE K to o) (hi : SimE K ti i) (he : SimE K te e) : SimS K (tAsg te (gSub to ti rSetL)) (dPut o i e) := ⟨fun {F κ G σ ρ M H D oo} S E h k => by
  unfold dPut at h
  split at h
  · rename_i x M1 e1
    split at h
    · rename_i n M2 e2
      split at h
      · rename_i kk M3 e3
        split at h
        · rename_i xs ex
          split at h
          · rename_i j ej
            cases h
            refine he.run S E e1 fun κ1 G1 u H1 l1 S1 r1 => ho.run S1 (E.mono l1) e2 fun κ2 G2 v H2 l2 S2 r2 => hi.run S2 ((E.mono l1).mono l2) e3 fun κ3 G3 w H3 l3 S3 r3 => ?_
            obtain ⟨a, rfl, ha⟩ := r2.mono l3
            obtain ⟨us, _, _, q3, q4⟩ := cell_at S3 ex ha
            refine ⟨a, us, kk, j, rfl, rx_int r3, q3, by rw [q4.length, ← ixD_eq]; exact ej, ?_⟩
            exact k κ3 G3 σ _ ((l1.trans l2).trans l3) (S3.put ex ha (q4.set ((Rv.mono l2.ex r1).mono l3.ex) j)) (((E.mono l1).mono l2).mono l3)
          · cases h
        · cases h
      · cases h
    · cases h
  · cases h⟩
theorem ss_expr {te : TE} {a : DE} (ha : SimE K te a) : SimS K (tDrop te) (dExpr a) := ⟨fun {F κ G σ ρ M H D o} S E h k => by
  unfold dExpr at h
  split at h
  · rename_i v M1 e
    cases h
    exact ha.run S E e fun κ1 G1 u H1 l1 S1 r1 => k κ1 G1 σ H1 l1 S1 (E.mono l1)
  · cases h⟩
theorem ss_ret {te : TE} {a : DE} (ha : SimE K te a) : SimS K (tRet te) (dRet a) := ⟨fun {F κ G σ ρ M H D o} S E h k => by
  unfold dRet at h
  split at h
  · rename_i v M1 e
    cases h
    exact ha.run S E e k
  · cases h⟩
theorem ss_retN : SimS K tRetN dRetN := ⟨fun {F κ G σ ρ M H D o} S E h k => by
  cases h
  exact k κ G _ H (Le.refl _ _) S Rv.non⟩
theorem ss_if {tc : TT} {c : DT} {t u : TS} {a b : DS} (hc : SimT K tc c) (ha : SimS K t a) (hb : SimS K u b) : SimS K (tIfS tc t u) (dIf c a b) := ⟨fun {F κ G σ ρ M H D o} S E h k => by
  unfold dIf at h
  split at h
  · rename_i M1 e
    refine hc.run S E e fun κ1 G1 H1 l1 S1 => ?_
    show (if true = true then _ else _)
    rw [if_pos rfl]
    exact ha.run S1 (E.mono l1) h (k.weak l1)
  · rename_i M1 e
    refine hc.run S E e fun κ1 G1 H1 l1 S1 => ?_
    show (if false = true then _ else _)
    rw [if_neg Bool.false_ne_true]
    exact hb.run S1 (E.mono l1) h (k.weak l1)
  · cases h⟩
theorem ss_break : SimS K tBreak dBreak := ⟨fun {F κ G σ ρ M H D o} S E h k => by
  cases h
  exact k κ G σ H (Le.refl _ _) S E⟩
theorem ss_cont : SimS K tCont dCont := ⟨fun {F κ G σ ρ M H D o} S E h k => by
  cases h
  exact k κ G σ H (Le.refl _ _) S E⟩
theorem ss_never : SimS K tNever dNever := ⟨fun {F κ G σ ρ M H D o} S E h k => by cases h⟩
/-- slots forgotten -/
theorem ss_wipe {t : TS} {a : DS} (vs : List Nat) (ha : SimS K t a) : SimS K t (dWipe vs a) := ⟨fun {F κ G σ ρ M H D o} S E h k => by
  unfold dWipe at h
  split at h
  · rename_i q e
    cases h
    refine ha.run S E e ?_
    cases q with
    | nx ρ1 M1 => exact fun κ' G' σ' H' l S' E' => k κ' G' σ' H' l S' (E'.wipe vs)
    | bk ρ1 M1 => exact fun κ' G' σ' H' l S' E' => k κ' G' σ' H' l S' (E'.wipe vs)
    | ct ρ1 M1 => exact fun κ' G' σ' H' l S' E' => k κ' G' σ' H' l S' (E'.wipe vs)
    | rt v M1 => exact k
  · cases h⟩
theorem ss_for {wi : TI} {it : DI} {tg : Tgt} {tb : TS} {s : DS} (hi : SimI K wi it) (hs : SimS K tb s) : SimS K (tFor wi (tg.tg K) tb) (dFor it tg s) := ⟨fun {F κ G σ ρ M H D o} S E h k => by
  unfold dFor at h
  split at h
  · rename_i xs src M' e
    refine hi.run S E e fun κ1 G1 H1 J Gd Y l1 S1 W hG hY => ?_
    refine for_it W (fun i σ H => ∃ κ2 G2 ρ2 M3, Le κ1 G1 κ2 G2 ∧ Sm K F κ2 G2 M3 H ∧ Se K κ2 G2 σ ρ2 ∧ i ≤ xs.length ∧ forL (stand src M') (forStep tg s) (xs.drop i) ρ2 M3 = some o) ?_ ?_ ?_ ?_
    · exact ⟨κ1, G1, ρ, M', Le.refl _ _, S1, E.mono l1, Nat.zero_le _, h⟩
    · rintro i σ H hi ⟨κ2, G2, ρ2, M3, l2, S2, E2, _, h2⟩
      refine hG F κ2 G2 M3 H l2 S2 ?_
      cases hx : xs.drop i with
      | nil => rw [hx] at h2; unfold forL at h2; exact (grd_some h2).1
      | cons y r => rw [hx] at h2; unfold forL at h2; exact (grd_some h2).1
    · rintro i x σ H H' hi ⟨κ2, G2, ρ2, M3, l2, S2, E2, _, h2⟩ hy
      have hx : xs.drop i = xs[i] :: xs.drop (i + 1) := List.drop_eq_getElem_cons hi
      rw [hx] at h2
      unfold forL at h2
      obtain ⟨st, h2⟩ := grd_some h2
      obtain ⟨G3, d, x3, S3, ed, rd⟩ := hY i F κ2 G2 M3 H x H' hi l2 S2 st hy
      have ed2 : xs[i] = d := by
        rw [List.getElem?_eq_getElem hi] at ed
        exact Option.some.inj ed
      rw [ed2] at h2
      have l3 : Le κ1 G1 κ2 G3 := l2.trans ⟨List.prefix_refl _, x3⟩
      cases es : forStep tg s d ρ2 M3 with
      | none => simp only [es] at h2; cases h2
      | some q =>
        simp only [es] at h2
        unfold forStep at es
        cases ep : tg.put (.d d) ρ2 with
        | none => simp only [ep] at es; cases es
        | some ρ1 =>
          simp only [ep] at es
          refine put_ok S3 tg (x := .d d) rd (E2.mono ⟨List.prefix_refl _, x3⟩) ep fun σ2 E3 _ => hs.run S3 E3 es ?_
          cases q with
          | nx ρ4 M4 => exact fun κ' G' σ' H' l S' E' => ⟨κ', G', ρ4, M4, l3.trans l, S', E', by omega, h2⟩
          | ct ρ4 M4 => exact fun κ' G' σ' H' l S' E' => ⟨κ', G', ρ4, M4, l3.trans l, S', E', by omega, h2⟩
          | bk ρ4 M4 =>
            cases h2
            exact fun κ' G' σ' H' l S' E' => k κ' G' σ' H' ((l1.trans l3).trans l) S' E'
          | rt v M4 =>
            cases h2
            exact fun κ' G' u H' l S' r => k κ' G' u H' ((l1.trans l3).trans l) S' r
    · rintro σ H ⟨κ2, G2, ρ2, M3, l2, S2, E2, _, h2⟩
      rw [List.drop_length] at h2
      unfold forL at h2
      obtain ⟨st, h2⟩ := grd_some h2
      cases h2
      exact k κ2 G2 σ H (l1.trans l2) S2 E2
  · cases h⟩
theorem ss_while {tc : TT} {c : DT} {tb : TS} {s : DS} (hc : SimT K tc c) (hs : SimS K tb s) : SimS K (tWhile tc tb) (dWhile c s) := ⟨fun {F κ G σ ρ M H D o} S E h k => by
  obtain ⟨n, hn⟩ := dWhile_some h
  refine ⟨fun m σ H => ∃ κ2 G2 ρ2 M2, Le κ G κ2 G2 ∧ Sm K F κ2 G2 M2 H ∧ Se K κ2 G2 σ ρ2 ∧ whileL c s m ρ2 M2 = some o, ⟨n, κ, G, ρ, M, Le.refl _ _, S, E, hn⟩, ?_⟩
  rintro m σ H ⟨κ2, G2, ρ2, M2, l2, S2, E2, h2⟩
  cases m with
  | zero => cases h2
  | succ m =>
    unfold whileL at h2
    cases ec : c ρ2 M2 with
    | none => simp only [ec] at h2; cases h2
    | some p =>
      obtain ⟨b, M3⟩ := p
      simp only [ec] at h2
      refine hc.run S2 E2 ec fun κ3 G3 H3 l3 S3 => ?_
      cases b with
      | false =>
        rw [if_neg Bool.false_ne_true]
        simp only at h2
        cases h2
        exact k κ3 G3 σ H3 (l2.trans l3) S3 (E2.mono l3)
      | true =>
        rw [if_pos rfl]
        simp only at h2
        cases es : s ρ2 M3 with
        | none => simp only [es] at h2; cases h2
        | some q =>
          simp only [es] at h2
          refine ⟨fun σ' H' => ∃ κ4 G4 ρ4 M4, Le κ G κ4 G4 ∧ Sm K F κ4 G4 M4 H' ∧ Se K κ4 G4 σ' ρ4 ∧ whileL c s m ρ4 M4 = some o, fun σ' H' w => ⟨m, Nat.lt_succ_self _, w⟩, hs.run S3 (E2.mono l3) es ?_⟩
          cases q with
          | nx ρ4 M4 => exact fun κ' G' σ' H' l S' E' => ⟨κ', G', ρ4, M4, (l2.trans l3).trans l, S', E', h2⟩
          | ct ρ4 M4 => exact fun κ' G' σ' H' l S' E' => ⟨κ', G', ρ4, M4, (l2.trans l3).trans l, S', E', h2⟩
          | bk ρ4 M4 =>
            cases h2
            exact fun κ' G' σ' H' l S' E' => k κ' G' σ' H' ((l2.trans l3).trans l) S' E'
          | rt v M4 =>
            cases h2
            exact fun κ' G' u H' l S' r => k κ' G' u H' ((l2.trans l3).trans l) S' r⟩

/-! ### defs -/
/-- a def's promise: it does as f -/
def spD (K : PySem.W.Frag) (f : DF) (n : Nat) : Sp := fun vs H Q _ => ∃ F κ G M as v M', Sm K F κ G M H ∧ Rxs K κ G vs as ∧ as.length = n ∧ f as M = some (v, M') ∧ PV K F κ G Q v M'
theorem sim_call {f : DF} {n : Nat} {t : TA} {as : DA} {E : XK} (ha : SimA K t as) (hn : ∀ ρ M vs M', as ρ M = some (vs, M') → vs.length = n) : SimE K (tCall (spD K f n) [] E t) (eCall f as) := ⟨fun {F κ G σ ρ M H Q z M'} S E h k => by
  unfold eCall eA at h
  split at h
  · rename_i xs M1 e
    refine ha.run S E e fun κ1 G1 us H1 l1 S1 r1 => ?_
    rw [List.append_nil]
    exact ⟨F, κ1, G1, M1, xs, z, M', S1, r1, hn _ _ _ _ e, h, k.weak l1⟩
  · cases h⟩
theorem al_nil : ∀ ρ M vs M', aNil ρ M = some (vs, M') → vs.length = 0 := fun ρ M vs M' h => by cases h; rfl
theorem al_cons {a : DE} {as : DA} {n : Nat} (h : ∀ ρ M vs M', as ρ M = some (vs, M') → vs.length = n) : ∀ ρ M vs M', aCons a as ρ M = some (vs, M') → vs.length = n + 1 := fun ρ M vs M' e => by
  unfold aCons at e
  split at e
  · split at e
    · rename_i xs M2 e2
      cases e
      simp [h _ _ _ _ e2]
    · cases e
  · cases e
theorem start_se {κ : List Addr} {G : Hp} {N : List Str} : ∀ {vs : List V} {as : List Dv}, Rxs K κ G vs as → Se K κ G (start N vs) (startD N.length as) := fun {vs as} r => by
  refine ⟨by simp [L2.start, startD, r.length], fun i x e => ?_⟩
  unfold startD at e
  by_cases hi : i < as.length
  · rw [List.getElem?_append_left (by simpa using hi)] at e
    rw [List.getElem?_map] at e
    cases ea : as[i]? with
    | none => rw [ea] at e; cases e
    | some y =>
      rw [ea] at e
      cases e
      have : ∀ {vs : List V} {as : List Dv} {i : Nat} {y : Dv}, Rxs K κ G vs as → as[i]? = some y → ∃ v, vs[i]? = some v ∧ Rx K κ G v y := by
        intro vs as i y r h
        induction r generalizing i with
        | nil => simp at h
        | cons a r ih =>
          cases i with
          | zero => simp at h; subst h; exact ⟨_, rfl, a⟩
          | succ i =>
            obtain ⟨v, h1, h2⟩ := ih (i := i) (by simpa using h)
            exact ⟨v, by simpa using h1, h2⟩
      obtain ⟨v, hv, rv⟩ := this r ea
      refine ⟨v, ?_, rv⟩
      unfold L2.start
      rw [List.getElem?_append_left (by simpa [r.length] using hi), List.getElem?_map, hv]
      rfl
  · rw [List.getElem?_append_right (by simpa using hi), List.getElem?_replicate] at e
    split at e <;> cases e
/-- behind a def -/
theorem fin_ok {F : Fz} {κ κ' : List Addr} {G G' : Hp} {M M1 M' : DSt} {H' : Hp} {Q : VK} {v z : Dv} {u : V} (hl : κ.length = M.length) (l : Le κ G κ' G') (S : Sm K F κ' G' M1 H') (r : Rx K κ' G' u v) (h : fin M.length v M1 = some (z, M')) (k : PV K F κ G Q z M') : Q u H' := by
  have e4 : κ'.take M.length = κ := by
    obtain ⟨t, rfl⟩ := l.pre
    rw [← hl, List.take_left]
  have S2 := S.take M.length
  rw [e4] at S2
  have l2 : Le κ G κ G' := ⟨List.prefix_refl _, l.ex⟩
  unfold fin at h
  split at h
  · rename_i n
    obtain ⟨a, rfl, ha⟩ := r
    split at h
    · rename_i hn
      cases h
      refine k κ G' _ H' l2 S2 ⟨a, rfl, ?_⟩
      rw [← e4, List.getElem?_take, if_pos hn]
      exact ha
    · rename_i hn
      split at h
      · rename_i xs ex
        cases h
        obtain ⟨us, q1, q2, q3, q4⟩ := cell_at S ex ha
        have na : a ∉ κ := fun hm => by
          obtain ⟨j, hj, ej⟩ := List.getElem_of_mem hm
          obtain ⟨l1, g1⟩ := List.getElem?_eq_some_iff.mp ha
          have h2 : κ'[j]? = some a := l.at_ (by rw [List.getElem?_eq_getElem hj, ej])
          obtain ⟨l3, g3⟩ := List.getElem?_eq_some_iff.mp h2
          have := (List.getElem_inj S.nd).mp (g1.trans g3.symm)
          omega
        refine k (κ ++ [a]) G' _ H' ⟨List.prefix_append _ _, l.ex⟩ (S2.cell na q1 q2 (S.zn ex ha) q3 fun es e => by cases e; exact q4) ⟨a, rfl, last_at hl⟩
      · cases h
  · cases h
  · rename_i hnc hno
    cases h
    refine k κ G' u H' l2 S2 ?_
    cases v with
    | d x => exact r
    | c n => exact absurd rfl (hnc n)
    | r xs => exact r
    | o c ns gs => exact absurd rfl (hno c ns gs)

/-! ### the judgements over syntax -/
structure PD (X : Cx) (e : Expr) (d : DE) : Prop where
  ex : ∃ t, PE X e t ∧ SimE X.K t d
structure PDT (X : Cx) (e : Expr) (d : DT) : Prop where
  ex : ∃ t, PT X e t ∧ SimT X.K t d
structure PDW (X : Cx) (e : Expr) (d : DT) : Prop where
  ex : ∃ t, PW X e t ∧ SimT X.K t d
structure PDA (X : Cx) (es : List Expr) (d : DA) (n : Nat) : Prop where
  ex : ∃ t, PA X es t ∧ SimA X.K t d
  len : ∀ ρ M vs M', d ρ M = some (vs, M') → vs.length = n
structure PDI (X : Cx) (tg it : Expr) (d : DI) : Prop where
  ex : ∃ t, PI X tg it t ∧ SimI X.K t d
structure PDS (X : Cx) (s : Stmt) (d : DS) : Prop where
  ex : ∃ t, PS X s t ∧ SimS X.K t d
structure PDB (X : Cx) (s : List Stmt) (d : DS) : Prop where
  ex : ∃ t, PSs X s t ∧ SimS X.K t d
structure PDG (X : Cx) (e : Expr) (t : Tgt) : Prop where
  ex : PG X e (t.tg X.K)
structure PDGs (X : Cx) (es : List Expr) (ts : List Tgt) : Prop where
  ex : PGs X es (Tgt.tgs X.K ts)
structure PDO (X : Cx) (e : Option Expr) (d : DO) : Prop where
  ex : ∃ t, PO X e t ∧ SimO X.K t d
end
/-- THE RULE for a def that raises nothing -/
theorem fn_ok {P : Program} {w : World} {K : PySem.W.Frag} {mg : Str → Option Value} {base : Heap} {x qual : Str} {st : Stmt} {f : Addr} {fd : FuncData} {N ps : List Str} {k : Nat} {ds : DS} (F : Fun K x qual st f fd) (S : FnScope N ps (defScope st))
    (hb : ∀ (cdv : Value) (A : Around) (outer : List Env) (s : Shared) (H : Hp) (E : XK), Room k (A.deeper (envOfC qual (defScope st) s.heap.objs.size f cdv)) → PDB (cxOf CX0 P w K mg base N qual (defScope st) f cdv A outer s H E).nox (defBody st) ds) :
    FnOk P w K mg base CX0 (k + 1) f fd ps (spD K (fnD N.length ds) ps.length) := by
  refine F.ok S (fun vs H Q E h => ?_) (fun cdv A outer s H vs Q E hr h => ?_)
  · obtain ⟨F', κ, G, M, as, v, M', _, r, hl, _⟩ := h
    rw [r.length, hl]
  · obtain ⟨F', κ, G, M, as, v, M', S0, r, hl, hf, k0⟩ := h
    obtain ⟨t, ht, hs⟩ := (hb cdv A outer s H E hr).ex
    refine ⟨t, ht, ?_⟩
    unfold fnD at hf
    split at hf
    · rename_i v1 M1 e
      exact hs.run S0 (start_se r) e fun κ' G' u H' l S' r' => fin_ok S0.len l S' r' hf k0
    · rename_i ρ1 M1 e
      exact hs.run S0 (start_se r) e fun κ' G' σ' H' l S' E' => fin_ok S0.len l S' (show Rx K κ' G' V.non (.d .non) from Rv.non) hf k0
    · cases hf
end Rw
end PRwSimD
section PRwRules
set_option Elab.async false
set_option linter.all false
set_option maxRecDepth 100000
set_option maxHeartbeats 2000000
/-! RwRules: one rule a construct: syntax to the pure reading. -/
namespace Rw
open PySem L2 PySem.Spec PyProof.Rows
section
variable {X : Cx} {a b c e : Expr} {pos : Pos} {da db dc de : DE} {ta tb : DT}
/-! ### expressions -/
theorem d_var (i : Nat) {x : Str} (hN : X.N[i]? = some x := by rfl) (hv : Vis X.env.scope x := by first | exact Or.inl rfl | exact Or.inr (Or.inl rfl) | exact Or.inr (Or.inr rfl)) (hd : (x == ("__debug__" : Str)) = false := by decide)
    (hcd : (x == ("__classdict__" : Str)) = false := by decide) : PD X (.Name x pos) (eVar i) := ⟨_, pe_var hN hv hd hcd, sim_var i⟩
theorem d_int {i : Int} {j} : PD X (.Constant (.int i) j pos) (eC (.int i)) := ⟨_, pe_int, sim_c fun _ => .int i⟩
theorem d_bl {b : Bool} {j} : PD X (.Constant (.bool b) j pos) (eC (.bl b)) := ⟨_, pe_bl, sim_c fun _ => .bl b⟩
theorem d_non {j} : PD X (.Constant .none j pos) (eC .non) := ⟨_, pe_non, sim_c fun _ => .non⟩
theorem d_str {x : Str} {j} : PD X (.Constant (.str x) j pos) (eC (.str x)) := ⟨_, pe_str, sim_c fun _ => .str x⟩
/-- a module's constant -/
theorem d_glob {x : Str} {v : V} {d : D} {u : Value} (hg : Gl X x) (hm : X.mg x = some u) (r : RelV v u) (hd : ∀ G, Rv X.K G v d) (hx : (x == ("__debug__" : Str)) = false := by decide) : PD X (.Name x pos) (eC d) := ⟨_, pe_glob hg hm r hx, sim_c hd⟩
/-- a built-in class as a value -/
theorem d_ty {x : Str} {n : String} (hg : Gl X x) (hm : X.mg x = none) (hv : bootBuiltins x = some (.type n)) (hn : x ≠ "__name__" := by decide) (hd : (x == ("__debug__" : Str)) = false := by decide) (hT : n ∈ tyNs := by decide) : PD X (.Name x pos) (eC (.ty n)) := ⟨_, pe_bltn (v := .ty n) hg hm hv rfl hn hd, sim_c fun _ => .ty n hT⟩
theorem d_op {op : Operator} {r : R2} {f : O2} (ho : OpR X (binaryOp op) r) (hs : SimR2 X.K r f) (ha : PD X a da) (hb : PD X b db) : PD X (.BinOp a op b pos) (e2 f da db) := by
  obtain ⟨t, h1, h2⟩ := ha.ex
  obtain ⟨u, h3, h4⟩ := hb.ex
  exact ⟨_, pe_op ho h1 h3, sim_op hs h2 h4⟩
theorem d_add (c : Bool) (ha : PD X a da) (hb : PD X b db) : PD X (.BinOp a .Add b pos) (e2 (oAdd c) da db) := d_op op_add3 (sr_add c) ha hb
theorem d_sub (ha : PD X a da) (hb : PD X b db) : PD X (.BinOp a .Sub b pos) (e2 oSub da db) := d_op op_sub sr_sub ha hb
theorem d_mul (ha : PD X a da) (hb : PD X b db) : PD X (.BinOp a .Mult b pos) (e2 oMul da db) := d_op op_mulR sr_mul ha hb
theorem d_rep (c : Bool) (ha : PD X a da) (hb : PD X b db) : PD X (.BinOp a .Mult b pos) (e2 (oRep c) da db) := d_op op_rep (sr_rep c) ha hb
theorem d_div (ha : PD X a da) (hb : PD X b db) : PD X (.BinOp a .FloorDiv b pos) (e2 oDiv da db) := d_op op_fdivR sr_div ha hb
theorem d_mod (ha : PD X a da) (hb : PD X b db) : PD X (.BinOp a .Mod b pos) (e2 oMod da db) := d_op op_modN sr_mod ha hb
theorem d_pow (ha : PD X a da) (hb : PD X b db) : PD X (.BinOp a .Pow b pos) (e2 oPow da db) := d_op op_pow sr_pow ha hb
theorem d_neg (ha : PD X a da) : PD X (.UnaryOp .USub a pos) (e1 oNeg da) := by
  obtain ⟨t, h1, h2⟩ := ha.ex
  exact ⟨_, pe_un un_neg h1, sim_un sr_neg h2⟩
/-! comparisons -/
structure CmpR (X : Cx) (op : CmpOp) (f : O2) : Prop where
  ex : ∃ r, OpR X (compareOp op) r ∧ SimR2 X.K r f
theorem k_lt : CmpR X .Lt oLt := ⟨_, op_lt, sr_lt⟩
theorem k_le : CmpR X .LtE oLe := ⟨_, op_le, sr_le⟩
theorem k_gt : CmpR X .Gt oGt := ⟨_, op_gt, sr_gt⟩
theorem k_ge : CmpR X .GtE oGe := ⟨_, op_ge, sr_ge⟩
theorem k_eq {k : Nat} (hr : Room k X.A) : CmpR X .Eq oEq := ⟨_, op_eqD hr.units, sr_eq⟩
theorem k_ne {k : Nat} (hr : Room k X.A) : CmpR X .NotEq oNe := ⟨_, op_neD hr.units, sr_ne⟩
theorem k_in : CmpR X .In (oIn false) := ⟨_, op_in_seq, sr_in false⟩
theorem k_notin : CmpR X .NotIn (oIn true) := ⟨_, op_notIn_seq, sr_in true⟩
theorem d_cmp {op : CmpOp} {f : O2} (hc : CmpR X op f) (ha : PD X a da) (hb : PD X b db) (hm : behindInMarks op b = false := by first | exact nomark _ (by decide) (by decide) | rfl) : PD X (.Compare a [op] [b] pos) (e2 f da db) := by
  obtain ⟨r, h0, h9⟩ := hc.ex
  obtain ⟨t, h1, h2⟩ := ha.ex
  obtain ⟨u, h3, h4⟩ := hb.ex
  exact ⟨_, pe_cmpR h0 h1 h3 hm, sim_op h9 h2 h4⟩
theorem t_cmp {op : CmpOp} {f : O2} (hc : CmpR X op f) (ha : PD X a da) (hb : PD X b db) (hm : behindInMarks op b = false := by first | exact nomark _ (by decide) (by decide) | rfl) : PDT X (.Compare a [op] [b] pos) (tVal (e2 f da db)) := by
  obtain ⟨r, h0, h9⟩ := hc.ex
  obtain ⟨t, h1, h2⟩ := ha.ex
  obtain ⟨u, h3, h4⟩ := hb.ex
  exact ⟨_, pt_cmpR h0 h1 h3 hm, sim_tTest (sim_op h9 h2 h4)⟩
theorem d_isN {j pos'} (ha : PD X a da) : PD X (.Compare a [.Is] [.Constant .none j pos'] pos) (e1 oIsN da) := by
  obtain ⟨t, h1, h2⟩ := ha.ex
  exact ⟨_, pe_cmpR op_isN h1 pe_non (nomark _), sim_isN h2⟩
theorem d_notN {j pos'} (ha : PD X a da) : PD X (.Compare a [.IsNot] [.Constant .none j pos'] pos) (e1 oNotN da) := by
  obtain ⟨t, h1, h2⟩ := ha.ex
  exact ⟨_, pe_cmpR op_notN h1 pe_non (nomark _), sim_notN h2⟩
theorem t_isN {j pos'} (ha : PD X a da) : PDT X (.Compare a [.Is] [.Constant .none j pos'] pos) (tVal (e1 oIsN da)) := by
  obtain ⟨t, h1, h2⟩ := ha.ex
  exact ⟨_, pt_cmpR op_isN h1 pe_non (nomark _), sim_tTest (sim_isN h2)⟩
theorem t_notN {j pos'} (ha : PD X a da) : PDT X (.Compare a [.IsNot] [.Constant .none j pos'] pos) (tVal (e1 oNotN da)) := by
  obtain ⟨t, h1, h2⟩ := ha.ex
  exact ⟨_, pt_cmpR op_notN h1 pe_non (nomark _), sim_tTest (sim_notN h2)⟩
theorem d_chain {op op' : CmpOp} {f g : O2} (hc : CmpR X op f) (hc' : CmpR X op' g) (ha : PD X a da) (hb : PD X b db) (hd : PD X c dc) (hm : lastMarks [op, op'] [b, c] = false := by rfl) :
    PD X (.Compare a [op, op'] [b, c] pos) (eChain f g da db dc) := by
  obtain ⟨r, h0, h9⟩ := hc.ex
  obtain ⟨r', h0', h9'⟩ := hc'.ex
  obtain ⟨t, h1, h2⟩ := ha.ex
  obtain ⟨u, h3, h4⟩ := hb.ex
  obtain ⟨v, h5, h6⟩ := hd.ex
  exact ⟨_, pe_chain h0 h0' h1 h3 h5 hm, sim_chain h9 h9' h2 h4 h6⟩
theorem t_chain {op op' : CmpOp} {f g : O2} (hc : CmpR X op f) (hc' : CmpR X op' g) (ha : PD X a da) (hb : PD X b db) (hd : PD X c dc) (hm : lastMarks [op, op'] [b, c] = false := by rfl) :
    PDT X (.Compare a [op, op'] [b, c] pos) (tVal (eChain f g da db dc)) := by
  obtain ⟨r, h0, h9⟩ := hc.ex
  obtain ⟨r', h0', h9'⟩ := hc'.ex
  obtain ⟨t, h1, h2⟩ := ha.ex
  obtain ⟨u, h3, h4⟩ := hb.ex
  obtain ⟨v, h5, h6⟩ := hd.ex
  exact ⟨_, pt_chain h0 h0' h1 h3 h5 hm, sim_tTest (sim_chain h9 h9' h2 h4 h6)⟩
/-! tests -/
theorem t_val (he : PD X e de) (h : ∀ whole, isTrue e X.env whole = (do let v ← whole; standAt e.pos; holding [v] (truthy v)) := by intro _; rfl) : PDT X e (tVal de) := by
  obtain ⟨t, h1, h2⟩ := he.ex
  exact ⟨_, pt_val h1 h, sim_tB h2⟩
theorem t_not (ha : PDT X a ta) : PDT X (.UnaryOp .Not a pos) (Rw.tNot ta) := by
  obtain ⟨t, h1, h2⟩ := ha.ex
  exact ⟨_, pt_not h1, sim_not h2⟩
variable {rest : List Expr}
theorem w_and1 (ha : PDT X a ta) : PDW X (.BoolOp .And [a] pos) ta := by
  obtain ⟨t, h1, h2⟩ := ha.ex
  exact ⟨_, pw_and1 h1, h2⟩
theorem w_or1 (ha : PDT X a ta) : PDW X (.BoolOp .Or [a] pos) ta := by
  obtain ⟨t, h1, h2⟩ := ha.ex
  exact ⟨_, pw_or1 h1, h2⟩
theorem w_and (ha : PDT X a ta) (hb : PDW X (.BoolOp .And (b :: rest) pos) tb) : PDW X (.BoolOp .And (a :: b :: rest) pos) (Rw.tAnd ta tb) := by
  obtain ⟨t, h1, h2⟩ := ha.ex
  obtain ⟨u, h3, h4⟩ := hb.ex
  exact ⟨_, pw_and h1 h3, sim_and h2 h4⟩
theorem w_or (ha : PDT X a ta) (hb : PDW X (.BoolOp .Or (b :: rest) pos) tb) : PDW X (.BoolOp .Or (a :: b :: rest) pos) (Rw.tOr ta tb) := by
  obtain ⟨t, h1, h2⟩ := ha.ex
  obtain ⟨u, h3, h4⟩ := hb.ex
  exact ⟨_, pw_or h1 h3, sim_or h2 h4⟩
theorem t_w (ha : PDW X a ta) : PDT X a ta := by
  obtain ⟨t, h1, h2⟩ := ha.ex
  exact ⟨_, h1.pt, h2⟩
theorem d_one {op} (ha : PD X a da) : PD X (.BoolOp op [a] pos) da := by
  obtain ⟨t, h1, h2⟩ := ha.ex
  exact ⟨_, pe_one h1, h2⟩
theorem d_and (ha : PD X a da) (hb : PD X (.BoolOp .And (b :: rest) pos) db) : PD X (.BoolOp .And (a :: b :: rest) pos) (eAnd da db) := by
  obtain ⟨t, h1, h2⟩ := ha.ex
  obtain ⟨u, h3, h4⟩ := hb.ex
  exact ⟨_, pe_and h1 h3, sim_andV h2 h4⟩
theorem d_or (ha : PD X a da) (hb : PD X (.BoolOp .Or (b :: rest) pos) db) : PD X (.BoolOp .Or (a :: b :: rest) pos) (eOr da db) := by
  obtain ⟨t, h1, h2⟩ := ha.ex
  obtain ⟨u, h3, h4⟩ := hb.ex
  exact ⟨_, pe_or h1 h3, sim_orV h2 h4⟩
theorem d_not (ha : PD X a da) : PD X (.UnaryOp .Not a pos) (eNot da) := by
  obtain ⟨t, h1, h2⟩ := ha.ex
  exact ⟨_, pe_not h1, sim_notV h2⟩
theorem d_ifE {tc : DT} (hc : PDT X c tc) (ha : PD X a da) (hb : PD X b db) : PD X (.IfExp c a b pos) (eIf tc da db) := by
  obtain ⟨t, h1, h2⟩ := hc.ex
  obtain ⟨u, h3, h4⟩ := ha.ex
  obtain ⟨v, h5, h6⟩ := hb.ex
  exact ⟨_, pe_ifExp h1 h3 h5, sim_ifE h2 h4 h6⟩
/-! arguments, displays, calls -/
variable {es : List Expr} {das : DA} {n : Nat}
theorem a_nil : PDA X [] aNil 0 := ⟨⟨_, pa_nil, sim_nil⟩, al_nil⟩
theorem a_cons (ha : PD X e de) (hr : PDA X es das n) (hs : starEach (e :: es) X.env = (false, eval e X.env) :: starEach es X.env := by rfl) : PDA X (e :: es) (aCons de das) (n + 1) := by
  obtain ⟨t, h1, h2⟩ := ha.ex
  obtain ⟨u, h3, h4⟩ := hr.ex
  exact ⟨⟨_, pa_cons h1 h3 hs, sim_cons h2 h4⟩, al_cons hr.len⟩
theorem d_tup {x1} (h : PDA X es das n) : PD X (.Tuple es x1 pos) (eTup das) := by
  obtain ⟨t, h1, h2⟩ := h.ex
  exact ⟨_, pe_tup h1, sim_tup h2⟩
theorem d_lst (c : Bool) (h : PDA X es das n) : PD X (.List es pos) (eLst c das) := by
  obtain ⟨t, h1, h2⟩ := h.ex
  exact ⟨_, pe_lst h1, sim_lst c h2⟩
theorem d_frz (h : PD X e de) : PD X e (eFrz de) := by
  obtain ⟨t, h1, h2⟩ := h.ex
  exact ⟨_, h1, sim_frz h2⟩
theorem d_frzC (h : PD X e de) : PD X e (eFrzC de) := by
  obtain ⟨t, h1, h2⟩ := h.ex
  exact ⟨_, h1, sim_frzC h2⟩
theorem d_ix (ha : PD X a da) (hb : PD X b db) (hs : PlainIx b := by exact fun _ _ => rfl) : PD X (.Subscript a b pos) (e2 oIx da db) := by
  obtain ⟨t, h1, h2⟩ := ha.ex
  obtain ⟨u, h3, h4⟩ := hb.ex
  exact ⟨_, pe_ix ix_seq h1 h3 hs, sim_op sr_ix h2 h4⟩
theorem o_none : PDO X none pNone := ⟨_, po_none, sim_pn⟩
theorem o_some (h : PD X e de) : PDO X (some e) (pSome de) := by
  obtain ⟨t, h1, h2⟩ := h.ex
  exact ⟨_, po_some h1, sim_ps h2⟩
variable {lo hi : Option Expr} {dl dh : DO} {p2 : Pos}
theorem d_slL (c : Bool) (he : PD X e de) (hl : PDO X lo dl) (hh : PDO X hi dh) : PD X (.Subscript e (.Slice lo hi none p2) pos) (eSl (slL c) de dl dh) := by
  obtain ⟨t, h1, h2⟩ := he.ex
  obtain ⟨u, h3, h4⟩ := hl.ex
  obtain ⟨v, h5, h6⟩ := hh.ex
  exact ⟨_, pe_slice sl_list h1 h3 h5, sim_sl (ss_list c) h2 h4 h6⟩
theorem d_slT (he : PD X e de) (hl : PDO X lo dl) (hh : PDO X hi dh) : PD X (.Subscript e (.Slice lo hi none p2) pos) (eSl slT de dl dh) := by
  obtain ⟨t, h1, h2⟩ := he.ex
  obtain ⟨u, h3, h4⟩ := hl.ex
  obtain ⟨v, h5, h6⟩ := hh.ex
  exact ⟨_, pe_slice sl_tupA h1 h3 h5, sim_sl ss_tup h2 h4 h6⟩
theorem d_rev (c : Bool) {k : Nat} {p1 p3 p4 : Pos} (he : PD X e de) : PD X (.Subscript e (.Slice none none (some (.UnaryOp .USub (.Constant (.int 1) k p1) p4)) p3) pos) (e1 (oRev c) de) := by
  obtain ⟨t, h1, h2⟩ := he.ex
  exact ⟨_, pe_revL h1, sim_rev c h2⟩
variable {p : Pos} {x : Str}
theorem d_call {k : Nat} {f : Addr} {fd : FuncData} {ps : List Str} {df : DF} (F : FnOk X.prog X.w X.K X.mg X.base CX0 k f fd ps (spD X.K df n)) (hr : Room k X.A) (hg : Gl X x) (hm : X.mg x = some (.ref f)) (hk : PySem.W.keepIn X.K (.ref f) = true) (hb : Binds X.K fd ps [])
    (ha : PDA X (e :: es) das n) (hdb : (x == ("__debug__" : Str)) = false := by decide) (he : starEach (e :: es) X.env = (false, eval e X.env) :: starEach es X.env := by rfl) (hpl : (backTo pos (starEach es X.env)).any (·.1) = false := by rfl) :
    PD X (.Call (.Name x p) (e :: es) [] pos) (eCall df das) := by
  obtain ⟨t, h1, h2⟩ := ha.ex
  exact ⟨_, pe_call F hr hg hm hk hb .nil pass0 h1 hdb he hpl, sim_call h2 ha.len⟩
theorem d_call0 {k : Nat} {f : Addr} {fd : FuncData} {ps : List Str} {df : DF} (F : FnOk X.prog X.w X.K X.mg X.base CX0 k f fd ps (spD X.K df 0)) (hr : Room k X.A) (hg : Gl X x) (hm : X.mg x = some (.ref f)) (hk : PySem.W.keepIn X.K (.ref f) = true) (hb : Binds X.K fd ps [])
    (hdb : (x == ("__debug__" : Str)) = false := by decide) : PD X (.Call (.Name x p) [] [] pos) (eCall df aNil) :=
  ⟨_, pe_call0 F hr hg hm hk hb .nil pass0 hdb, sim_call sim_nil al_nil⟩
/-- a built-in function -/
theorem d_bi {id : String} {r : List V → Hp → VK → Prop} {f : OA} (hc : CallR X (.builtin id) r) (hs : SimRA X.K r f) (hg : Gl X x) (hm : X.mg x = none) (hv : bootBuiltins x = some (.builtin id)) (ha : PDA X (e :: es) das n) (hn : x ≠ "__name__" := by decide) (hdb : (x == ("__debug__" : Str)) = false := by decide)
    (he : starEach (e :: es) X.env = (false, eval e X.env) :: starEach es X.env := by rfl) (hpl : (backTo pos (starEach es X.env)).any (·.1) = false := by rfl) : PD X (.Call (.Name x p) (e :: es) [] pos) (eA f das) := by
  obtain ⟨t, h1, h2⟩ := ha.ex
  exact ⟨_, pe_callB hc hg hm hv h1 hn hdb he hpl, sim_cb hs h2⟩
theorem d_bt {T : String} {r : List V → Hp → VK → Prop} {f : OA} (hc : CallR X (.type T) r) (hs : SimRA X.K r f) (hg : Gl X x) (hm : X.mg x = none) (hv : bootBuiltins x = some (.type T)) (ha : PDA X (e :: es) das n) (hn : x ≠ "__name__" := by decide) (hdb : (x == ("__debug__" : Str)) = false := by decide)
    (he : starEach (e :: es) X.env = (false, eval e X.env) :: starEach es X.env := by rfl) (hpl : (backTo pos (starEach es X.env)).any (·.1) = false := by rfl) : PD X (.Call (.Name x p) (e :: es) [] pos) (eA f das) := by
  obtain ⟨t, h1, h2⟩ := ha.ex
  exact ⟨_, pe_callTy hc hg hm hv h1 hn hdb he hpl, sim_cb hs h2⟩
theorem d_abs (hm : X.mg "abs" = none) (ha : PDA X (e :: es) das n) (hg : Gl X "abs" := by rfl) (he : starEach (e :: es) X.env = (false, eval e X.env) :: starEach es X.env := by rfl) (hpl : (backTo pos (starEach es X.env)).any (·.1) = false := by rfl) : PD X (.Call (.Name "abs" p) (e :: es) [] pos) (eA oAbs das) := d_bi (x := "abs") call_abs sa_abs hg hm (by decide +kernel) ha (he := he) (hpl := hpl)
theorem d_len (hm : X.mg "len" = none) (ha : PDA X (e :: es) das n) (hg : Gl X "len" := by rfl) (he : starEach (e :: es) X.env = (false, eval e X.env) :: starEach es X.env := by rfl) (hpl : (backTo pos (starEach es X.env)).any (·.1) = false := by rfl) : PD X (.Call (.Name "len" p) (e :: es) [] pos) (eA oLen das) := d_bi (x := "len") call_len sa_len hg hm (by decide +kernel) ha (he := he) (hpl := hpl)
theorem d_max2 (hm : X.mg "max" = none) (ha : PDA X (e :: es) das n) (hc : X.calm = true := by rfl) (hg : Gl X "max" := by rfl) (he : starEach (e :: es) X.env = (false, eval e X.env) :: starEach es X.env := by rfl) (hpl : (backTo pos (starEach es X.env)).any (·.1) = false := by rfl) : PD X (.Call (.Name "max" p) (e :: es) [] pos) (eA oMax2 das) := d_bi (x := "max") (call_max2 hc) sa_max2 hg hm (by decide +kernel) ha (he := he) (hpl := hpl)
theorem d_min2 (hm : X.mg "min" = none) (ha : PDA X (e :: es) das n) (hc : X.calm = true := by rfl) (hg : Gl X "min" := by rfl) (he : starEach (e :: es) X.env = (false, eval e X.env) :: starEach es X.env := by rfl) (hpl : (backTo pos (starEach es X.env)).any (·.1) = false := by rfl) : PD X (.Call (.Name "min" p) (e :: es) [] pos) (eA oMin2 das) := d_bi (x := "min") (call_min2 hc) sa_min2 hg hm (by decide +kernel) ha (he := he) (hpl := hpl)
theorem d_sum (hm : X.mg "sum" = none) (ha : PDA X (e :: es) das n) (hc : X.calm = true := by rfl) (hg : Gl X "sum" := by rfl) (he : starEach (e :: es) X.env = (false, eval e X.env) :: starEach es X.env := by rfl) (hpl : (backTo pos (starEach es X.env)).any (·.1) = false := by rfl) : PD X (.Call (.Name "sum" p) (e :: es) [] pos) (eA oSum das) := d_bi (x := "sum") (cr_sum hc) sa_sum hg hm (by decide +kernel) ha (he := he) (hpl := hpl)
theorem d_all (hm : X.mg "all" = none) (ha : PDA X (e :: es) das n) (hc : X.calm = true := by rfl) (hg : Gl X "all" := by rfl) (he : starEach (e :: es) X.env = (false, eval e X.env) :: starEach es X.env := by rfl) (hpl : (backTo pos (starEach es X.env)).any (·.1) = false := by rfl) : PD X (.Call (.Name "all" p) (e :: es) [] pos) (eA oAll das) := d_bi (x := "all") (cr_all hc) sa_all hg hm (by decide +kernel) ha (he := he) (hpl := hpl)
theorem d_any (hm : X.mg "any" = none) (ha : PDA X (e :: es) das n) (hc : X.calm = true := by rfl) (hg : Gl X "any" := by rfl) (he : starEach (e :: es) X.env = (false, eval e X.env) :: starEach es X.env := by rfl) (hpl : (backTo pos (starEach es X.env)).any (·.1) = false := by rfl) : PD X (.Call (.Name "any" p) (e :: es) [] pos) (eA oAny das) := d_bi (x := "any") (cr_any hc) sa_any hg hm (by decide +kernel) ha (he := he) (hpl := hpl)
theorem d_sorted (c : Bool) (hm : X.mg "sorted" = none) (ha : PDA X (e :: es) das n) (hg : Gl X "sorted" := by rfl) (he : starEach (e :: es) X.env = (false, eval e X.env) :: starEach es X.env := by rfl) (hpl : (backTo pos (starEach es X.env)).any (·.1) = false := by rfl) : PD X (.Call (.Name "sorted" p) (e :: es) [] pos) (eA (oSorted c) das) := d_bi (x := "sorted") cr_sortedI (sa_sorted c) hg hm (by decide +kernel) ha (he := he) (hpl := hpl)
theorem d_intf (hm : X.mg "int" = none) (ha : PDA X (e :: es) das n) (hg : Gl X "int" := by rfl) (he : starEach (e :: es) X.env = (false, eval e X.env) :: starEach es X.env := by rfl) (hpl : (backTo pos (starEach es X.env)).any (·.1) = false := by rfl) : PD X (.Call (.Name "int" p) (e :: es) [] pos) (eA oInt das) := d_bt (x := "int") call_int1 sa_int hg hm (by decide +kernel) ha (he := he) (hpl := hpl)
theorem d_list (c : Bool) (hm : X.mg "list" = none) (ha : PDA X (e :: es) das n) (hg : Gl X "list" := by rfl) (he : starEach (e :: es) X.env = (false, eval e X.env) :: starEach es X.env := by rfl) (hpl : (backTo pos (starEach es X.env)).any (·.1) = false := by rfl) : PD X (.Call (.Name "list" p) (e :: es) [] pos) (eA (oList c) das) := d_bt (x := "list") call_list_of (sa_list c) hg hm (by decide +kernel) ha (he := he) (hpl := hpl)
theorem d_isi (T : String) (hm : X.mg "isinstance" = none) (ha : PDA X (e :: es) das n) (hT : T ∈ ["bool", "int", "str", "list", "tuple"] := by decide) (hg : Gl X "isinstance" := by rfl) (he : starEach (e :: es) X.env = (false, eval e X.env) :: starEach es X.env := by rfl) (hpl : (backTo pos (starEach es X.env)).any (·.1) = false := by rfl) : PD X (.Call (.Name "isinstance" p) (e :: es) [] pos) (eA (oIsi T) das) := d_bi (x := "isinstance") call_isi (sa_isi T hT) hg hm (by decide +kernel) ha (he := he) (hpl := hpl)
theorem d_listR1 (c : Bool) {p' pos' : Pos} (hm : X.mg "list" = none) (hm' : X.mg "range" = none) (ha : PD X a da) (hc : X.calm = true := by rfl) (hg : Gl X "list" := by rfl) (hg' : Gl X "range" := by rfl) (na : starEach [a] X.env = (false, eval a X.env) :: starEach [] X.env := by rfl) (nb : starEach [.Call (.Name "range" p') [a] [] pos'] X.env = (false, eval (.Call (.Name "range" p') [a] [] pos') X.env) :: starEach [] X.env := by rfl) :
    PD X (.Call (.Name "list" p) [.Call (.Name "range" p') [a] [] pos'] [] pos) (eA (oListR1 c) (aCons da aNil)) := by
  obtain ⟨t, h1, h2⟩ := ha.ex
  exact ⟨_, pe_listRg hc hg hm (prg_1 hg' hm' h1 na) nb, sim_listR1 c h2⟩
theorem d_listR2 (c : Bool) {p' pos' : Pos} (hm : X.mg "list" = none) (hm' : X.mg "range" = none) (ha : PD X a da) (hb : PD X b db) (hc : X.calm = true := by rfl) (hg : Gl X "list" := by rfl) (hg' : Gl X "range" := by rfl) (na : starEach [a, b] X.env = (false, eval a X.env) :: starEach [b] X.env := by rfl) (nb : starEach [b] X.env = (false, eval b X.env) :: starEach [] X.env := by rfl) (np : (backTo pos' (starEach [b] X.env)).any (·.1) = false := by rfl)
    (nc : starEach [.Call (.Name "range" p') [a, b] [] pos'] X.env = (false, eval (.Call (.Name "range" p') [a, b] [] pos') X.env) :: starEach [] X.env := by rfl) :
    PD X (.Call (.Name "list" p) [.Call (.Name "range" p') [a, b] [] pos'] [] pos) (eA (oListR2 c) (aCons da (aCons db aNil))) := by
  obtain ⟨t, h1, h2⟩ := ha.ex
  obtain ⟨u, h3, h4⟩ := hb.ex
  exact ⟨_, pe_listRg hc hg hm (prg_2 hg' hm' h1 h3 na nb np) nc, sim_listR2 c h2 h4⟩
end
end Rw
end PRwRules
section PRwRules2
set_option Elab.async false
set_option linter.all false
set_option maxRecDepth 100000
set_option maxHeartbeats 2000000
namespace Rw
open PySem L2 PySem.Spec PyProof.Rows
section
variable {X : Cx} {a b c e : Expr} {pos : Pos} {da db dc de : DE} {ta tb : DT} {es : List Expr} {das : DA} {n : Nat} {p : Pos} {x : Str} {tg : Expr}
/-! ### targets -/
theorem g_name (i : Nat) {x : Str} (hN : X.N.Nodup) (hi : X.N[i]? = some x := by rfl) (hx : Loc X.env.scope x := by first | exact Or.inl rfl | exact Or.inr rfl) (hf : X.fn x = true ∨ X.env.scope.names.lookup x = some .local := by first | exact .inl rfl | exact .inr rfl) : PDG X (.Name x pos) (.name i) := ⟨by
  simp only [Tgt.tg]
  exact pg_name hN hi hx hf⟩
theorem g_nil : PDGs X [] [] := ⟨by simp only [Tgt.tgs]; exact pgs_nil⟩
theorem g_cons {t : Tgt} {ts : List Tgt} (h : PDG X e t) (hr : PDGs X es ts) (hs : (assignEach (e :: es) X.env).map (·.2) = assign e X.env :: (assignEach es X.env).map (·.2) := by rfl) : PDGs X (e :: es) (t :: ts) := ⟨by
  simp only [Tgt.tgs]
  exact pgs_cons h.ex hr.ex hs⟩
theorem g_tup {k : Nat} {ts : List Tgt} (h : PDGs X es ts) (hc : X.calm = true := by rfl) (hn : (assignEach es X.env).length = ts.length := by rfl) (hst : (assignEach es X.env).findIdx? (·.1) = none := by rfl) : PDG X (.Tuple es k pos) (.tup ts) := ⟨by
  simp only [Tgt.tg]
  exact ⟨fun pins s σ H v u Q I r hw => hw.elim (fun q => (pg_tup hc h.ex hn hst).run pins s σ H v u Q I r q) fun q => (pg_unl hc h.ex hn hst).run pins s σ H v u Q I r q⟩⟩
/-! ### ints or lists, lists or tuples -/
theorem sr_mulU {K : PySem.W.Frag} (c : Bool) : SimR2 K (fun x y H Q => rI CMulR (fun i j => .int (i * j)) x y H Q ∨ rRep x y H Q) (oMulU c) := fun {F κ G M H Q x y z M' u v} S rx ry h k => by
  unfold oMulU at h
  split at h
  · obtain ⟨hp, h⟩ := grd_some h
    cases h
    exact .inl ⟨_, _, rx_int rx, rx_int ry, mulOk_ok hp, k.here S (Rv.int _)⟩
  · exact .inr (sr_rep c S rx ry h k)
theorem d_mulU (c : Bool) (ha : PD X a da) (hb : PD X b db) : PD X (.BinOp a .Mult b pos) (e2 (oMulU c) da db) := d_op (op_mulR.or op_rep) (sr_mulU c) ha hb
theorem ss_slU {K : PySem.W.Frag} (c : Bool) : SimSl K (fun x lo hi H Q => rSlL K x lo hi H Q ∨ rSlA K x lo hi H Q) (slU c) := fun {F κ G M H Q x lo hi z M' u} S rx h k => by
  unfold slU at h
  split at h
  · exact .inr (ss_tup S rx (by unfold slT; exact h) k)
  · exact .inl (ss_list c S rx h k)
variable {lo hi : Option Expr} {dl dh : DO} {p2 : Pos}
theorem d_slU (c : Bool) (he : PD X e de) (hl : PDO X lo dl) (hh : PDO X hi dh) : PD X (.Subscript e (.Slice lo hi none p2) pos) (eSl (slU c) de dl dh) := by
  obtain ⟨t, h1, h2⟩ := he.ex
  obtain ⟨u, h3, h4⟩ := hl.ex
  obtain ⟨v, h5, h6⟩ := hh.ex
  exact ⟨_, pe_slice (sl_list.or sl_tupA) h1 h3 h5, sim_sl (ss_slU c) h2 h4 h6⟩
/-! ### what is walked -/
theorem i_seq (he : PD X e de) : PDI X tg e (iS de) := by
  obtain ⟨t, h1, h2⟩ := he.ex
  refine ⟨fun σ H R => iList X.K t σ H R ∨ iTup X.K t σ H R, ⟨fun pins s σ H R I h => ?_⟩, ⟨fun {F κ G σ ρ M H xs src M' R} S E h k => ?_⟩⟩
  · rcases h with h | h
    · exact (pi_list h1).run pins s σ H R I h
    · exact (pi_tup h1).run pins s σ H R I h
  · unfold iS at h
    split at h
    · rename_i ys M1 e1
      cases h
      exact .inr ((sim_iT h2).run S E (by unfold iT; rw [e1]) k)
    · rename_i y M1 _ e1
      exact .inl ((sim_iL h2).run S E (by unfold iL; rw [e1]; exact h) k)
    · cases h
theorem i_list (he : PD X e de) : PDI X tg e (iL de) := by
  obtain ⟨t, h1, h2⟩ := he.ex
  exact ⟨_, pi_list h1, sim_iL h2⟩
theorem i_tup (he : PD X e de) : PDI X tg e (iT de) := by
  obtain ⟨t, h1, h2⟩ := he.ex
  exact ⟨_, pi_tup h1, sim_iT h2⟩
theorem i_r1 (hm : X.mg "range" = none) (ha : PDA X [a] das n) (hg : Gl X "range" := by rfl) (hs : starEach [a] X.env = [(false, eval a X.env)] := by rfl) : PDI X tg (.Call (.Name "range" p) [a] [] pos) (iR1 das) := by
  obtain ⟨t, h1, h2⟩ := ha.ex
  exact ⟨_, pi_range1 hg hm h1 hs, sim_iR1 h2⟩
theorem i_r2 (hm : X.mg "range" = none) (ha : PDA X [a, b] das n) (hg : Gl X "range" := by rfl) (hs : starEach [a, b] X.env = [(false, eval a X.env), (false, eval b X.env)] := by rfl) (hs2 : starEach [b] X.env = [(false, eval b X.env)] := by rfl) : PDI X tg (.Call (.Name "range" p) [a, b] [] pos) (iR2 das) := by
  obtain ⟨t, h1, h2⟩ := ha.ex
  exact ⟨_, pi_range2 hg hm h1 hs hs2, sim_iR2 h2⟩
theorem i_en {elts : List Expr} {kk : Nat} {tpos : Pos} (hm : X.mg "enumerate" = none) (ha : PDA X [a] das n) (hg : Gl X "enumerate" := by rfl) (hs : starEach [a] X.env = [(false, eval a X.env)] := by rfl) : PDI X (.Tuple elts kk tpos) (.Call (.Name "enumerate" p) [a] [] pos) (iEn das) := by
  obtain ⟨t, h1, h2⟩ := ha.ex
  exact ⟨_, pi_enum hg hm h1 hs, sim_iEn h2⟩
theorem i_zip {elts : List Expr} {kk : Nat} {tpos : Pos} (hm : X.mg "zip" = none) (ha : PDA X [a, b] das n) (hg : Gl X "zip" := by rfl) (hs : starEach [a, b] X.env = (false, eval a X.env) :: starEach [b] X.env := by rfl) (hpl : (backTo pos (starEach [b] X.env)).any (·.1) = false := by rfl) : PDI X (.Tuple elts kk tpos) (.Call (.Name "zip" p) [a, b] [] pos) (iZ das) := by
  obtain ⟨t, h1, h2⟩ := ha.ex
  exact ⟨_, pi_zip hg hm h1 hs hpl, sim_iZ h2⟩
/-! ### comprehensions -/
theorem ts_nil : PTs X [] L2.tYes := pts_nil
theorem sim_yes {K : PySem.W.Frag} : SimT K L2.tYes Rw.tYes := ⟨fun {F κ G σ ρ M H b M' Q} S E h k => by
  cases h
  exact k κ G H (Le.refl _ _) S⟩
structure PDTs (X : Cx) (es : List Expr) (d : DT) : Prop where
  ex : ∃ t, PTs X es t ∧ SimT X.K t d
theorem c_nil : PDTs X [] Rw.tYes := ⟨_, pts_nil, sim_yes⟩
theorem c_one (h : PDT X e ta) : PDTs X [e] ta := by
  obtain ⟨t, h1, h2⟩ := h.ex
  exact ⟨_, pts_one h1, h2⟩
/-- the reading that a pure reading makes -/
def tOf (K : PySem.W.Frag) (d : DE) : TE := fun σ H Q => ∃ F κ G ρ M v M', Sm K F κ G M H ∧ Se K κ G σ ρ ∧ d ρ M = some (v, M') ∧ PV K F κ G Q v M'
def tOfT (K : PySem.W.Frag) (d : DT) : TT := fun σ H Q => ∃ F κ G ρ M b M', Sm K F κ G M H ∧ Se K κ G σ ρ ∧ d ρ M = some (b, M') ∧ ∀ κ' G' H', Le κ G κ' G' → Sm K F κ' G' M' H' → Q b H'
theorem simOf {K : PySem.W.Frag} {d : DE} : SimE K (tOf K d) d := ⟨fun {F κ G σ ρ M H Q v M'} S E h k => ⟨F, κ, G, ρ, M, v, M', S, E, h, k⟩⟩
theorem simOfT {K : PySem.W.Frag} {d : DT} : SimT K (tOfT K d) d := ⟨fun {F κ G σ ρ M H b M' Q} S E h k => ⟨F, κ, G, ρ, M, b, M', S, E, h, k⟩⟩
theorem PD.can {X : Cx} {e : Expr} {d : DE} (h : PD X e d) : PE X e (tOf X.K d) := by
  obtain ⟨t, h1, h2⟩ := h.ex
  exact ⟨fun pins s σ H Q I ⟨F, κ, G, ρ, M, v, M', S, E, hd, k⟩ => h1.run pins s σ H Q I (h2.run S E hd k)⟩
theorem PDTs.can {X : Cx} {es : List Expr} {d : DT} (h : PDTs X es d) : PTs X es (tOfT X.K d) := by
  obtain ⟨t, h1, h2⟩ := h.ex
  exact ⟨fun pins s σ H Q I ⟨F, κ, G, ρ, M, v, M', S, E, hd, k⟩ => h1.run pins s σ H Q I (h2.run S E hd k)⟩
theorem d_lc (c : Bool) {elt iter : Expr} {ifs : List Expr} {scope : Scope} (own : List (Str × Nat)) {it : DI} {tgt : Tgt} {tt : DT} {el : DE} (hN : X.N.Nodup) (hi : PDI X tg iter it) (ok : blkC X.N X.env.scope scope own = true)
    (hg : ∀ (s : Shared) (H : Hp) (C : Addr) (cl : List (Str × Addr)) (fp : List Addr), PDG (X.blk s H scope (compEnvC scope cl C X.env) fp) tg tgt) (ht : ∀ (s : Shared) (H : Hp) (C : Addr) (cl : List (Str × Addr)) (fp : List Addr), PDTs (X.blk s H scope (compEnvC scope cl C X.env) fp) ifs tt)
    (he : ∀ (s : Shared) (H : Hp) (C : Addr) (cl : List (Str × Addr)) (fp : List Addr), PD (X.blk s H scope (compEnvC scope cl C X.env) fp) elt el) (hown : ∀ i ∈ tgt.slots, i ∈ own.map (·.2) := by decide) (hc : X.calm = true := by rfl) (hs : ∀ x, foldedSetIterable iter X.env x = pure x := by intro _; rfl) :
    PD X (.ListComp elt [⟨tg, iter, ifs, 0⟩] scope pos) (eComp c it tgt tt el (own.map (·.2))) := by
  obtain ⟨t, h1, h2⟩ := hi.ex
  exact ⟨_, pe_lc hc hN h1 (blkOk_by ok) (fun s H C cl fp => (hg s H C cl fp).ex) (fun s H C cl fp => (ht s H C cl fp).can) (fun s H C cl fp => (he s H C cl fp).can) hs, sim_lc h2 simOfT simOf hown⟩
/-! ### methods of lists -/
theorem lm_pop : ∀ v as M z, mPop v as M = some z → ∃ n, v = .c n := fun v as M z h => by
  unfold mPop at h
  split at h
  · exact ⟨_, rfl⟩
  · exact ⟨_, rfl⟩
  · cases h
theorem lm_insert : ∀ v as M z, mInsert v as M = some z → ∃ n, v = .c n := fun v as M z h => by
  unfold mInsert at h
  split at h
  · exact ⟨_, rfl⟩
  · cases h
def rInsert : V → List V → Hp → VK → Prop := fun x vs H Q => ∃ (l : Addr) (xs : List V) (i : Int) (y : V), x = .ref l ∧ vs = [.int i, y] ∧ H l = some (.lst xs) ∧ xs.length < sizeLine ∧ 0 ≤ i ∧ i < 2 ^ 63 ∧
    Q .non (upd H l (.lst (xs.take i.toNat ++ [y] ++ xs.drop i.toNat)))
theorem sm_insert {K : PySem.W.Frag} : SimRM K "list" rInsert mInsert := fun {F κ G M H Q x xs z M' u us} S r rs h k => by
  unfold mInsert at h
  split at h
  · rename_i n i y
    split at h
    · rename_i ys e
      obtain ⟨hp, h⟩ := grd_some h
      cases h
      obtain ⟨a, rfl, ha⟩ := r
      obtain ⟨v, w, rfl, rv, rw'⟩ := rxs2 rs
      obtain rfl := rx_int rv
      obtain ⟨vs, _, _, e3, e4⟩ := cell_at S e ha
      refine ⟨a, vs, i, w, rfl, rfl, e3, sz_big1 (by rw [e4.length]; exact hp.1), hp.2.1, by omega, ?_⟩
      exact k κ G _ _ (Le.refl _ _) (S.put e ha (((e4.take _).append (.cons rw' .nil)).append (e4.drop _))) Rv.non
    · cases h
  · cases h
theorem d_append {apos : Pos} (ho : PD X a da) (hb : PDA X (e :: es) das n) (hbase : attributeBase a "append" X.env (eval a X.env) = eval a X.env := by rfl)
    (hfew : ((backTo pos (starEach (e :: es) X.env)).all (fun x => !x.1) && (backToKw pos (keywordEach [] X.env)).all (fun x => x.1.isSome)
      && decide ((e :: es).length + ([] : List Keyword).length + (if ([] : List Keyword).isEmpty then 0 else 1) < 30)) = true := by rfl)
    (hline : (apos.endLine == pos.line) = true := by rfl) (hs : starEach (e :: es) X.env = (false, eval e X.env) :: starEach es X.env := by rfl) (hplain : (backTo pos (starEach es X.env)).any (·.1) = false := by rfl) : PD X (.Call (.Attribute a "append" apos) (e :: es) [] pos) (eM mAppend da das) := by
  obtain ⟨t, h1, h2⟩ := ho.ex
  obtain ⟨u, h3, h4⟩ := hb.ex
  exact ⟨_, pe_bm PySem.F.plainAttrs_list PySem.F.slot_list_append PySem.F.type_list_append mt_append h1 h3 hbase hfew hline hs hplain, sim_bm sm_append lm_append h2 h4⟩
theorem d_pop {apos : Pos} (ho : PD X a da) (hb : PDA X (e :: es) das n) (hbase : attributeBase a "pop" X.env (eval a X.env) = eval a X.env := by rfl)
    (hfew : ((backTo pos (starEach (e :: es) X.env)).all (fun x => !x.1) && (backToKw pos (keywordEach [] X.env)).all (fun x => x.1.isSome)
      && decide ((e :: es).length + ([] : List Keyword).length + (if ([] : List Keyword).isEmpty then 0 else 1) < 30)) = true := by rfl)
    (hline : (apos.endLine == pos.line) = true := by rfl) (hs : starEach (e :: es) X.env = (false, eval e X.env) :: starEach es X.env := by rfl) (hplain : (backTo pos (starEach es X.env)).any (·.1) = false := by rfl) : PD X (.Call (.Attribute a "pop" apos) (e :: es) [] pos) (eM mPop da das) := by
  obtain ⟨t, h1, h2⟩ := ho.ex
  obtain ⟨u, h3, h4⟩ := hb.ex
  exact ⟨_, pe_bm PySem.F.plainAttrs_list PySem.F.slot_list_pop PySem.F.type_list_pop mt_pops h1 h3 hbase hfew hline hs hplain, sim_bm sm_pop lm_pop h2 h4⟩
theorem d_insert {apos : Pos} (ho : PD X a da) (hb : PDA X (e :: es) das n) (hbase : attributeBase a "insert" X.env (eval a X.env) = eval a X.env := by rfl)
    (hfew : ((backTo pos (starEach (e :: es) X.env)).all (fun x => !x.1) && (backToKw pos (keywordEach [] X.env)).all (fun x => x.1.isSome)
      && decide ((e :: es).length + ([] : List Keyword).length + (if ([] : List Keyword).isEmpty then 0 else 1) < 30)) = true := by rfl)
    (hline : (apos.endLine == pos.line) = true := by rfl) (hs : starEach (e :: es) X.env = (false, eval e X.env) :: starEach es X.env := by rfl) (hplain : (backTo pos (starEach es X.env)).any (·.1) = false := by rfl) : PD X (.Call (.Attribute a "insert" apos) (e :: es) [] pos) (eM mInsert da das) := by
  obtain ⟨t, h1, h2⟩ := ho.ex
  obtain ⟨u, h3, h4⟩ := hb.ex
  exact ⟨_, pe_bm PySem.F.plainAttrs_list PySem.F.slot_list_insert PySem.F.type_list_insert mt_insert h1 h3 hbase hfew hline hs hplain, sim_bm sm_insert lm_insert h2 h4⟩
theorem d_pop0 {apos : Pos} (ho : PD X a da) (hbase : attributeBase a "pop" X.env (eval a X.env) = eval a X.env := by rfl) (hline : (apos.endLine == pos.line) = true := by rfl) : PD X (.Call (.Attribute a "pop" apos) [] [] pos) (eM mPop da aNil) := by
  obtain ⟨t, h1, h2⟩ := ho.ex
  exact ⟨_, pe_bm0 PySem.F.plainAttrs_list PySem.F.slot_list_pop PySem.F.type_list_pop mt_pops h1 hbase hline, sim_bm0 sm_pop lm_pop h2⟩
theorem d_clear {apos : Pos} (ho : PD X a da) (hbase : attributeBase a "clear" X.env (eval a X.env) = eval a X.env := by rfl) (hline : (apos.endLine == pos.line) = true := by rfl) : PD X (.Call (.Attribute a "clear" apos) [] [] pos) (eM mClear da aNil) := by
  obtain ⟨t, h1, h2⟩ := ho.ex
  exact ⟨_, pe_bm0 PySem.F.plainAttrs_list PySem.F.slot_list_clear PySem.F.type_list_clear mt_clear h1 hbase hline, sim_bm0 sm_clear lm_clear h2⟩

/-! ### statements -/
variable {st : Stmt} {rest : List Stmt} {s t u : DS}
theorem b_nil : PDB X [] dPass := ⟨_, pss_nil, ss_pass⟩
theorem b_cons (h1 : PDS X st s) (h2 : PDB X rest t) : PDB X (st :: rest) (dSeq s t) := by
  obtain ⟨t1, a1, a2⟩ := h1.ex
  obtain ⟨t2, b1, b2⟩ := h2.ex
  exact ⟨_, pss_cons a1 b1, ss_seq a2 b2⟩
theorem b_one (h1 : PDS X st s) : PDB X [st] s := by
  obtain ⟨t1, a1, a2⟩ := h1.ex
  exact ⟨_, pss_one a1, a2⟩
theorem b_wipe (vs : List Nat) (h : PDB X rest s) : PDB X rest (dWipe vs s) := by
  obtain ⟨t1, a1, a2⟩ := h.ex
  exact ⟨_, a1, ss_wipe vs a2⟩
theorem b_pre (vs : List Nat) (h : PDB X rest s) : PDB X rest (dPre vs s) := by
  obtain ⟨t1, a1, a2⟩ := h.ex
  exact ⟨_, a1, ⟨fun {F κ G σ ρ M H D o} S E h k => a2.run S (E.wipe vs) h k⟩⟩
theorem s_wipe (vs : List Nat) (h : PDS X st s) : PDS X st (dWipe vs s) := by
  obtain ⟨t1, a1, a2⟩ := h.ex
  exact ⟨_, a1, ss_wipe vs a2⟩
theorem s_pass : PDS X (.Pass pos) dPass := ⟨_, ps_pass, ss_pass⟩
theorem s_break : PDS X (.Break pos) dBreak := ⟨_, ps_break, ss_break⟩
theorem s_cont : PDS X (.Continue pos) dCont := ⟨_, ps_continue, ss_cont⟩
theorem s_never : PDS X st dNever := ⟨_, ps_never, ss_never⟩
theorem s_set (i : Nat) {y : Str} {pos' : Pos} (hN : X.N.Nodup) (he : PD X e de) (hi : X.N[i]? = some y := by rfl) (hx : Loc X.env.scope y := by first | exact Or.inl rfl | exact Or.inr rfl) (hs : swapsWith e (some (.Name y pos')) pos.line X.env = pure false := by rfl) (hf : X.fn y = true ∨ X.env.scope.names.lookup y = some .local := by first | exact .inl rfl | exact .inr rfl) :
    PDS X (.Assign [.Name y pos'] e pos) (dAsg (.name i) de) := by
  obtain ⟨t1, a1, a2⟩ := he.ex
  have h := ss_asg (tg := .name i) a2
  simp only [Tgt.tg] at h
  exact ⟨_, ps_set hN hi hx a1 hs hf, h⟩
theorem s_asg {tgt : Tgt} (he : PD X e de) (hg : PDG X tg tgt) (hs : swapsWithSole [tg] e pos.line X.env = pure false := by rfl) (hw : swappedStores [tg] e X.env = pure none := by rfl)
    (h1 : (assignEach [tg] X.env).map (·.2) = [assign tg X.env] := by rfl) : PDS X (.Assign [tg] e pos) (dAsg tgt de) := by
  obtain ⟨t1, a1, a2⟩ := he.ex
  exact ⟨_, ps_asg a1 hg.ex hs hw h1, ss_asg a2⟩
/-- name = [..] -/
theorem s_setLc (i : Nat) (c : Bool) {y : Str} {py spos : Pos} {elt iter : Expr} {ifs : List Expr} {scope : Scope} (own : List (Str × Nat)) {it : DI} {tgt : Tgt} {tt : DT} {el : DE} (hN : X.N.Nodup) (hi : PDI X tg iter it) (ok : blkC X.N X.env.scope scope own = true)
    (hg : ∀ (s : Shared) (H : Hp) (C : Addr) (cl : List (Str × Addr)) (fp : List Addr), PDG (X.blk s H scope (compEnvC scope cl C X.env) fp) tg tgt) (ht : ∀ (s : Shared) (H : Hp) (C : Addr) (cl : List (Str × Addr)) (fp : List Addr), PDTs (X.blk s H scope (compEnvC scope cl C X.env) fp) ifs tt)
    (he : ∀ (s : Shared) (H : Hp) (C : Addr) (cl : List (Str × Addr)) (fp : List Addr), PD (X.blk s H scope (compEnvC scope cl C X.env) fp) elt el)
    (hsw : swapsWith (.ListComp elt [⟨tg, iter, ifs, 0⟩] scope pos) (some (.Name y py)) spos.line X.env = pure true) (hy : X.N[i]? = some y := by rfl) (hyl : X.env.scope.names.lookup y = some .local := by rfl) (hown : ∀ i ∈ tgt.slots, i ∈ own.map (·.2) := by decide) (hc : X.calm = true := by rfl) (hs : ∀ x, foldedSetIterable iter X.env x = pure x := by intro _; rfl) :
    PDS X (.Assign [.Name y py] (.ListComp elt [⟨tg, iter, ifs, 0⟩] scope pos) spos) (dAsg (.name i) (eComp c it tgt tt el (own.map (·.2)))) := by
  obtain ⟨t1, a1, a2⟩ := hi.ex
  have h := ss_asg (tg := .name i) (sim_lc (c := c) (tg := tgt) a2 simOfT simOf hown (K := X.K) (t := tt) (el := el))
  simp only [Tgt.tg] at h
  exact ⟨_, ps_setLc hc hN hy hyl hsw a1 (blkOk_by ok) (fun s H C cl fp => (hg s H C cl fp).ex) (fun s H C cl fp => (ht s H C cl fp).can) (fun s H C cl fp => (he s H C cl fp).can) hs, h⟩
theorem s_par (i j : Nat) {y z : Str} {px py pt : Pos} {kt k2 : Nat} {pt2 : Pos} (hN : X.N.Nodup) (ha : PD X a da) (hb : PD X b db) (hi : X.N[i]? = some y := by rfl) (hj : X.N[j]? = some z := by rfl) (hij : i ≠ j := by decide)
    (hx : X.env.scope.names.lookup y = some .local := by rfl) (hy : X.env.scope.names.lookup z = some .local := by rfl) (hc : X.calm = true := by rfl)
    (hst : starEach [a, b] X.env = (false, eval a X.env) :: starEach [b] X.env := by rfl) (hst2 : starEach [b] X.env = (false, eval b X.env) :: starEach [] X.env := by rfl)
    (hw : swappedStores [.Tuple [.Name y px, .Name z py] kt pt] (.Tuple [a, b] k2 pt2) X.env = pure (some [y, z]) := by rfl)
    (hs : swapsWithSole [.Tuple [.Name y px, .Name z py] kt pt] (.Tuple [a, b] k2 pt2) pos.line X.env = pure false := by rfl) :
    PDS X (.Assign [.Tuple [.Name y px, .Name z py] kt pt] (.Tuple [a, b] k2 pt2) pos) (dPar i j da db) := by
  obtain ⟨t1, a1, a2⟩ := ha.ex
  obtain ⟨t2, b1, b2⟩ := hb.ex
  exact ⟨_, ps_par hc hN hi hj hij hx hy (pa_cons a1 (pa_cons b1 pa_nil hst2) hst) hw hs, ss_par a2 b2⟩
structure AugR (X : Cx) (op : Operator) (f : O2) : Prop where
  ex : ∃ r, PIp X op r ∧ SimIp X.K r f
theorem u_add : AugR X .Add (oI fun i j => .int (i + j)) := ⟨_, ip_add, ip_addI⟩
theorem u_sub : AugR X .Sub (oI fun i j => .int (i - j)) := ⟨_, ip_sub, ip_subI⟩
theorem s_aug (i : Nat) {y : Str} {op : Operator} {f : O2} {pos' : Pos} (hN : X.N.Nodup) (hr : AugR X op f) (he : PD X e de) (hi : X.N[i]? = some y := by rfl) (hx : Loc X.env.scope y := by first | exact Or.inl rfl | exact Or.inr rfl) (hf : X.fn y = true ∨ X.env.scope.names.lookup y = some .local := by first | exact .inl rfl | exact .inr rfl) :
    PDS X (.AugAssign (.Name y pos') op e pos) (dAug i f de) := by
  obtain ⟨t1, a1, a2⟩ := he.ex
  obtain ⟨r, h1, h2⟩ := hr.ex
  exact ⟨_, ps_aug hN hi hx a1 h1 hf, ss_aug h2 a2⟩
theorem s_put {o i : Expr} {do_ di : DE} {pos' : Pos} (ho : PD X o do_) (hi : PD X i di) (he : PD X e de)
    (ha : ∀ v, assign (.Subscript o i pos') X.env v = (do
      let ov ← holding [v] (eval o X.env)
      let iv ← holding [v, ov] (eval i X.env)
      standAt pos'
      holding [v, ov, iv] (setItem ov iv v)
      release [v, ov, iv] []) := by intro _; rfl)
    (hs : swapsWithSole [.Subscript o i pos'] e pos.line X.env = pure false := by rfl) (hw : swappedStores [.Subscript o i pos'] e X.env = pure none := by rfl)
    (h1 : (assignEach [.Subscript o i pos'] X.env).map (·.2) = [assign (.Subscript o i pos') X.env] := by rfl) : PDS X (.Assign [.Subscript o i pos'] e pos) (dPut do_ di de) := by
  obtain ⟨t1, a1, a2⟩ := ho.ex
  obtain ⟨t2, b1, b2⟩ := hi.ex
  obtain ⟨t3, c1, c2⟩ := he.ex
  exact ⟨_, ps_asg c1 (pg_sub a1 b1 set_list ha) hs hw h1, ss_put a2 b2 c2⟩
theorem s_expr (he : PD X e de) (hs : swapsWith e none pos.line X.env = pure false := by rfl) : PDS X (.Expr e pos) (dExpr de) := by
  obtain ⟨t1, a1, a2⟩ := he.ex
  exact ⟨_, ps_expr a1 hs, ss_expr a2⟩
theorem s_ret (he : PD X e de) : PDS X (.Return (some e) pos) (dRet de) := by
  obtain ⟨t1, a1, a2⟩ := he.ex
  exact ⟨_, ps_ret a1, ss_ret a2⟩
theorem s_retN : PDS X (.Return none pos) dRetN := ⟨_, ps_retN, ss_retN⟩
theorem s_if {x y : List Stmt} {tc : DT} (hc : PDT X c tc) (ha : PDB X x s) (hb : PDB X y t) : PDS X (.If c x y pos) (dIf tc s t) := by
  obtain ⟨t1, a1, a2⟩ := hc.ex
  obtain ⟨t2, b1, b2⟩ := ha.ex
  obtain ⟨t3, c1, c2⟩ := hb.ex
  exact ⟨_, ps_if a1 b1 c1, ss_if a2 b2 c2⟩
theorem s_for {iter : Expr} {body : List Stmt} {it : DI} {tgt : Tgt} (hi : PDI X tg iter it) (hg : PDG X tg tgt) (hb : PDB X body s) (hp : PassesOwn (model X.prog X.w) X.A X.env X.xe := by exact PassesOwn.never) (hc : X.calm = true := by rfl) (hs : ∀ x, foldedSetIterable iter X.env x = pure x := by intro _; rfl) : PDS X (.For tg iter body [] pos) (dFor it tgt s) := by
  obtain ⟨t1, a1, a2⟩ := hi.ex
  obtain ⟨t3, c1, c2⟩ := hb.ex
  exact ⟨_, ps_for hp hc a1 hg.ex c1 hs, ss_for a2 c2⟩
theorem s_while {body : List Stmt} {tc : DT} (hc : PDT X c tc) (hb : PDB X body s) (hp : PassesOwn (model X.prog X.w) X.A X.env X.xe := by exact PassesOwn.never) : PDS X (.While c body [] pos) (dWhile tc s) := by
  obtain ⟨t1, a1, a2⟩ := hc.ex
  obtain ⟨t3, c1, c2⟩ := hb.ex
  exact ⟨_, ps_while hp a1 c1, ss_while a2 c2⟩
end
/-- a def by its name -/
structure Has (P : Program) (w : World) (K : PySem.W.Frag) (mg : Str → Option Value) (base : Heap) (x : Str) (k n : Nat) (df : DF) : Prop where
  ex : ∃ (f : Addr) (fd : FuncData) (ps : List Str), FnOk P w K mg base CX0 k f fd ps (spD K df n) ∧ mg x = some (.ref f) ∧ PySem.W.keepIn K (.ref f) = true ∧ Binds K fd ps []
section
variable {X : Cx} {e : Expr} {es : List Expr} {das : DA} {p pos : Pos} {x : Str} {k n : Nat} {df : DF}
theorem d_def (Hs : Has X.prog X.w X.K X.mg X.base x k n df) (hr : Room k X.A) (ha : PDA X (e :: es) das n) (hg : Gl X x := by rfl) (hdb : (x == ("__debug__" : Str)) = false := by decide) (he : starEach (e :: es) X.env = (false, eval e X.env) :: starEach es X.env := by rfl) (hpl : (backTo pos (starEach es X.env)).any (·.1) = false := by rfl) :
    PD X (.Call (.Name x p) (e :: es) [] pos) (eCall df das) := by
  obtain ⟨f, fd, ps, F, hm, hk, hb⟩ := Hs.ex
  exact d_call F hr hg hm hk hb ha hdb he hpl
theorem d_def0 (Hs : Has X.prog X.w X.K X.mg X.base x k 0 df) (hr : Room k X.A) (hg : Gl X x := by rfl) (hdb : (x == ("__debug__" : Str)) = false := by decide) : PD X (.Call (.Name x p) [] [] pos) (eCall df aNil) := by
  obtain ⟨f, fd, ps, F, hm, hk, hb⟩ := Hs.ex
  exact d_call0 F hr hg hm hk hb hdb
end
theorem bits_log {ns : List Int} (h : ∀ z ∈ ns, Builtin.Int.intBits z ≤ 1048576) : ∀ z ∈ ns, z.natAbs.log2 < 1048577 := fun z hz => by
  have q := h z hz
  unfold Builtin.Int.intBits at q
  split at q
  · rename_i e
    have e2 : z = 0 := by simpa using e
    subst e2
    decide
  · omega
/-- the law's own promise, from what it does -/
theorem law_sp {K : PySem.W.Frag} {H : Hp} {a : Addr} {ns : List Int} {f : DF} {M' : DSt} (hS : SqL K H a (ns.map V.int)) (h : f [.r (ns.map D.int)] [] = some (.d (.bl true), M')) : spD K f 1 [.ref a] H (fun v _ => v = .bl true) fun _ _ _ => False :=
  ⟨⟨fun _ => none, fun _ => none⟩, [], H, [], [.r (ns.map D.int)], .d (.bl true), M', ⟨Evl.Ex.refl _, fun _ _ e => (nomatch e), fun _ _ e => (nomatch e), fun _ _ e => (nomatch e), fun _ _ e => (nomatch e), fun _ _ e => (nomatch e), fun _ h => (nomatch h), fun n a ds e => by simp at e, rfl, List.Pairwise.nil, fun _ h => (nomatch h), fun n ds e => by simp at e⟩,
    .cons ⟨a, _, rfl, hS, Rvs.of_ints ns⟩ .nil, rfl, h, fun _ _ _ _ _ _ r => by cases r; rfl⟩
end Rw
end PRwRules2
section PRwExt
set_option Elab.async false
set_option linter.all false
set_option maxRecDepth 100000
set_option maxHeartbeats 2000000
/-! RwExt: the layer keeps the further constructs. -/
namespace Rw
open PySem L2 PySem.Spec PyProof.Rows
open Evl (Ex)
/-! ### a def that calls itself -/
theorem fn_none {P : Program} {w : World} {K : PySem.W.Frag} {mg : Str → Option Value} {base : Heap} {k n : Nat} {f : Addr} {fd : FuncData} {ps : List Str} : FnOk P w K mg base CX0 k f fd ps (spD K (fun _ _ => none) n) :=
  have no : ∀ vs H Q E, ¬ spD K (fun _ _ => none) n vs H Q E := fun vs H Q E h => by
    obtain ⟨_, _, _, _, _, _, _, _, _, _, h, _⟩ := h
    cases h
  ⟨fun vs H Q E h => (no _ _ _ _ h).elim, fun A outer s H args us vs Q E hr he hb hv h => (no _ _ _ _ h).elim⟩
section
variable {K : PySem.W.Frag}
/-! ### range of three -/
theorem fits_of {x : Int} (h : -1000000000000 ≤ x) (h' : x ≤ 1000000000000) : Builtin.Range.rangeFitsLong x = true := by
  unfold Builtin.Range.rangeFitsLong
  rw [Bool.and_eq_true]
  exact ⟨decide_eq_true (by omega), decide_eq_true (by omega)⟩
theorem size_bd {i j c : Int} (hc : c ≠ 0) (hi : -1000000000 ≤ i ∧ i ≤ 1000000000) (hj : -1000000000 ≤ j ∧ j ≤ 1000000000) : 0 ≤ Builtin.Range.rangeSize i j c ∧ Builtin.Range.rangeSize i j c ≤ 3000000000 := by
  unfold Builtin.Range.rangeSize
  by_cases h : c > 0
  · rw [if_pos h]
    by_cases h2 : i < j
    · rw [if_pos h2]
      have a := Int.ediv_nonneg (show 0 ≤ j - i - 1 by omega) (show 0 ≤ c by omega)
      have b := Int.ediv_le_self c (show 0 ≤ j - i - 1 by omega)
      omega
    · rw [if_neg h2]
      omega
  · rw [if_neg h]
    by_cases h2 : i > j
    · rw [if_pos h2]
      have a := Int.ediv_nonneg (show 0 ≤ i - j - 1 by omega) (show 0 ≤ -c by omega)
      have b := Int.ediv_le_self (-c) (show 0 ≤ i - j - 1 by omega)
      omega
    · rw [if_neg h2]
      omega
theorem rgC_of {i j c : Int} (hc : c ≠ 0) (c0 : -1000000 ≤ c) (c1 : c ≤ 1000000) (hi : -1000000000 ≤ i ∧ i ≤ 1000000000) (hj : -1000000000 ≤ j ∧ j ≤ 1000000000) : RgC i j c (szC i j c) := by
  obtain ⟨s0, s1⟩ := size_bd hc hi hj
  refine ⟨hc, by omega, ?_, ?_⟩
  · unfold Builtin.Range.small
    rw [fits_of (by omega) (by omega), fits_of (by omega) (by omega), fits_of (by omega) (by omega), fits_of (by omega) (by omega)]
    simp only [Bool.true_and]
    rw [Bool.or_eq_true]
    right
    split
    · exact fits_of (by omega) (by omega)
    · exact fits_of (by omega) (by omega)
  · have : (szC i j c : Int) = Builtin.Range.rangeSize i j c := by
      unfold szC
      rw [show (if c > 0 then (if i < j then (j - i - 1) / c + 1 else 0) else (if i > j then (i - j - 1) / (-c) + 1 else 0)) = Builtin.Range.rangeSize i j c from rfl]
      omega
    exact this.symm
theorem rxs3 {κ : List Addr} {G : Hp} {us : List V} {x y z : Dv} (r : Rxs K κ G us [x, y, z]) : ∃ u v w, us = [u, v, w] ∧ Rx K κ G u x ∧ Rx K κ G v y ∧ Rx K κ G w z := by
  cases r with
  | cons a r =>
    cases r with
    | cons b r =>
      cases r with
      | cons c r =>
        cases r
        exact ⟨_, _, _, rfl, a, b, c⟩
theorem rngC_length (i c : Int) (n : Nat) : (rngC i c n).length = n := by simp [rngC]
theorem rngC_get {a c : Int} {n i : Nat} (h : i < n) : (rngC a c n)[i]? = some (.int (a + (i : Int) * c)) := by unfold rngC; simp [h]
theorem sim_iR3 {ta : TA} {a : DA} (ha : SimA K ta a) : SimI K (iRng3 ta) (iR3 a) := ⟨fun {F κ G σ ρ M H xs src M' R} S E h k => by
  unfold iR3 at h
  split at h
  · rename_i lo j c M1 e
    obtain ⟨⟨hc, c0, c1, i0, i1, j0, j1⟩, h⟩ := grd_some h
    cases h
    refine ha.run S E e fun κ1 G1 us H1 l1 S1 r1 => ?_
    obtain ⟨u, v, w, rfl, ru, rv, rw'⟩ := rxs3 r1
    obtain rfl := rx_int ru
    obtain rfl := rx_int rv
    obtain rfl := rx_int rw'
    refine ⟨lo, j, c, szC lo j c, rfl, rgC_of hc c0 c1 ⟨i0, i1⟩ ⟨j0, j1⟩, ?_⟩
    refine k κ1 G1 H1 (Itc lo c (szC lo j c)) (fun _ => True) (YFn fun i => .int (lo + (i : Nat) * c)) l1 S1 (by rw [rngC_length]; exact walk_rangeC) (fun _ _ _ _ _ _ _ _ => trivial) fun i F2 κ2 G2 M2 H2 x H3 hi l2 S2 st y => ?_
    obtain ⟨rfl, rfl⟩ := y
    rw [rngC_length] at hi
    exact ⟨G2, _, Ex.refl _, S2, rngC_get hi, .int _⟩
  · cases h⟩
/-! ### the greatest, the least of a list of ints -/
theorem maxZ_mem : ∀ {ns : List Int}, 0 < ns.length → maxZ ns ∈ ns
  | [], h => by simp at h
  | [x], _ => by simp [maxZ]
  | x :: y :: r, _ => by
    have ih := maxZ_mem (ns := y :: r) (by simp)
    unfold maxZ
    rw [Int.max_def]
    split
    · exact List.mem_cons_of_mem _ ih
    · simp
theorem maxZ_ge : ∀ {ns : List Int} {x : Int}, x ∈ ns → x ≤ maxZ ns
  | [], x, h => by cases h
  | [y], x, h => by
    simp at h
    subst h
    simp [maxZ]
  | z :: y :: r, x, h => by
    unfold maxZ
    rcases List.mem_cons.mp h with rfl | h
    · omega
    · have := maxZ_ge (ns := y :: r) h
      omega
theorem minZ_mem : ∀ {ns : List Int}, 0 < ns.length → minZ ns ∈ ns
  | [], h => by simp at h
  | [x], _ => by simp [minZ]
  | x :: y :: r, _ => by
    have ih := minZ_mem (ns := y :: r) (by simp)
    unfold minZ
    rw [Int.min_def]
    split
    · simp
    · exact List.mem_cons_of_mem _ ih
theorem minZ_le : ∀ {ns : List Int} {x : Int}, x ∈ ns → minZ ns ≤ x
  | [], x, h => by cases h
  | [y], x, h => by
    simp at h
    subst h
    simp [minZ]
  | z :: y :: r, x, h => by
    unfold minZ
    rcases List.mem_cons.mp h with rfl | h
    · omega
    · have := minZ_le (ns := y :: r) h
      omega
theorem sa_max1 : SimRA K (rMax K) oMax1 := fun {F κ G M H Q xs z M' us} S r h k => by
  unfold oMax1 at h
  split at h
  · split at h
    · rename_i xs e
      split at h
      · rename_i ns en
        obtain ⟨hp, h⟩ := grd_some h
        cases h
        obtain ⟨u, rfl, a⟩ := rxs1 r
        obtain ⟨p, vs, rfl, hs, rr⟩ := lv_at S a e
        rw [rr.ints_of en] at hs
        refine ⟨p, ns, rfl, hs, hp, fun m hm hg => ?_⟩
        have : m = maxZ ns := Int.le_antisymm (maxZ_ge hm) (hg _ (maxZ_mem hp))
        subst this
        exact k.here S (Rv.int _)
      · cases h
    · cases h
  · cases h
theorem sa_min1 : SimRA K (rMin K) oMin1 := fun {F κ G M H Q xs z M' us} S r h k => by
  unfold oMin1 at h
  split at h
  · split at h
    · rename_i xs e
      split at h
      · rename_i ns en
        obtain ⟨hp, h⟩ := grd_some h
        cases h
        obtain ⟨u, rfl, a⟩ := rxs1 r
        obtain ⟨p, vs, rfl, hs, rr⟩ := lv_at S a e
        rw [rr.ints_of en] at hs
        refine ⟨p, ns, rfl, hs, hp, fun m hm hg => ?_⟩
        have : m = minZ ns := Int.le_antisymm (hg _ (minZ_mem hp)) (minZ_le hm)
        subst this
        exact k.here S (Rv.int _)
      · cases h
    · cases h
  · cases h
/-! ### xs.reverse() -/
theorem sm_reverse : SimRM K "list" rReverse mReverse := fun {F κ G M H Q x xs z M' u us} S r rs h k => by
  unfold mReverse at h
  split at h
  · rename_i n
    split at h
    · rename_i ys e
      cases h
      obtain ⟨a, rfl, ha⟩ := r
      obtain ⟨vs, _, _, e3, e4⟩ := cell_at S e ha
      refine ⟨a, vs, rfl, rxs0 rs, e3, ?_⟩
      exact k κ G _ _ (Le.refl _ _) (S.put e ha e4.reverse) Rv.non
    · cases h
  · cases h
theorem lm_reverse : ∀ v as M z, mReverse v as M = some z → ∃ n, v = .c n := fun v as M z h => by
  unfold mReverse at h
  split at h
  · exact ⟨_, rfl⟩
  · cases h
/-! ### o[i] op= e -/
def rGetL : V → V → Hp → VK → Prop := fun o i H Q => ∃ p xs k j z, o = .ref p ∧ i = .int k ∧ H p = some (.lst xs) ∧ ixN xs.length k = some j ∧ xs[j]? = some z ∧ Q z H
theorem get_list {X : Cx} : PGet X rGetL := by
  intro pins s σ H o i ov iv Q I ro ri h
  obtain ⟨p, xs, k, j, z, rfl, rfl, hp, hj, hz, q⟩ := h
  cases ro
  obtain ⟨t, rfl⟩ := ri
  obtain ⟨its, r, pl, hsz⟩ := I.list (SqL.of hp)
  obtain ⟨w, ew, rw'⟩ := r.get hz
  have hl := r.length
  have hn := line63
  have fin : EP X pins σ Q w s := ⟨z, H, I, rw', q⟩
  have hjl : j < xs.length := (List.getElem?_eq_some_iff.mp hz).1
  unfold ixN at hj
  by_cases h0 : 0 ≤ k
  · rw [if_pos h0] at hj
    split at hj
    · rename_i hk
      have ej : k.toNat = j := Option.some.inj hj
      exact wpAny_getItem_list pl.isList h0 (by omega) (by rw [ej]; simpa using ew) fin
    · cases hj
  · rw [if_neg h0] at hj
    split at hj
    · rename_i hk
      have ej : (k + (xs.length : Int)).toNat = j := Option.some.inj hj
      refine wpAny_getItem_list_neg pl.isList (by omega) (by rw [List.size_toArray] <;> omega) (by omega) ?_ fin
      rw [List.size_toArray, ← hl, ej]
      simpa using ew
    · cases hj
theorem ss_augS {to ti te : TE} {o i e : DE} {r : TIp} {f : O2} (hr : SimIp K r f) (ho : SimE K to o) (hi : SimE K ti i) (he : SimE K te e) : SimS K (tAugS to ti te rGetL r rSetL) (dAugS f o i e) := ⟨fun {F κ G σ ρ M H D oo} S E h k => by
  unfold dAugS at h
  split at h
  · rename_i n M1 e1
    split at h
    · rename_i kk M2 e2
      split at h
      · rename_i xs ex
        split at h
        · rename_i j ej
          split at h
          · rename_i x exj
            split at h
            · rename_i y M3 e3
              split at h
              · rename_i z M4 e4
                split at h
                · rename_i ys ey
                  split at h
                  · rename_i hl
                    cases h
                    refine ho.run S E e1 fun κ1 G1 u H1 l1 S1 r1 => hi.run S1 (E.mono l1) e2 fun κ2 G2 v H2 l2 S2 r2 => ?_
                    obtain ⟨a, rfl, ha⟩ := r1.mono l2
                    obtain ⟨us, _, _, q3, q4⟩ := cell_at S2 ex ha
                    obtain ⟨w, hw, rw'⟩ := q4.get exj
                    refine ⟨a, us, kk, j, w, rfl, rx_int r2, q3, by rw [q4.length, ← ixD_eq]; exact ej, hw, ?_⟩
                    refine he.run S2 ((E.mono l1).mono l2) e3 fun κ3 G3 y' H3 l3 S3 r3 => hr S3 (show Rx K κ3 G3 w (.d x) from Rv.mono l3.ex rw') r3 e4 fun κ4 G4 z' H4 l4 S4 r4 => ?_
                    have ha4 := l4.at_ (l3.at_ ha)
                    obtain ⟨us4, _, _, p3, p4⟩ := cell_at S4 ey ha4
                    refine ⟨a, us4, kk, j, rfl, rx_int r2, p3, by rw [p4.length, hl, ← ixD_eq]; exact ej, ?_⟩
                    exact k κ4 G4 σ _ (((l1.trans l2).trans l3).trans l4) (S4.put ey ha4 (p4.set r4 j)) ((((E.mono l1).mono l2).mono l3).mono l4)
                  · cases h
                · cases h
              · cases h
            · cases h
          · cases h
        · cases h
      · cases h
    · cases h
  · cases h⟩
end
section
variable {X : Cx} {a b c e o i : Expr} {pos : Pos} {da db dc de do_ di : DE} {es : List Expr} {das : DA} {n : Nat} {p : Pos} {tg : Expr}
theorem i_r3 (hm : X.mg "range" = none) (ha : PDA X [a, b, c] das n) (hg : Gl X "range" := by rfl) (hs : starEach [a, b, c] X.env = (false, eval a X.env) :: starEach [b, c] X.env := by rfl) (hpl : (backTo pos (starEach [b, c] X.env)).any (·.1) = false := by rfl) : PDI X tg (.Call (.Name "range" p) [a, b, c] [] pos) (iR3 das) := by
  obtain ⟨t, h1, h2⟩ := ha.ex
  exact ⟨_, pi_range3 hg hm h1 hs hpl, sim_iR3 h2⟩
theorem d_max1 (hm : X.mg "max" = none) (ha : PDA X (e :: es) das n) (hc : X.calm = true := by rfl) (hg : Gl X "max" := by rfl) (he : starEach (e :: es) X.env = (false, eval e X.env) :: starEach es X.env := by rfl) (hpl : (backTo pos (starEach es X.env)).any (·.1) = false := by rfl) : PD X (.Call (.Name "max" p) (e :: es) [] pos) (eA oMax1 das) := d_bi (x := "max") (cr_max hc) sa_max1 hg hm (by decide +kernel) ha (he := he) (hpl := hpl)
theorem d_min1 (hm : X.mg "min" = none) (ha : PDA X (e :: es) das n) (hc : X.calm = true := by rfl) (hg : Gl X "min" := by rfl) (he : starEach (e :: es) X.env = (false, eval e X.env) :: starEach es X.env := by rfl) (hpl : (backTo pos (starEach es X.env)).any (·.1) = false := by rfl) : PD X (.Call (.Name "min" p) (e :: es) [] pos) (eA oMin1 das) := d_bi (x := "min") (cr_min hc) sa_min1 hg hm (by decide +kernel) ha (he := he) (hpl := hpl)
theorem d_reverse {apos : Pos} (ho : PD X a da) (hbase : attributeBase a "reverse" X.env (eval a X.env) = eval a X.env := by rfl) (hline : (apos.endLine == pos.line) = true := by rfl) : PD X (.Call (.Attribute a "reverse" apos) [] [] pos) (eM mReverse da aNil) := by
  obtain ⟨t, h1, h2⟩ := ho.ex
  exact ⟨_, pe_bm0 PySem.F.plainAttrs_list PySem.F.slot_list_reverse PySem.F.type_list_reverse mt_reverse h1 hbase hline, sim_bm0 sm_reverse lm_reverse h2⟩
theorem s_augS {op : Operator} {f : O2} {tpos : Pos} (hr : AugR X op f) (ho : PD X o do_) (hi : PD X i di) (he : PD X e de) (ha : ∀ ov iv new, augStore i ov iv new = (do holding [new, ov, iv] (setItem ov iv new); release [new, ov, iv] []; pure .next) := by intros; rfl) :
    PDS X (.AugAssign (.Subscript o i tpos) op e pos) (dAugS f do_ di de) := by
  obtain ⟨t1, a1, a2⟩ := ho.ex
  obtain ⟨t2, b1, b2⟩ := hi.ex
  obtain ⟨t3, c1, c2⟩ := he.ex
  obtain ⟨r, h1, h2⟩ := hr.ex
  exact ⟨_, ps_augS a1 b1 get_list c1 h1 set_list ha, ss_augS h2 a2 b2 c2⟩
end
/-! ### <= of two tuples of two ints -/
theorem sr_leT {K : PySem.W.Frag} : SimR2 K (rLeT K) oLeT := fun {F κ G M H Q x y z M' u v} S rx ry h k => by
  unfold oLeT at h
  split at h
  · rename_i a b c d
    cases h
    cases rx with
    | tup sx vx =>
      rename_i p us
      cases ry with
      | tup sy vy =>
        rename_i q vs
        have e1 := Rvs.ints_of vx (ns := [a, b]) rfl
        have e2 := Rvs.ints_of vy (ns := [c, d]) rfl
        subst e1
        subst e2
        refine ⟨p, q, [a, b], [c, d], rfl, rfl, Evl.ex_t S.ex sx, Evl.ex_t S.ex sy, ?_⟩
        have ev : Ob.lexAt (fun j => decide (([a, b] : List Int).getD j 0 = ([c, d] : List Int).getD j 0)) (fun j => decide (([a, b] : List Int).getD j 0 ≤ ([c, d] : List Int).getD j 0)) (decide (([a, b] : List Int).length ≤ ([c, d] : List Int).length)) 0 (min ([a, b] : List Int).length ([c, d] : List Int).length) = (if a = c then decide (b ≤ d) else decide (a ≤ c)) := by
          show (if decide (a = c) = true then (if decide (b = d) = true then decide ((2 : Nat) ≤ 2) else decide (b ≤ d)) else decide (a ≤ c)) = _
          by_cases h1 : a = c
          · by_cases h2 : b = d
            · simp [h1, h2]
            · simp [h1, h2]
          · simp [h1]
        rw [ev]
        exact k.here S (Rv.bl _)
  · cases h
theorem k_leT {X : Cx} {k : Nat} (hr : Room k X.A) : CmpR X .LtE oLeT := ⟨_, op_leT (Nat.lt_of_le_of_lt (Nat.le_add_right _ 64) hr.units), sr_leT⟩
end Rw
end PRwExt
section PRwOk
set_option autoImplicit false
set_option linter.all false
set_option maxRecDepth 100000
/-! RwOk: what a pure reading comes to, pushed through its parts by simp. -/
namespace Rw
open PySem (Str)
/-- it comes to something of which P holds -/
def Ok {α : Type} (o : Option α) (P : α → Prop) : Prop := ∃ x, o = some x ∧ P x
section
variable {α β : Type} {P : α → Prop} {ρ : DEnv} {M : DSt}
@[simp ↓] theorem ok_some {x : α} : Ok (some x) P ↔ P x := ⟨fun ⟨y, e, h⟩ => by cases e; exact h, fun h => ⟨x, rfl, h⟩⟩
@[simp ↓] theorem ok_none : Ok (none : Option α) P ↔ False := ⟨fun ⟨y, e, h⟩ => (nomatch e), fun h => h.elim⟩
@[simp ↓] theorem ok_grd {p : Prop} {o : Option α} : Ok (grd p o) P ↔ p ∧ Ok o P := by
  constructor
  · rintro ⟨x, e, h⟩
    obtain ⟨a, b⟩ := grd_some e
    exact ⟨a, x, b, h⟩
  · rintro ⟨a, x, b, h⟩
    exact ⟨x, by rw [grd_ok a]; exact b, h⟩
theorem Ok.mono {o : Option α} {Q : α → Prop} (h : Ok o P) (k : ∀ x, P x → Q x) : Ok o Q := let ⟨x, e, p⟩ := h; ⟨x, e, k x p⟩
theorem Ok.of {o : Option α} {x : α} (e : o = some x) (h : P x) : Ok o P := ⟨x, e, h⟩
theorem ok_eq {o : Option α} {x : α} (h : Ok o fun y => y = x) : o = some x := let ⟨_, e, p⟩ := h; p ▸ e
end
/-- the value of a slot; a value of a kind -/
def getV : DEnv → Nat → Option Dv
  | [], _ => none
  | x :: _, 0 => x
  | _ :: r, i + 1 => getV r i
theorem getV_eq : ∀ (ρ : DEnv) (i : Nat), getV ρ i = (ρ[i]?).join
  | [], _ => by simp [getV]
  | x :: r, 0 => by simp [getV]
  | x :: r, i + 1 => by simp [getV, getV_eq r i]
def asB : Dv → Option Bool
  | .d (.bl b) => some b
  | _ => none
def asI : Dv → Option Int
  | .d (.int b) => some b
  | _ => none
def asD : Dv → Option D
  | .d x => some x
  | _ => none
def asC : Dv → Option Nat
  | .c n => some n
  | _ => none
/-- the cell n of the store -/
def cel (M : DSt) (n : Nat) : Option (List D) := (M[n]?).join
/-- the item at a place -/
def atD (xs : List D) (i : Int) : Option D := match ixD xs.length i with
  | some k => xs[k]?
  | none => none
section
variable {α : Type} {x : Dv} {y : Option Dv} {r : DEnv} {i : Nat} {P : Dv → Prop}
@[simp ↓] theorem ok_getV0 : Ok (getV (some x :: r) 0) P ↔ P x := by simp [getV]
@[simp ↓] theorem ok_getV0n : Ok (getV (none :: r) 0) P ↔ False := by simp [getV]
@[simp ↓] theorem ok_getVs : Ok (getV (y :: r) (i + 1)) P ↔ Ok (getV r i) P := by simp [getV]
@[simp ↓] theorem ok_asB {b : Bool} {P : Bool → Prop} : Ok (asB (.d (.bl b))) P ↔ P b := by simp [asB]
@[simp ↓] theorem ok_asI {b : Int} {P : Int → Prop} : Ok (asI (.d (.int b))) P ↔ P b := by simp [asI]
@[simp ↓] theorem ok_asD {b : D} {P : D → Prop} : Ok (asD (.d b)) P ↔ P b := by simp [asD]
@[simp ↓] theorem ok_asC {b : Nat} {P : Nat → Prop} : Ok (asC (.c b)) P ↔ P b := by simp [asC]
theorem celOk {M : DSt} {n : Nat} {xs : List D} (h : M[n]? = some (some xs)) (P : List D → Prop) : Ok (cel M n) P ↔ P xs := by simp [cel, h]
end
section
variable {ρ : DEnv} {M : DSt} {P : Dv × DSt → Prop}
@[simp ↓] theorem ok_var {i : Nat} : Ok (eVar i ρ M) P ↔ Ok (getV ρ i) fun x => P (x, M) := by
  unfold eVar
  rw [getV_eq]
  cases e : ρ[i]? with
  | none => simp
  | some o => cases o <;> simp
@[simp ↓] theorem ok_c {d : D} : Ok (eC d ρ M) P ↔ P (.d d, M) := by simp [eC]
@[simp ↓] theorem ok_e1 {f : O1} {a : DE} : Ok (e1 f a ρ M) P ↔ Ok (a ρ M) fun p => Ok (f p.1 p.2) P := by
  unfold e1
  cases a ρ M <;> simp
@[simp ↓] theorem ok_e2 {f : O2} {a b : DE} : Ok (e2 f a b ρ M) P ↔ Ok (a ρ M) fun p => Ok (b ρ p.2) fun q => Ok (f p.1 q.1 q.2) P := by
  unfold e2
  cases a ρ M with
  | none => simp
  | some p =>
    obtain ⟨x, M1⟩ := p
    simp only [ok_some]
    cases b ρ M1 <;> simp
@[simp ↓] theorem ok_aNil {P : List Dv × DSt → Prop} : Ok (aNil ρ M) P ↔ P ([], M) := by simp [aNil]
@[simp ↓] theorem ok_aCons {a : DE} {as : DA} {P : List Dv × DSt → Prop} : Ok (aCons a as ρ M) P ↔ Ok (a ρ M) fun p => Ok (as ρ p.2) fun q => P (p.1 :: q.1, q.2) := by
  unfold aCons
  cases a ρ M with
  | none => simp
  | some p =>
    obtain ⟨x, M1⟩ := p
    simp only [ok_some]
    cases as ρ M1 <;> simp
@[simp ↓] theorem ok_eA {f : OA} {as : DA} : Ok (eA f as ρ M) P ↔ Ok (as ρ M) fun p => Ok (f p.1 p.2) P := by
  unfold eA
  cases as ρ M <;> simp
@[simp ↓] theorem ok_call {f : DF} {as : DA} : Ok (eCall f as ρ M) P ↔ Ok (as ρ M) fun p => Ok (f p.1 p.2) P := by
  unfold eCall
  exact ok_eA
@[simp ↓] theorem ok_eM {f : Dv → List Dv → DSt → Option (Dv × DSt)} {a : DE} {as : DA} : Ok (eM f a as ρ M) P ↔ Ok (a ρ M) fun p => Ok (as ρ p.2) fun q => Ok (f p.1 q.1 q.2) P := by
  unfold eM
  cases a ρ M with
  | none => simp
  | some p =>
    obtain ⟨x, M1⟩ := p
    simp only [ok_some]
    cases as ρ M1 <;> simp
@[simp ↓] theorem ok_eTup {as : DA} : Ok (eTup as ρ M) P ↔ Ok (as ρ M) fun p => Ok (allD p.1) fun xs => xs.length ≤ big ∧ P (.d (.tup xs), p.2) := by
  unfold eTup
  rw [ok_eA]
  constructor <;> (intro h; refine h.mono fun p hp => ?_) <;> (cases e : allD p.1 <;> simp [e] at hp ⊢ <;> exact hp)
@[simp ↓] theorem ok_eLst {c : Bool} {as : DA} : Ok (eLst c as ρ M) P ↔ Ok (as ρ M) fun p => Ok (allD p.1) fun xs => xs.length ≤ big ∧ Ok (mkL c xs p.2) P := by
  unfold eLst
  rw [ok_eA]
  constructor <;> (intro h; refine h.mono fun p hp => ?_) <;> (cases e : allD p.1 <;> simp [e] at hp ⊢ <;> exact hp)
@[simp ↓] theorem ok_chain {f g : O2} {a b c : DE} : Ok (eChain f g a b c ρ M) P ↔ Ok (a ρ M) fun p => Ok (b ρ p.2) fun q => Ok (f p.1 q.1 q.2) fun r => Ok (asB r.1) fun k => if k = true then Ok (c ρ r.2) fun s => Ok (g q.1 s.1 s.2) P else P (.d (.bl false), r.2) := by
  unfold eChain
  cases a ρ M with
  | none => simp
  | some p =>
    obtain ⟨x, M1⟩ := p
    simp only [ok_some]
    cases b ρ M1 with
    | none => simp
    | some q =>
      obtain ⟨y, M2⟩ := q
      simp only [ok_some]
      cases f x y M2 with
      | none => simp
      | some r =>
        obtain ⟨z, M3⟩ := r
        simp only [ok_some]
        cases z with
        | c n => simp [asB]
        | r n => simp [asB]
        | o _ _ _ => simp [asB]
        | d z =>
          cases z with
          | bl k =>
            cases k
            · simp
            · simp only [ok_asB, if_true]
              cases c ρ M3 <;> simp
          | _ => simp [asB]
@[simp ↓] theorem ok_eAnd {a b : DE} : Ok (eAnd a b ρ M) P ↔ Ok (a ρ M) fun p => Ok (asB p.1) fun k => if k = true then Ok (b ρ p.2) P else P (.d (.bl false), p.2) := by
  unfold eAnd
  cases a ρ M with
  | none => simp
  | some p =>
    obtain ⟨z, M3⟩ := p
    cases z with
    | c n => simp [asB]
    | r n => simp [asB]
    | o _ _ _ => simp [asB]
    | d z =>
      cases z with
      | bl k => cases k <;> simp
      | _ => simp [asB]
@[simp ↓] theorem ok_eOr {a b : DE} : Ok (eOr a b ρ M) P ↔ Ok (a ρ M) fun p => Ok (asB p.1) fun k => if k = true then P (.d (.bl true), p.2) else Ok (b ρ p.2) P := by
  unfold eOr
  cases a ρ M with
  | none => simp
  | some p =>
    obtain ⟨z, M3⟩ := p
    cases z with
    | c n => simp [asB]
    | r n => simp [asB]
    | o _ _ _ => simp [asB]
    | d z =>
      cases z with
      | bl k => cases k <;> simp
      | _ => simp [asB]
@[simp ↓] theorem ok_eNot {a : DE} : Ok (eNot a ρ M) P ↔ Ok (a ρ M) fun p => Ok (asB p.1) fun k => P (.d (.bl (!k)), p.2) := by
  unfold eNot
  cases a ρ M with
  | none => simp
  | some p =>
    obtain ⟨z, M3⟩ := p
    cases z with
    | c n => simp [asB]
    | r n => simp [asB]
    | o _ _ _ => simp [asB]
    | d z =>
      cases z with
      | bl k => cases k <;> simp
      | _ => simp [asB]
@[simp ↓] theorem ok_eIf {t : DT} {a b : DE} : Ok (eIf t a b ρ M) P ↔ Ok (t ρ M) fun p => if p.1 = true then Ok (a ρ p.2) P else Ok (b ρ p.2) P := by
  unfold eIf
  cases t ρ M with
  | none => simp
  | some p =>
    obtain ⟨k, M3⟩ := p
    cases k <;> simp
@[simp ↓] theorem ok_eFrz {a : DE} : Ok (eFrz a ρ M) P ↔ Ok (a ρ M) fun p => Ok (frz M.length p) P := by
  unfold eFrz
  cases a ρ M <;> simp
@[simp ↓] theorem ok_eFrzC {a : DE} : Ok (eFrzC a ρ M) P ↔ Ok (a ρ M) fun p => Ok (asC p.1) fun n => Ok (cel p.2 n) fun xs => P (.d (.lst xs), p.2.set n none) := by
  unfold eFrzC
  cases a ρ M with
  | none => simp
  | some p =>
    obtain ⟨z, M3⟩ := p
    cases z with
    | d z => simp [asC]
    | r n => simp [asC]
    | o _ _ _ => simp [asC]
    | c n =>
      simp only [ok_some, ok_asC]
      unfold cel
      cases e : (M3[n]?).join with
      | none => simp
      | some xs => simp
@[simp ↓] theorem ok_eSl {f : Dv → Option Int → Option Int → DSt → Option (Dv × DSt)} {a : DE} {lo hi : DO} : Ok (eSl f a lo hi ρ M) P ↔ Ok (a ρ M) fun p => Ok (lo ρ p.2) fun q => Ok (hi ρ q.2) fun r => Ok (f p.1 q.1 r.1 r.2) P := by
  unfold eSl
  cases a ρ M with
  | none => simp
  | some p =>
    obtain ⟨x, M1⟩ := p
    simp only [ok_some]
    cases lo ρ M1 with
    | none => simp
    | some q =>
      obtain ⟨y, M2⟩ := q
      simp only [ok_some]
      cases hi ρ M2 <;> simp
@[simp ↓] theorem ok_pNone {P : Option Int × DSt → Prop} : Ok (pNone ρ M) P ↔ P (none, M) := by simp [pNone]
@[simp ↓] theorem ok_pSome {a : DE} {P : Option Int × DSt → Prop} : Ok (pSome a ρ M) P ↔ Ok (a ρ M) fun p => Ok (asI p.1) fun i => P (some i, p.2) := by
  unfold pSome
  cases a ρ M with
  | none => simp
  | some p =>
    obtain ⟨z, M3⟩ := p
    cases z with
    | c n => simp [asI]
    | r n => simp [asI]
    | o _ _ _ => simp [asI]
    | d z => cases z <;> simp [asI]
end
section
variable {ρ : DEnv} {M : DSt} {P : Bool × DSt → Prop}
@[simp ↓] theorem ok_tVal {a : DE} : Ok (tVal a ρ M) P ↔ Ok (a ρ M) fun p => Ok (asB p.1) fun b => P (b, p.2) := by
  unfold tVal
  cases a ρ M with
  | none => simp
  | some p =>
    obtain ⟨z, M3⟩ := p
    cases z with
    | c n => simp [asB]
    | r n => simp [asB]
    | o _ _ _ => simp [asB]
    | d z => cases z <;> simp [asB]
@[simp ↓] theorem ok_tAnd {a b : DT} : Ok (Rw.tAnd a b ρ M) P ↔ Ok (a ρ M) fun p => if p.1 = true then Ok (b ρ p.2) P else P (false, p.2) := by
  unfold tAnd
  cases a ρ M with
  | none => simp
  | some p =>
    obtain ⟨k, M3⟩ := p
    cases k <;> simp
@[simp ↓] theorem ok_tOr {a b : DT} : Ok (Rw.tOr a b ρ M) P ↔ Ok (a ρ M) fun p => if p.1 = true then P (true, p.2) else Ok (b ρ p.2) P := by
  unfold tOr
  cases a ρ M with
  | none => simp
  | some p =>
    obtain ⟨k, M3⟩ := p
    cases k <;> simp
@[simp ↓] theorem ok_tNot {a : DT} : Ok (Rw.tNot a ρ M) P ↔ Ok (a ρ M) fun p => P (!p.1, p.2) := by
  unfold tNot
  cases a ρ M <;> simp
@[simp ↓] theorem ok_tYes : Ok (tYes ρ M) P ↔ P (true, M) := by simp [tYes]
end
section
variable {ρ : DEnv} {M : DSt} {P : Out → Prop}
/-- what follows a statement -/
def seqP (t : DS) (P : Out → Prop) : Out → Prop
  | .nx ρ M => Ok (t ρ M) P
  | .rt v M => P (.rt v M)
  | .bk ρ M => P (.bk ρ M)
  | .ct ρ M => P (.ct ρ M)
@[simp ↓] theorem seqP_nx {t : DS} : seqP t P (.nx ρ M) ↔ Ok (t ρ M) P := Iff.rfl
@[simp ↓] theorem seqP_rt {t : DS} {v : Dv} : seqP t P (.rt v M) ↔ P (.rt v M) := Iff.rfl
@[simp ↓] theorem seqP_bk {t : DS} : seqP t P (.bk ρ M) ↔ P (.bk ρ M) := Iff.rfl
@[simp ↓] theorem seqP_ct {t : DS} : seqP t P (.ct ρ M) ↔ P (.ct ρ M) := Iff.rfl
@[simp ↓] theorem ok_seq {s t : DS} : Ok (dSeq s t ρ M) P ↔ Ok (s ρ M) (seqP t P) := by
  unfold dSeq
  cases s ρ M with
  | none => simp
  | some o => cases o <;> simp
@[simp ↓] theorem ok_pass : Ok (dPass ρ M) P ↔ P (.nx ρ M) := by simp [dPass]
@[simp ↓] theorem ok_break : Ok (dBreak ρ M) P ↔ P (.bk ρ M) := by simp [dBreak]
@[simp ↓] theorem ok_cont : Ok (dCont ρ M) P ↔ P (.ct ρ M) := by simp [dCont]
@[simp ↓] theorem ok_never : Ok (dNever ρ M) P ↔ False := by simp [dNever]
@[simp ↓] theorem ok_asg {tg : Tgt} {a : DE} : Ok (dAsg tg a ρ M) P ↔ Ok (a ρ M) fun p => Ok (tg.put p.1 ρ) fun ρ1 => P (.nx ρ1 p.2) := by
  unfold dAsg
  cases a ρ M with
  | none => simp
  | some p =>
    obtain ⟨x, M1⟩ := p
    simp only [ok_some]
    cases tg.put x ρ <;> simp
@[simp] theorem put_name {i : Nat} {v : Dv} : Tgt.put (.name i) v ρ = some (ρ.set i (some v)) := by simp [Tgt.put]
@[simp ↓] theorem ok_putN {i : Nat} {v : Dv} {P : DEnv → Prop} : Ok (Tgt.put (.name i) v ρ) P ↔ P (ρ.set i (some v)) := by simp
@[simp] theorem put_tup {ts : List Tgt} {xs : List D} : Tgt.put (.tup ts) (.d (.tup xs)) ρ = if xs.length = ts.length then Tgt.puts ts xs ρ else none := by simp [Tgt.put]
@[simp] theorem put_lst {ts : List Tgt} {xs : List D} : Tgt.put (.tup ts) (.d (.lst xs)) ρ = if xs.length = ts.length then Tgt.puts ts xs ρ else none := by simp [Tgt.put]
@[simp ↓] theorem ok_putT {ts : List Tgt} {xs : List D} {P : DEnv → Prop} : Ok (Tgt.put (.tup ts) (.d (.tup xs)) ρ) P ↔ xs.length = ts.length ∧ Ok (Tgt.puts ts xs ρ) P := by
  simp only [put_tup]
  split <;> simp_all
@[simp ↓] theorem ok_putL {ts : List Tgt} {xs : List D} {P : DEnv → Prop} : Ok (Tgt.put (.tup ts) (.d (.lst xs)) ρ) P ↔ xs.length = ts.length ∧ Ok (Tgt.puts ts xs ρ) P := by
  simp only [put_lst]
  split <;> simp_all
@[simp] theorem puts_nil : Tgt.puts [] [] ρ = some ρ := by simp [Tgt.puts]
@[simp] theorem puts_cons {t : Tgt} {ts : List Tgt} {x : D} {xs : List D} : Tgt.puts (t :: ts) (x :: xs) ρ = (t.put (.d x) ρ).bind (Tgt.puts ts xs) := by
  simp only [Tgt.puts]
  cases t.put (.d x) ρ <;> rfl
@[simp ↓] theorem ok_puts0 {P : DEnv → Prop} : Ok (Tgt.puts [] [] ρ) P ↔ P ρ := by simp
@[simp ↓] theorem ok_putsC {t : Tgt} {ts : List Tgt} {x : D} {xs : List D} {P : DEnv → Prop} : Ok (Tgt.puts (t :: ts) (x :: xs) ρ) P ↔ Ok (t.put (.d x) ρ) fun ρ1 => Ok (Tgt.puts ts xs ρ1) P := by
  rw [puts_cons]
  cases t.put (.d x) ρ <;> simp
@[simp ↓] theorem ok_par {i j : Nat} {a b : DE} : Ok (dPar i j a b ρ M) P ↔ Ok (a ρ M) fun p => Ok (b ρ p.2) fun q => P (.nx ((ρ.set i (some p.1)).set j (some q.1)) q.2) := by
  unfold dPar
  cases a ρ M with
  | none => simp
  | some p =>
    obtain ⟨x, M1⟩ := p
    simp only [ok_some]
    cases b ρ M1 <;> simp
@[simp ↓] theorem ok_aug {i : Nat} {f : O2} {a : DE} : Ok (dAug i f a ρ M) P ↔ Ok (getV ρ i) fun x => Ok (a ρ M) fun p => Ok (f x p.1 p.2) fun q => P (.nx (ρ.set i (some q.1)) q.2) := by
  unfold dAug
  rw [getV_eq]
  cases e : ρ[i]? with
  | none => simp
  | some o =>
    cases o with
    | none => simp
    | some x =>
      simp only [Option.join_some, ok_some]
      cases a ρ M with
      | none => simp
      | some p =>
        obtain ⟨y, M1⟩ := p
        simp only [ok_some]
        cases f x y M1 <;> simp
@[simp ↓] theorem ok_put {o i e : DE} : Ok (dPut o i e ρ M) P ↔ Ok (e ρ M) fun p => Ok (asD p.1) fun x => Ok (o ρ p.2) fun q => Ok (asC q.1) fun n => Ok (i ρ q.2) fun r => Ok (asI r.1) fun k => Ok (cel r.2 n) fun xs => Ok (ixD xs.length k) fun j => P (.nx ρ (setC r.2 n (xs.set j x))) := by
  unfold dPut
  cases e ρ M with
  | none => simp
  | some p =>
    obtain ⟨x, M1⟩ := p
    simp only [ok_some]
    cases x with
    | c n => simp [asD]
    | r n => simp [asD]
    | o _ _ _ => simp [asD]
    | d x =>
      simp only [ok_asD]
      cases o ρ M1 with
      | none => simp
      | some q =>
        obtain ⟨y, M2⟩ := q
        simp only [ok_some]
        cases y with
        | d n => simp [asC]
        | r n => simp [asC]
        | o _ _ _ => simp [asC]
        | c n =>
          simp only [ok_asC]
          cases i ρ M2 with
          | none => simp
          | some r =>
            obtain ⟨z, M3⟩ := r
            simp only [ok_some]
            cases z with
            | c n => simp [asI]
            | r n => simp [asI]
            | o _ _ _ => simp [asI]
            | d z =>
              cases z with
              | int k =>
                simp only [ok_asI]
                unfold cel
                cases e1 : (M3[n]?).join with
                | none => simp
                | some xs =>
                  simp only [ok_some]
                  cases e2 : ixD xs.length k with
                  | none => simp
                  | some j => simp
              | _ => simp [asI]
@[simp ↓] theorem ok_expr {a : DE} : Ok (dExpr a ρ M) P ↔ Ok (a ρ M) fun p => P (.nx ρ p.2) := by
  unfold dExpr
  cases a ρ M <;> simp
@[simp ↓] theorem ok_ret {a : DE} : Ok (dRet a ρ M) P ↔ Ok (a ρ M) fun p => P (.rt p.1 p.2) := by
  unfold dRet
  cases a ρ M <;> simp
@[simp ↓] theorem ok_retN : Ok (dRetN ρ M) P ↔ P (.rt (.d .non) M) := by simp [dRetN]
@[simp ↓] theorem ok_if {t : DT} {a b : DS} : Ok (dIf t a b ρ M) P ↔ Ok (t ρ M) fun p => if p.1 = true then Ok (a ρ p.2) P else Ok (b ρ p.2) P := by
  unfold dIf
  cases t ρ M with
  | none => simp
  | some p =>
    obtain ⟨k, M3⟩ := p
    cases k <;> simp
@[simp ↓] theorem ok_wipe {vs : List Nat} {s : DS} : Ok (dWipe vs s ρ M) P ↔ Ok (s ρ M) fun o => P (wipeO vs o) := by
  unfold dWipe
  cases s ρ M <;> simp
@[simp ↓] theorem ok_pre {vs : List Nat} {s : DS} : Ok (dPre vs s ρ M) P ↔ Ok (s (wipeD ρ vs) M) P := Iff.rfl
@[simp] theorem wipeO_nx {vs : List Nat} : wipeO vs (.nx ρ M) = .nx (wipeD ρ vs) M := rfl
@[simp] theorem wipeO_bk {vs : List Nat} : wipeO vs (.bk ρ M) = .bk (wipeD ρ vs) M := rfl
@[simp] theorem wipeO_ct {vs : List Nat} : wipeO vs (.ct ρ M) = .ct (wipeD ρ vs) M := rfl
@[simp] theorem wipeO_rt {vs : List Nat} {v : Dv} : wipeO vs (.rt v M) = .rt v M := rfl
@[simp] theorem wipeD_nil : wipeD ρ [] = ρ := rfl
@[simp] theorem wipeD_cons {v : Nat} {vs : List Nat} : wipeD ρ (v :: vs) = (wipeD ρ vs).set v none := rfl
@[simp ↓] theorem ok_for {it : DI} {tg : Tgt} {s : DS} : Ok (dFor it tg s ρ M) P ↔ Ok (it ρ M) fun p => Ok (forL (stand p.2.1 p.2.2) (forStep tg s) p.1 ρ p.2.2) P := by
  unfold dFor
  cases it ρ M <;> simp
@[simp ↓] theorem ok_forStep {tg : Tgt} {s : DS} {x : D} : Ok (forStep tg s x ρ M) P ↔ Ok (tg.put (.d x) ρ) fun ρ1 => Ok (s ρ1 M) P := by
  unfold forStep
  cases tg.put (.d x) ρ <;> simp
/-- what a turn is to reach -/
def turnP (Nx : DEnv → DSt → Prop) (P : Out → Prop) : Out → Prop
  | .nx ρ M => Nx ρ M
  | .ct ρ M => Nx ρ M
  | .bk ρ M => P (.nx ρ M)
  | .rt v M => P (.rt v M)
@[simp ↓] theorem turnP_nx {Nx : DEnv → DSt → Prop} : turnP Nx P (.nx ρ M) ↔ Nx ρ M := Iff.rfl
@[simp ↓] theorem turnP_ct {Nx : DEnv → DSt → Prop} : turnP Nx P (.ct ρ M) ↔ Nx ρ M := Iff.rfl
@[simp ↓] theorem turnP_bk {Nx : DEnv → DSt → Prop} : turnP Nx P (.bk ρ M) ↔ P (.nx ρ M) := Iff.rfl
@[simp ↓] theorem turnP_rt {Nx : DEnv → DSt → Prop} {v : Dv} : turnP Nx P (.rt v M) ↔ P (.rt v M) := Iff.rfl
/-- a for by its invariant -/
theorem forL_by {α : Type} {chk : DSt → Prop} {step : α → DEnv → DSt → Option Out} : ∀ (xs : List α) {ρ : DEnv} {M : DSt} (I : Nat → DEnv → DSt → Prop), I 0 ρ M →
    (∀ i x ρ M, xs[i]? = some x → I i ρ M → chk M ∧ Ok (step x ρ M) (turnP (I (i + 1)) P)) → (∀ ρ M, I xs.length ρ M → chk M ∧ P (.nx ρ M)) → Ok (forL chk step xs ρ M) P
  | [], ρ, M, I, h0, _, hd => by
    unfold forL
    rw [ok_grd]
    obtain ⟨a, b⟩ := hd ρ M h0
    exact ⟨a, by simpa using b⟩
  | x :: xs, ρ, M, I, h0, hs, hd => by
    unfold forL
    rw [ok_grd]
    obtain ⟨a, o, e, b⟩ := hs 0 x ρ M rfl h0
    refine ⟨a, ?_⟩
    rw [e]
    cases o with
    | nx ρ1 M1 => exact forL_by xs (fun i => I (i + 1)) b (fun i y ρ M hy hI => hs (i + 1) y ρ M (by simpa using hy) hI) (fun ρ M hI => hd ρ M hI)
    | ct ρ1 M1 => exact forL_by xs (fun i => I (i + 1)) b (fun i y ρ M hy hI => hs (i + 1) y ρ M (by simpa using hy) hI) (fun ρ M hI => hd ρ M hI)
    | bk ρ1 M1 => simpa using b
    | rt v M1 => simpa using b
/-- a while by its invariant and a measure -/
theorem while_by {t : DT} {s : DS} (I : Nat → DEnv → DSt → Prop) : ∀ (n : Nat) {ρ : DEnv} {M : DSt}, I n ρ M →
    (∀ n ρ M, I n ρ M → Ok (t ρ M) fun p => if p.1 = true then Ok (s ρ p.2) (turnP (fun ρ' M' => ∃ m, m < n ∧ I m ρ' M') P) else P (.nx ρ p.2)) → Ok (dWhile t s ρ M) P := by
  intro n
  induction n using Nat.strongRecOn with
  | _ n ih =>
    intro ρ M h0 hs
    obtain ⟨p, e, h⟩ := hs n ρ M h0
    obtain ⟨b, M1⟩ := p
    rw [dWhile_eq, e]
    cases b with
    | false => simpa using h
    | true =>
      simp only [if_true] at h
      obtain ⟨o, e2, h⟩ := h
      simp only [e2]
      cases o with
      | nx ρ1 M2 =>
        obtain ⟨m, hm, hI⟩ := h
        exact ih m hm hI hs
      | ct ρ1 M2 =>
        obtain ⟨m, hm, hI⟩ := h
        exact ih m hm hI hs
      | bk ρ1 M2 => simpa using h
      | rt v M2 => simpa using h
/-- behind a def's body -/
def finP (b : Nat) (P : Dv × DSt → Prop) : Out → Prop
  | .rt v M => Ok (fin b v M) P
  | .nx _ M => Ok (fin b (.d .non) M) P
  | _ => False
@[simp ↓] theorem finP_rt {b : Nat} {P : Dv × DSt → Prop} {v : Dv} : finP b P (.rt v M) ↔ Ok (fin b v M) P := Iff.rfl
@[simp ↓] theorem finP_nx {b : Nat} {P : Dv × DSt → Prop} : finP b P (.nx ρ M) ↔ Ok (fin b (.d .non) M) P := Iff.rfl
theorem ok_fn {n : Nat} {s : DS} {as : List Dv} {P : Dv × DSt → Prop} : Ok (fnD n s as M) P ↔ Ok (s (startD n as) M) (finP M.length P) := by
  unfold fnD
  cases s (startD n as) M with
  | none => simp
  | some o => cases o <;> simp [finP]
@[simp] theorem fin_d {b : Nat} {x : D} : fin b (.d x) M = some (.d x, M.take b) := rfl
@[simp] theorem fin_r {b : Nat} {x : List D} : fin b (.r x) M = some (.r x, M.take b) := rfl
end
/-! ### what is walked -/
section
variable {ρ : DEnv} {M : DSt} {P : List D × List Nat × DSt → Prop}
@[simp ↓] theorem ok_iS {a : DE} : Ok (iS a ρ M) P ↔ Ok (a ρ M) fun p => Ok (sv p.2 p.1) fun xs => P (xs, cellsOf p.1, p.2) := by
  unfold iS
  cases a ρ M with
  | none => simp
  | some p =>
    obtain ⟨x, M1⟩ := p
    simp only [ok_some]
    cases x with
    | c n => simp only [sv]; cases lv M1 (.c n) <;> simp
    | r n => simp [sv, lv]
    | o _ _ _ => simp [sv, lv]
    | d x => cases x <;> simp [sv, lv, cellsOf]
/-- ranges, pairs, of known arguments -/
noncomputable def wR1 (vs : List Dv) (M : DSt) : Option (List D × List Nat × DSt) := match vs with
  | [.d (.int j)] => grd (-(2 ^ 62) ≤ j ∧ j < 2 ^ 62) (some (rng 0 j.toNat, [], M))
  | _ => none
noncomputable def wR2 (vs : List Dv) (M : DSt) : Option (List D × List Nat × DSt) := match vs with
  | [.d (.int i), .d (.int j)] => grd (-(2 ^ 62) ≤ i ∧ i < 2 ^ 62 ∧ -(2 ^ 62) ≤ j ∧ j < 2 ^ 62) (some (rng i (j - i).toNat, [], M))
  | _ => none
@[simp ↓] theorem ok_iR1 {a : DA} : Ok (iR1 a ρ M) P ↔ Ok (a ρ M) fun p => Ok (wR1 p.1 p.2) P := by
  unfold iR1 wR1
  cases a ρ M with
  | none => simp
  | some p =>
    obtain ⟨x, M1⟩ := p
    simp only [ok_some]
    split
    · rename_i j M2 e
      cases e
      exact Iff.rfl
    · rename_i h
      split
      · rename_i j
        exact absurd rfl (h j M1)
      · exact Iff.rfl
@[simp ↓] theorem ok_iR2 {a : DA} : Ok (iR2 a ρ M) P ↔ Ok (a ρ M) fun p => Ok (wR2 p.1 p.2) P := by
  unfold iR2 wR2
  cases a ρ M with
  | none => simp
  | some p =>
    obtain ⟨x, M1⟩ := p
    simp only [ok_some]
    split
    · rename_i i j M2 e
      cases e
      exact Iff.rfl
    · rename_i h
      split
      · rename_i i j
        exact absurd rfl (h i j M1)
      · exact Iff.rfl
@[simp ↓] theorem ok_wR1 {j : Int} : Ok (wR1 [.d (.int j)] M) P ↔ (-(2 ^ 62) ≤ j ∧ j < 2 ^ 62) ∧ P (rng 0 j.toNat, [], M) := by simp only [wR1, ok_grd, ok_some]
@[simp ↓] theorem ok_wR2 {i j : Int} : Ok (wR2 [.d (.int i), .d (.int j)] M) P ↔ (-(2 ^ 62) ≤ i ∧ i < 2 ^ 62 ∧ -(2 ^ 62) ≤ j ∧ j < 2 ^ 62) ∧ P (rng i (j - i).toNat, [], M) := by simp only [wR2, ok_grd, ok_some]
def wEn (vs : List Dv) (M : DSt) : Option (List D × List Nat × DSt) := match vs with
  | [x] => match lv M x with
    | some xs => some (enumD 0 xs, cellsOf x, M)
    | none => none
  | _ => none
def wZ (vs : List Dv) (M : DSt) : Option (List D × List Nat × DSt) := match vs with
  | [x, y] => match lv M x, lv M y with
    | some xs, some ys => some (zipD xs ys, cellsOf x ++ cellsOf y, M)
    | _, _ => none
  | _ => none
@[simp ↓] theorem ok_iEn {a : DA} : Ok (iEn a ρ M) P ↔ Ok (a ρ M) fun p => Ok (wEn p.1 p.2) P := by
  unfold iEn wEn
  cases a ρ M with
  | none => simp
  | some p =>
    obtain ⟨x, M1⟩ := p
    simp only [ok_some]
    split
    · rename_i y M2 e
      cases e
      exact Iff.rfl
    · rename_i h
      split
      · rename_i y
        exact absurd rfl (h y M1)
      · exact Iff.rfl
@[simp ↓] theorem ok_iZ {a : DA} : Ok (iZ a ρ M) P ↔ Ok (a ρ M) fun p => Ok (wZ p.1 p.2) P := by
  unfold iZ wZ
  cases a ρ M with
  | none => simp
  | some p =>
    obtain ⟨x, M1⟩ := p
    simp only [ok_some]
    split
    · rename_i y z M2 e
      cases e
      exact Iff.rfl
    · rename_i h
      split
      · rename_i y z
        exact absurd rfl (h y z M1)
      · exact Iff.rfl
@[simp ↓] theorem ok_wEn {x : Dv} : Ok (wEn [x] M) P ↔ Ok (lv M x) fun xs => P (enumD 0 xs, cellsOf x, M) := by
  unfold wEn
  cases e : lv M x <;> simp [e]
@[simp ↓] theorem ok_wZ {x y : Dv} : Ok (wZ [x, y] M) P ↔ Ok (lv M x) fun xs => Ok (lv M y) fun ys => P (zipD xs ys, cellsOf x ++ cellsOf y, M) := by
  unfold wZ
  cases e : lv M x <;> cases e' : lv M y <;> simp [e, e']
end
/-! ### operators on known values -/
section
variable {M : DSt} {i j : Int} {c : Bool}
@[simp] theorem oAdd_i : oAdd c (.d (.int i)) (.d (.int j)) M = some (.d (.int (i + j)), M) := rfl
@[simp] theorem oSub_i : oSub (.d (.int i)) (.d (.int j)) M = some (.d (.int (i - j)), M) := rfl
@[simp] theorem oI_i {f : Int → Int → D} : oI f (.d (.int i)) (.d (.int j)) M = some (.d (f i j), M) := rfl
@[simp] theorem oMulU_i : oMulU c (.d (.int i)) (.d (.int j)) M = grd (mulOk i j) (some (.d (.int (i * j)), M)) := rfl
@[simp] theorem oDiv_i : oDiv (.d (.int i)) (.d (.int j)) M = grd (divOk j) (some (.d (.int (i.fdiv j)), M)) := rfl
@[simp] theorem oMod_i : oMod (.d (.int i)) (.d (.int j)) M = grd (j ≠ 0) (some (.d (.int (i.fmod j)), M)) := rfl
@[simp] theorem oPow_i : oPow (.d (.int i)) (.d (.int j)) M = grd (powOk i j) (some (.d (.int (i ^ j.toNat)), M)) := rfl
@[simp] theorem oLt_i : oLt (.d (.int i)) (.d (.int j)) M = some (.d (.bl (decide (i < j))), M) := rfl
@[simp] theorem oLe_i : oLe (.d (.int i)) (.d (.int j)) M = some (.d (.bl (decide (i ≤ j))), M) := rfl
@[simp] theorem oGt_i : oGt (.d (.int i)) (.d (.int j)) M = some (.d (.bl (decide (j < i))), M) := rfl
@[simp] theorem oGe_i : oGe (.d (.int i)) (.d (.int j)) M = some (.d (.bl (decide (j ≤ i))), M) := rfl
@[simp] theorem oNeg_i : oNeg (.d (.int i)) M = some (.d (.int (-i)), M) := rfl
@[simp] theorem oAbs_i : oAbs [.d (.int i)] M = some (.d (.int (if i < 0 then -i else i)), M) := rfl
@[simp] theorem oMax2_i : oMax2 [.d (.int i), .d (.int j)] M = some (.d (.int (if j > i then j else i)), M) := rfl
@[simp] theorem oMin2_i : oMin2 [.d (.int i), .d (.int j)] M = some (.d (.int (if j < i then j else i)), M) := rfl
@[simp] theorem oInt_i : oInt [.d (.int i)] M = some (.d (.int i), M) := rfl
@[simp] theorem oInt_b {b : Bool} : oInt [.d (.bl b)] M = some (.d (.int (if b then 1 else 0)), M) := rfl
@[simp] theorem oEq_i : oEq (.d (.int i)) (.d (.int j)) M = some (.d (.bl (i == j)), M) := by simp [oEq, dv, D.shp, D.eqv, grd_ok]
@[simp] theorem oNe_i : oNe (.d (.int i)) (.d (.int j)) M = some (.d (.bl (!(i == j))), M) := by simp [oNe, dv, D.shp, D.eqv, grd_ok]
@[simp] theorem oIsN_d {x : D} : oIsN (.d x) M = some (.d (.bl (isNon (.d x))), M) := rfl
@[simp] theorem oNotN_d {x : D} : oNotN (.d x) M = some (.d (.bl (!isNon (.d x))), M) := rfl
@[simp] theorem isNon_non : isNon (.d .non) = true := rfl
@[simp] theorem isNon_int : isNon (.d (.int i)) = false := rfl
@[simp] theorem isNon_tup {xs : List D} : isNon (.d (.tup xs)) = false := rfl
@[simp] theorem isNon_lst {xs : List D} : isNon (.d (.lst xs)) = false := rfl
@[simp] theorem lv_lst {xs : List D} : lv M (.d (.lst xs)) = some xs := rfl
@[simp] theorem lv_r {xs : List D} : lv M (.r xs) = some xs := rfl
@[simp] theorem lv_c {n : Nat} : lv M (.c n) = (M[n]?).join := rfl
@[simp] theorem lw_lst {xs : List D} : lw M (.d (.lst xs)) = some xs := rfl
@[simp] theorem lw_c {n : Nat} : lw M (.c n) = (M[n]?).join := rfl
@[simp] theorem sv_lst {xs : List D} : sv M (.d (.lst xs)) = some xs := rfl
@[simp] theorem sv_tup {xs : List D} : sv M (.d (.tup xs)) = some xs := rfl
@[simp] theorem sv_r {xs : List D} : sv M (.r xs) = some xs := rfl
@[simp] theorem sv_c {n : Nat} : sv M (.c n) = (M[n]?).join := rfl
@[simp] theorem cellsOf_d {x : D} : cellsOf (.d x) = [] := rfl
@[simp] theorem cellsOf_r {x : List D} : cellsOf (.r x) = [] := rfl
@[simp] theorem cellsOf_c {n : Nat} : cellsOf (.c n) = [n] := rfl
@[simp] theorem stand_nil {M' : DSt} : stand [] M M' ↔ True := by simp [stand]
@[simp] theorem allD_nil : allD [] = some [] := rfl
@[simp] theorem allD_cons {x : D} {r : List Dv} : allD (.d x :: r) = (allD r).map (x :: ·) := rfl
@[simp] theorem mkL_f {xs : List D} : mkL false xs M = some (.d (.lst xs), M) := rfl
@[simp] theorem mkL_t {xs : List D} : mkL true xs M = some (.c M.length, M ++ [some xs]) := rfl
@[simp] theorem setC_eq {n : Nat} {xs : List D} : setC M n xs = M.set n (some xs) := rfl
@[simp] theorem take_set_len {n : Nat} {x : Option (List D)} : (List.set M n x).take (List.length M) = M.set n x := by rw [List.take_of_length_le]; simp
@[simp ↓] theorem ok_allD0 {P : List D → Prop} : Ok (allD []) P ↔ P [] := by simp
@[simp ↓] theorem ok_allDC {x : D} {r : List Dv} {P : List D → Prop} : Ok (allD (.d x :: r)) P ↔ Ok (allD r) fun xs => P (x :: xs) := by
  rw [allD_cons]
  cases allD r <;> simp
@[simp] theorem fin_new {xs : List D} : fin (List.length M) (.c (List.length M)) (M ++ [some xs]) = some (.c (List.length M), M ++ [some xs]) := by simp [fin]
theorem rng_at {a : Int} {n i : Nat} {x : D} : (rng a n)[i]? = some x ↔ i < n ∧ x = .int (a + (i : Int)) := by
  unfold rng
  rw [List.getElem?_map]
  by_cases h : i < n
  · rw [List.getElem?_range h]
    simp [h, eq_comm]
  · rw [List.getElem?_eq_none (by simpa using h)]
    simp [h]
@[simp] theorem rng_len {a : Int} {n : Nat} : (rng a n).length = n := by simp [rng]
@[simp] theorem big_eq : big = 1000000 := rfl
@[simp] theorem oAdd_l {xs ys : List D} : oAdd c (.d (.lst xs)) (.d (.lst ys)) M = grd (xs.length + ys.length ≤ big) (mkL c (xs ++ ys) M) := rfl
@[simp] theorem slU_l {xs : List D} {l h : Option Int} : slU c (.d (.lst xs)) l h M = mkL c (cutD xs l h) M := rfl
@[simp] theorem slU_r {xs : List D} {l h : Option Int} : slU c (.r xs) l h M = mkL c (cutD xs l h) M := rfl
@[simp] theorem slU_t {xs : List D} {l h : Option Int} : slU c (.d (.tup xs)) l h M = some (.d (.tup (cutD xs l h)), M) := rfl
theorem cutD_mem {xs : List D} {l h : Option Int} {x : D} (hx : x ∈ cutD xs l h) : x ∈ xs := List.mem_of_mem_drop (List.mem_of_mem_take hx)
theorem cutD_len {xs : List D} {l h : Option Int} : (cutD xs l h).length ≤ xs.length := by
  unfold cutD
  rw [List.length_take, List.length_drop]
  exact Nat.le_trans (Nat.min_le_right _ _) (Nat.sub_le _ _)
theorem oIsi_d {T : String} {x : D} (h : ∀ n, x ≠ .ty n) : oIsi T [.d x, .d (.ty T)] M = some (.d (.bl (subTy x.tyN T)), M) := by
  unfold oIsi
  cases x <;> first | (simp [dv]; done) | exact absurd rfl (h _)
@[simp] theorem oIsi_bl {T : String} {b : Bool} : oIsi T [.d (.bl b), .d (.ty T)] M = some (.d (.bl (subTy "bool" T)), M) := oIsi_d (fun _ h => nomatch h)
@[simp] theorem oIsi_int {T : String} {b : Int} : oIsi T [.d (.int b), .d (.ty T)] M = some (.d (.bl (subTy "int" T)), M) := oIsi_d (fun _ h => nomatch h)
@[simp] theorem oIsi_tup {T : String} {b : List D} : oIsi T [.d (.tup b), .d (.ty T)] M = some (.d (.bl (subTy "tuple" T)), M) := oIsi_d (fun _ h => nomatch h)
@[simp] theorem oIsi_lst {T : String} {b : List D} : oIsi T [.d (.lst b), .d (.ty T)] M = some (.d (.bl (subTy "list" T)), M) := oIsi_d (fun _ h => nomatch h)
@[simp ↓] theorem ok_fin_d {b : Nat} {x : D} {P : Dv × DSt → Prop} : Ok (fin b (.d x) M) P ↔ P (.d x, M.take b) := by rw [fin_d] <;> simp
@[simp ↓] theorem ok_fin_r {b : Nat} {x : List D} {P : Dv × DSt → Prop} : Ok (fin b (.r x) M) P ↔ P (.r x, M.take b) := by rw [fin_r] <;> simp
@[simp ↓] theorem ok_oAdd_i {P : Dv × DSt → Prop} : Ok (oAdd c (.d (.int i)) (.d (.int j)) M) P ↔ P (.d (.int (i + j)), M) := by rw [oAdd_i] <;> simp
@[simp ↓] theorem ok_oSub_i {P : Dv × DSt → Prop} : Ok (oSub (.d (.int i)) (.d (.int j)) M) P ↔ P (.d (.int (i - j)), M) := by rw [oSub_i] <;> simp
@[simp ↓] theorem ok_oI_i {f : Int → Int → D} {P : Dv × DSt → Prop} : Ok (oI f (.d (.int i)) (.d (.int j)) M) P ↔ P (.d (f i j), M) := by rw [oI_i] <;> simp
@[simp ↓] theorem ok_oMulU_i {P : Dv × DSt → Prop} : Ok (oMulU c (.d (.int i)) (.d (.int j)) M) P ↔ (mulOk i j) ∧ P (.d (.int (i * j)), M) := by rw [oMulU_i] <;> simp
@[simp ↓] theorem ok_oDiv_i {P : Dv × DSt → Prop} : Ok (oDiv (.d (.int i)) (.d (.int j)) M) P ↔ (divOk j) ∧ P (.d (.int (i.fdiv j)), M) := by rw [oDiv_i] <;> simp
@[simp ↓] theorem ok_oMod_i {P : Dv × DSt → Prop} : Ok (oMod (.d (.int i)) (.d (.int j)) M) P ↔ (j ≠ 0) ∧ P (.d (.int (i.fmod j)), M) := by rw [oMod_i] <;> simp
@[simp ↓] theorem ok_oPow_i {P : Dv × DSt → Prop} : Ok (oPow (.d (.int i)) (.d (.int j)) M) P ↔ (powOk i j) ∧ P (.d (.int (i ^ j.toNat)), M) := by rw [oPow_i] <;> simp
@[simp ↓] theorem ok_oLt_i {P : Dv × DSt → Prop} : Ok (oLt (.d (.int i)) (.d (.int j)) M) P ↔ P (.d (.bl (decide (i < j))), M) := by rw [oLt_i] <;> simp
@[simp ↓] theorem ok_oLe_i {P : Dv × DSt → Prop} : Ok (oLe (.d (.int i)) (.d (.int j)) M) P ↔ P (.d (.bl (decide (i ≤ j))), M) := by rw [oLe_i] <;> simp
@[simp ↓] theorem ok_oGt_i {P : Dv × DSt → Prop} : Ok (oGt (.d (.int i)) (.d (.int j)) M) P ↔ P (.d (.bl (decide (j < i))), M) := by rw [oGt_i] <;> simp
@[simp ↓] theorem ok_oGe_i {P : Dv × DSt → Prop} : Ok (oGe (.d (.int i)) (.d (.int j)) M) P ↔ P (.d (.bl (decide (j ≤ i))), M) := by rw [oGe_i] <;> simp
@[simp ↓] theorem ok_oNeg_i {P : Dv × DSt → Prop} : Ok (oNeg (.d (.int i)) M) P ↔ P (.d (.int (-i)), M) := by rw [oNeg_i] <;> simp
@[simp ↓] theorem ok_oAbs_i {P : Dv × DSt → Prop} : Ok (oAbs [.d (.int i)] M) P ↔ P (.d (.int (if i < 0 then -i else i)), M) := by rw [oAbs_i] <;> simp
@[simp ↓] theorem ok_oMax2_i {P : Dv × DSt → Prop} : Ok (oMax2 [.d (.int i), .d (.int j)] M) P ↔ P (.d (.int (if j > i then j else i)), M) := by rw [oMax2_i] <;> simp
@[simp ↓] theorem ok_oMin2_i {P : Dv × DSt → Prop} : Ok (oMin2 [.d (.int i), .d (.int j)] M) P ↔ P (.d (.int (if j < i then j else i)), M) := by rw [oMin2_i] <;> simp
@[simp ↓] theorem ok_oInt_i {P : Dv × DSt → Prop} : Ok (oInt [.d (.int i)] M) P ↔ P (.d (.int i), M) := by rw [oInt_i] <;> simp
@[simp ↓] theorem ok_oInt_b {b : Bool} {P : Dv × DSt → Prop} : Ok (oInt [.d (.bl b)] M) P ↔ P (.d (.int (if b then 1 else 0)), M) := by rw [oInt_b] <;> simp
@[simp ↓] theorem ok_oEq_i {P : Dv × DSt → Prop} : Ok (oEq (.d (.int i)) (.d (.int j)) M) P ↔ P (.d (.bl (i == j)), M) := by rw [oEq_i] <;> simp
@[simp ↓] theorem ok_oNe_i {P : Dv × DSt → Prop} : Ok (oNe (.d (.int i)) (.d (.int j)) M) P ↔ P (.d (.bl (!(i == j))), M) := by rw [oNe_i] <;> simp
@[simp ↓] theorem ok_oIsN_d {x : D} {P : Dv × DSt → Prop} : Ok (oIsN (.d x) M) P ↔ P (.d (.bl (isNon (.d x))), M) := by rw [oIsN_d] <;> simp
@[simp ↓] theorem ok_oNotN_d {x : D} {P : Dv × DSt → Prop} : Ok (oNotN (.d x) M) P ↔ P (.d (.bl (!isNon (.d x))), M) := by rw [oNotN_d] <;> simp
@[simp ↓] theorem ok_lv_lst {xs : List D} {P : List D → Prop} : Ok (lv M (.d (.lst xs))) P ↔ P xs := by rw [lv_lst] <;> simp
@[simp ↓] theorem ok_lv_r {xs : List D} {P : List D → Prop} : Ok (lv M (.r xs)) P ↔ P xs := by rw [lv_r] <;> simp
@[simp ↓] theorem ok_lw_lst {xs : List D} {P : List D → Prop} : Ok (lw M (.d (.lst xs))) P ↔ P xs := by rw [lw_lst] <;> simp
@[simp ↓] theorem ok_sv_lst {xs : List D} {P : List D → Prop} : Ok (sv M (.d (.lst xs))) P ↔ P xs := by rw [sv_lst] <;> simp
@[simp ↓] theorem ok_sv_tup {xs : List D} {P : List D → Prop} : Ok (sv M (.d (.tup xs))) P ↔ P xs := by rw [sv_tup] <;> simp
@[simp ↓] theorem ok_sv_r {xs : List D} {P : List D → Prop} : Ok (sv M (.r xs)) P ↔ P xs := by rw [sv_r] <;> simp
@[simp ↓] theorem ok_mkL_f {xs : List D} {P : Dv × DSt → Prop} : Ok (mkL false xs M) P ↔ P (.d (.lst xs), M) := by rw [mkL_f] <;> simp
@[simp ↓] theorem ok_mkL_t {xs : List D} {P : Dv × DSt → Prop} : Ok (mkL true xs M) P ↔ P (.c M.length, M ++ [some xs]) := by rw [mkL_t] <;> simp
@[simp ↓] theorem ok_fin_new {xs : List D} {P : Dv × DSt → Prop} : Ok (fin (List.length M) (.c (List.length M)) (M ++ [some xs])) P ↔ P (.c (List.length M), M ++ [some xs]) := by rw [fin_new] <;> simp
@[simp ↓] theorem ok_oAdd_l {xs ys : List D} {P : Dv × DSt → Prop} : Ok (oAdd c (.d (.lst xs)) (.d (.lst ys)) M) P ↔ (xs.length + ys.length ≤ big) ∧ Ok (mkL c (xs ++ ys) M) P := by rw [oAdd_l] <;> simp
@[simp ↓] theorem ok_slU_t {xs : List D} {l h : Option Int} {P : Dv × DSt → Prop} : Ok (slU c (.d (.tup xs)) l h M) P ↔ P (.d (.tup (cutD xs l h)), M) := by rw [slU_t] <;> simp
@[simp ↓] theorem ok_oIsi_bl {T : String} {b : Bool} {P : Dv × DSt → Prop} : Ok (oIsi T [.d (.bl b), .d (.ty T)] M) P ↔ P (.d (.bl (subTy "bool" T)), M) := by rw [oIsi_bl] <;> simp
@[simp ↓] theorem ok_oIsi_int {T : String} {b : Int} {P : Dv × DSt → Prop} : Ok (oIsi T [.d (.int b), .d (.ty T)] M) P ↔ P (.d (.bl (subTy "int" T)), M) := by rw [oIsi_int] <;> simp
@[simp ↓] theorem ok_oIsi_tup {T : String} {b : List D} {P : Dv × DSt → Prop} : Ok (oIsi T [.d (.tup b), .d (.ty T)] M) P ↔ P (.d (.bl (subTy "tuple" T)), M) := by rw [oIsi_tup] <;> simp
@[simp ↓] theorem ok_oIsi_lst {T : String} {b : List D} {P : Dv × DSt → Prop} : Ok (oIsi T [.d (.lst b), .d (.ty T)] M) P ↔ P (.d (.bl (subTy "list" T)), M) := by rw [oIsi_lst] <;> simp
@[simp ↓] theorem ok_map {α β : Type} {o : Option α} {f : α → β} {P : β → Prop} : Ok (o.map f) P ↔ Ok o fun x => P (f x) := by cases o <;> simp
@[simp ↓] theorem ok_bind {α β : Type} {o : Option α} {f : α → Option β} {P : β → Prop} : Ok (o.bind f) P ↔ Ok o fun x => Ok (f x) P := by cases o <;> simp
theorem ok_oIxS {x : Dv} {P : Dv × DSt → Prop} {xs : List D} (h : sv M x = some xs) : Ok (oIx x (.d (.int i)) M) P ↔ Ok (atD xs i) fun z => P (.d z, M) := by
  unfold oIx atD
  simp only [h]
  cases e : ixD xs.length i with
  | none => simp
  | some k =>
    simp only
    cases e2 : xs[k]? with
    | none => simp
    | some z => simp
@[simp ↓] theorem ok_oIx_lst {P : Dv × DSt → Prop} {xs : List D} : Ok (oIx (.d (.lst xs)) (.d (.int i)) M) P ↔ Ok (atD xs i) fun z => P (.d z, M) := ok_oIxS rfl
@[simp ↓] theorem ok_oIx_tup {P : Dv × DSt → Prop} {xs : List D} : Ok (oIx (.d (.tup xs)) (.d (.int i)) M) P ↔ Ok (atD xs i) fun z => P (.d z, M) := ok_oIxS rfl
@[simp ↓] theorem ok_oIx_r {P : Dv × DSt → Prop} {xs : List D} : Ok (oIx (.r xs) (.d (.int i)) M) P ↔ Ok (atD xs i) fun z => P (.d z, M) := ok_oIxS rfl
@[simp ↓] theorem ok_oIx_c {P : Dv × DSt → Prop} {n : Nat} : Ok (oIx (.c n) (.d (.int i)) M) P ↔ Ok (cel M n) fun xs => Ok (atD xs i) fun z => P (.d z, M) := by
  unfold cel
  cases e : (M[n]?).join with
  | none => simp [oIx, sv, lv, e]
  | some xs =>
    rw [ok_oIxS (xs := xs) (by simp [e])]
    simp
@[simp] theorem ixD_0 {n : Nat} : ixD (n + 1) 0 = some 0 := by unfold ixD; rw [if_pos (by omega), if_pos (by omega)]; rfl
@[simp] theorem ixD_1 {n : Nat} : ixD (n + 2) 1 = some 1 := by unfold ixD; rw [if_pos (by omega), if_pos (by omega)]; rfl
@[simp] theorem ixD_2 {n : Nat} : ixD (n + 3) 2 = some 2 := by unfold ixD; rw [if_pos (by omega), if_pos (by omega)]; rfl
@[simp] theorem ixD_3 {n : Nat} : ixD (n + 4) 3 = some 3 := by unfold ixD; rw [if_pos (by omega), if_pos (by omega)]; rfl
@[simp ↓] theorem ok_atD0 {x : D} {r : List D} {P : D → Prop} : Ok (atD (x :: r) 0) P ↔ P x := by simp [atD]
@[simp ↓] theorem ok_atD1 {x y : D} {r : List D} {P : D → Prop} : Ok (atD (x :: y :: r) 1) P ↔ P y := by simp [atD]
@[simp ↓] theorem ok_atD2 {x y z : D} {r : List D} {P : D → Prop} : Ok (atD (x :: y :: z :: r) 2) P ↔ P z := by simp [atD]
@[simp ↓] theorem ok_atD3 {x y z w : D} {r : List D} {P : D → Prop} : Ok (atD (x :: y :: z :: w :: r) 3) P ↔ P w := by simp [atD]
@[simp ↓] theorem ok_ixD0 {n : Nat} {P : Nat → Prop} : Ok (ixD (n + 1) 0) P ↔ P 0 := by simp
@[simp ↓] theorem ok_ixD1 {n : Nat} {P : Nat → Prop} : Ok (ixD (n + 2) 1) P ↔ P 1 := by simp
theorem ok_ixDL {xs : List D} {k : Int} {P : Nat → Prop} (h0 : 0 ≤ k) (h1 : k < xs.length) : Ok (ixD xs.length k) P ↔ P k.toNat := by
  have : ixD xs.length k = some k.toNat := by unfold ixD; rw [if_pos h0, if_pos h1]
  simp [this]
@[simp ↓] theorem ok_ixDL0 {x : D} {xs : List D} {P : Nat → Prop} : Ok (ixD (x :: xs).length 0) P ↔ P 0 := by simp
@[simp ↓] theorem ok_ixDL1 {x y : D} {xs : List D} {P : Nat → Prop} : Ok (ixD (x :: y :: xs).length 1) P ↔ P 1 := by simp
theorem ixD_of {n : Nat} {i : Int} (h0 : 0 ≤ i) (h1 : i < n) : ixD n i = some i.toNat := by unfold ixD; rw [if_pos h0, if_pos h1]
theorem ixD_nat {n k : Nat} (h1 : k < n) : ixD n (k : Int) = some k := by rw [ixD_of (by omega) (by omega)]; rfl
end
theorem ok_forN {α : Type} {chk : DSt → Prop} {step : α → DEnv → DSt → Option Out} {ρ : DEnv} {M : DSt} {P : Out → Prop} : Ok (forL chk step [] ρ M) P ↔ chk M ∧ P (.nx ρ M) := by simp [forL]
theorem ok_forC {α : Type} {chk : DSt → Prop} {step : α → DEnv → DSt → Option Out} {x : α} {xs : List α} {ρ : DEnv} {M : DSt} {P : Out → Prop} : Ok (forL chk step (x :: xs) ρ M) P ↔ chk M ∧ Ok (step x ρ M) (turnP (fun ρ M => Ok (forL chk step xs ρ M) P) P) := by
  simp only [forL, ok_grd]
  refine and_congr_right fun _ => ?_
  cases h : step x ρ M with
  | none => simp
  | some o => cases o <;> simp
/-- a step that passes: the rest goes on from the same state -/
theorem if_pass {s t : DS} {ρ : DEnv} {M : DSt} {P : Out → Prop} (h : Ok (s ρ M) fun o => o = .nx ρ M) (k : Ok (t ρ M) P) : Ok (dSeq s t ρ M) P := by
  rw [ok_seq]
  exact h.mono fun o e => by subst e; exact k
theorem if_last {s : DS} {ρ : DEnv} {M : DSt} {P : Out → Prop} (h : Ok (s ρ M) fun o => o = .nx ρ M) (k : P (.nx ρ M)) : Ok (s ρ M) P := h.mono fun o e => by subst e; exact k
/-- a step, then the rest -/
theorem seq_by {s t : DS} {ρ : DEnv} {M : DSt} {P : Out → Prop} (Q : Out → Prop) (h : Ok (s ρ M) Q) (k : ∀ o, Q o → seqP t P o) : Ok (dSeq s t ρ M) P := by
  rw [ok_seq]
  exact h.mono k
end Rw
end PRwOk
section PRwMath
set_option autoImplicit false
set_option linter.all false
set_option maxRecDepth 100000
/-! RwMath: bounds, sizes, the greatest divisor. -/
namespace Rw
/-- x lies within A -/
def bd (A x : Int) : Prop := -A ≤ x ∧ x ≤ A
theorem bd_mono {A B x : Int} (h : bd A x) (l : A ≤ B) : bd B x := ⟨by have := h.1; omega, by have := h.2; omega⟩
theorem bd_add {A B C x y : Int} (hx : bd A x) (hy : bd B y) (l : A + B ≤ C) : bd C (x + y) := ⟨by have := hx.1; have := hy.1; omega, by have := hx.2; have := hy.2; omega⟩
theorem bd_sub {A B C x y : Int} (hx : bd A x) (hy : bd B y) (l : A + B ≤ C) : bd C (x - y) := ⟨by have := hx.1; have := hy.2; omega, by have := hx.2; have := hy.1; omega⟩
theorem bd_neg {A x : Int} (hx : bd A x) : bd A (-x) := ⟨by have := hx.2; omega, by have := hx.1; omega⟩
theorem bd_natAbs {A x : Int} (h : bd A x) : (x.natAbs : Int) ≤ A := by have := h.1; have := h.2; omega
theorem bd_of_natAbs {A x : Int} (h : (x.natAbs : Int) ≤ A) : bd A x := ⟨by omega, by omega⟩
theorem bd_nonneg {A x : Int} (h : bd A x) : 0 ≤ A := by have := h.1; have := h.2; omega
theorem bd_mul {A B C x y : Int} (hx : bd A x) (hy : bd B y) (l : A * B ≤ C) : bd C (x * y) := by
  refine bd_of_natAbs (Int.le_trans ?_ l)
  rw [Int.natAbs_mul, Int.natCast_mul]
  exact Int.mul_le_mul (bd_natAbs hx) (bd_natAbs hy) (by omega) (bd_nonneg hx)
theorem bd_fdiv {A x y : Int} (hx : bd A x) : bd A (x.fdiv y) := by
  refine bd_of_natAbs (Int.le_trans ?_ (bd_natAbs hx))
  have := Int.natAbs_fdiv_le_natAbs x y
  omega
theorem log2_lt {n k : Nat} (h : n < 2 ^ k) (hk : 0 < k) : n.log2 < k := by
  by_cases h0 : n = 0
  · subst h0
    simp
    exact hk
  · exact (Nat.log2_lt h0).mpr h
theorem natAbs_lt {A x : Int} {k : Nat} (h : bd A x) (l : A < 2 ^ k) : x.natAbs < 2 ^ k := by
  have h1 := bd_natAbs h
  have h2 : (x.natAbs : Int) < 2 ^ k := by omega
  have h3 : ((2 : Int) ^ k) = ((2 ^ k : Nat) : Int) := by simp
  rw [h3] at h2
  exact_mod_cast h2
theorem iLn_of {A x : Int} (k : Nat) (h : bd A x) (l : A < 2 ^ k) (h0 : 0 < k) (hk : k ≤ 4000000) : iLn x := Nat.lt_of_lt_of_le (log2_lt (natAbs_lt h l) h0) hk
theorem mulOk_bd {A B x y : Int} (k : Nat) (hx : bd A x) (hy : bd B y) (la : A < 2 ^ k) (lb : B < 2 ^ k) (h0 : 0 < k) (hk : k ≤ 4000000) : mulOk x y := .inr (.inr ⟨iLn_of k hx la h0 hk, iLn_of k hy lb h0 hk⟩)
theorem mulOk_l {x y : Int} (h : -(2 ^ 64) < x) (h' : x < 2 ^ 64) : mulOk x y := .inl ⟨h, h'⟩
theorem mulOk_r {x y : Int} (h : -(2 ^ 64) < y) (h' : y < 2 ^ 64) : mulOk x y := .inr (.inl ⟨h, h'⟩)
theorem divOk_bd {A x : Int} (k : Nat) (h : bd A x) (hx : x ≠ 0) (l : A < 2 ^ k) (h0 : 0 < k) (hk : k ≤ 9000) : divOk x := ⟨hx, Nat.lt_of_lt_of_le (log2_lt (natAbs_lt h l) h0) hk⟩
theorem fmod_nn (x : Int) {m : Int} (h : 0 < m) : 0 ≤ x.fmod m := Int.fmod_nonneg_of_pos x h
theorem fmod_lt (x : Int) {m : Int} (h : 0 < m) : x.fmod m < m := Int.fmod_lt_of_pos x h
/-- an item at a drawn place: what all items have -/
theorem pick {xs : List D} {s : Int} {P : D → Prop} (h0 : 0 ≤ s) (h1 : s < xs.length) (h : ∀ z ∈ xs, P z) : Ok (atD xs s) P := by
  have hk : s.toNat < xs.length := by omega
  unfold atD
  rw [ixD_of h0 h1]
  simp only [List.getElem?_eq_getElem hk, ok_some]
  exact h _ (List.getElem_mem hk)
/-- a call whose answer is known -/
theorem okE {α : Type} {o : Option α} {x : α} (h : o = some x) (P : α → Prop) : Ok o P ↔ P x := by rw [h, ok_some]
/-! ### while b > 0: a, b = b, a % b -/
noncomputable def gcdLoop (i j : Nat) : DS := dWhile (tVal (e2 oGt (eVar j) (eC (.int 0)))) (dPar i j (eVar j) (e2 oMod (eVar i) (eVar j)))
theorem set_set2 {α : Type} (l : List α) {i j : Nat} (h : i ≠ j) (a b c d : α) : ((((l.set i a).set j b).set i c).set j d) = ((l.set i c).set j d) := by
  rw [List.set_comm a b h, List.set_set, List.set_comm b c (Ne.symm h), List.set_set]
theorem gcd_while {i j : Nat} (hij : i ≠ j) {M : DSt} : ∀ (n : Nat) {ρ : DEnv} {a b : Int}, b.toNat = n → 0 ≤ a → 0 ≤ b → i < ρ.length → j < ρ.length → ρ[i]? = some (some (.d (.int a))) → ρ[j]? = some (some (.d (.int b))) →
    gcdLoop i j ρ M = some (.nx ((ρ.set i (some (.d (.int (Int.gcd a b))))).set j (some (.d (.int 0)))) M) := by
  intro n
  induction n using Nat.strongRecOn with
  | _ n ih =>
    intro ρ a b hn ha hb hi hj ei ej
    unfold gcdLoop
    rw [dWhile_eq]
    by_cases h0 : 0 < b
    · have e1 : tVal (e2 oGt (eVar j) (eC (.int 0))) ρ M = some (true, M) := by simp [tVal, e2, eVar, eC, ej, h0]
      have e2 : dPar i j (eVar j) (Rw.e2 oMod (eVar i) (eVar j)) ρ M = some (.nx ((ρ.set i (some (.d (.int b)))).set j (some (.d (.int (a.fmod b))))) M) := by
        have hb0 : b ≠ 0 := by omega
        simp [dPar, Rw.e2, eVar, ej, ei, oMod_i, grd_ok hb0]
      simp only [e1, e2]
      have hlt : (a.fmod b).toNat < n := by
        have := fmod_lt a h0
        have := fmod_nn a h0
        omega
      have r := ih _ hlt (ρ := (ρ.set i (some (.d (.int b)))).set j (some (.d (.int (a.fmod b))))) (a := b) (b := a.fmod b) rfl hb (fmod_nn a h0) (by simpa using hi) (by simpa using hj)
        (by rw [List.getElem?_set_ne (Ne.symm hij), List.getElem?_set_self hi]) (by rw [List.getElem?_set_self (by simpa using hj)])
      unfold gcdLoop at r
      rw [r, set_set2 _ hij]
      have g : Int.gcd b (a.fmod b) = Int.gcd a b := by
        rw [Int.fmod_eq_emod_of_nonneg a hb]
        obtain ⟨x, rfl⟩ := Int.eq_ofNat_of_zero_le ha
        obtain ⟨y, rfl⟩ := Int.eq_ofNat_of_zero_le hb
        rw [← Int.natCast_emod, Int.gcd_natCast_natCast, Int.gcd_natCast_natCast, Nat.gcd_comm x y, Nat.gcd_rec y x, Nat.gcd_comm]
      rw [g]
    · have hb0 : b = 0 := by omega
      subst hb0
      have e1 : tVal (e2 oGt (eVar j) (eC (.int 0))) ρ M = some (false, M) := by simp [tVal, e2, eVar, eC, ej]
      simp only [e1]
      have g : ((Int.gcd a 0 : Nat) : Int) = a := by
        rw [Int.gcd_zero_right]
        omega
      rw [g]
      congr 2
      apply List.ext_getElem?
      intro k
      by_cases hk : j = k
      · subst hk
        rw [List.getElem?_set_self (by simpa using hj), ej]
      · rw [List.getElem?_set_ne hk]
        by_cases hk2 : i = k
        · subst hk2
          rw [List.getElem?_set_self hi, ei]
        · rw [List.getElem?_set_ne hk2]
theorem gcd_abs (t b : Int) : Int.gcd (if t < 0 then -t else t) (if b < 0 then -b else b) = Int.gcd t b := by
  split <;> split <;> simp [Int.gcd_neg, Int.neg_gcd]
theorem abs_nn (t : Int) : 0 ≤ (if t < 0 then -t else t) := by split <;> omega
theorem fdiv_ne {b g : Int} (h : b ≠ 0) (hd : g ∣ b) : b.fdiv g ≠ 0 := by
  obtain ⟨c, rfl⟩ := hd
  by_cases hg : g = 0
  · subst hg; simp at h
  · rw [Int.mul_fdiv_cancel_left _ hg]
    intro z
    subst z
    simp at h
theorem gcd_pos {t b : Int} (h : b ≠ 0) : (0 : Int) < (Int.gcd t b : Int) := by
  have := Int.gcd_pos_of_ne_zero_right t h
  omega
theorem gcd_bd {t b A : Int} (h : b ≠ 0) (hb : bd A b) : bd A (Int.gcd t b : Int) := by
  have h1 := Int.gcd_le_natAbs_right t h
  have h2 := bd_natAbs hb
  exact ⟨by omega, by omega⟩
theorem gcd_dvd_r (t b : Int) : (Int.gcd t b : Int) ∣ b := Int.gcd_dvd_right ..
theorem gcd_dvd_l (t b : Int) : (Int.gcd t b : Int) ∣ t := Int.gcd_dvd_left ..
/-! ### bounds by figures -/
def Bn (k : Nat) (x : Int) : Prop := bd (10 ^ k) x
theorem Bn.of {k : Nat} {x : Int} (h : bd (10 ^ k) x) : Bn k x := h
theorem Bn.mono {j k : Nat} {x : Int} (h : Bn j x) (l : j ≤ k) : Bn k x := bd_mono h (by
  have : (10 : Nat) ^ j ≤ 10 ^ k := Nat.pow_le_pow_right (by decide) l
  exact_mod_cast this)
theorem Bn.mul {j k : Nat} {x y : Int} (hx : Bn j x) (hy : Bn k y) : Bn (j + k) (x * y) := bd_mul hx hy (by rw [Int.pow_add]; exact Int.le_refl _)
theorem ten_succ (k : Nat) : (10 : Int) ^ (k + 1) = 10 ^ k * 10 := Int.pow_succ ..
theorem ten_pos (k : Nat) : (0 : Int) < 10 ^ k := Int.pow_pos (by decide)
theorem Bn.add {k : Nat} {x y : Int} (hx : Bn k x) (hy : Bn k y) : Bn (k + 1) (x + y) := bd_add hx hy (by rw [ten_succ]; have := ten_pos k; omega)
theorem Bn.sub {k : Nat} {x y : Int} (hx : Bn k x) (hy : Bn k y) : Bn (k + 1) (x - y) := bd_sub hx hy (by rw [ten_succ]; have := ten_pos k; omega)
theorem Bn.neg {k : Nat} {x : Int} (hx : Bn k x) : Bn k (-x) := bd_neg hx
theorem Bn.ok {j k : Nat} {x y : Int} (hx : Bn j x) (hy : Bn k y) (hj : j ≤ 100000) (hk : k ≤ 100000) : mulOk x y := by
  have up : ∀ {m : Nat} {z : Int}, Bn m z → m ≤ 100000 → iLn z := fun {m z} h hm => by
    unfold iLn
    have h1 : z.natAbs < 2 ^ (4 * m + 1) := by
      have a := bd_natAbs h
      have b : (10 : Nat) ^ m ≤ 2 ^ (4 * m) := by
        rw [Nat.pow_mul]
        exact Nat.pow_le_pow_left (by decide) m
      have c : (z.natAbs : Int) ≤ ((10 ^ m : Nat) : Int) := by simpa using a
      have d : z.natAbs ≤ 10 ^ m := by exact_mod_cast c
      have e : 2 ^ (4 * m + 1) = 2 ^ (4 * m) * 2 := Nat.pow_succ ..
      have f : 0 < 2 ^ (4 * m) := Nat.two_pow_pos _
      omega
    have := log2_lt h1 (by omega)
    omega
  exact .inr (.inr ⟨up hx hj, up hy hk⟩)
theorem Bn.div {k : Nat} {x : Int} (h : Bn k x) (h0 : x ≠ 0) (hk : k ≤ 2000) : divOk x := by
  refine ⟨h0, ?_⟩
  have h1 : x.natAbs < 2 ^ (4 * k + 1) := by
    have a := bd_natAbs h
    have b : (10 : Nat) ^ k ≤ 2 ^ (4 * k) := by
      rw [Nat.pow_mul]
      exact Nat.pow_le_pow_left (by decide) k
    have c : (x.natAbs : Int) ≤ ((10 ^ k : Nat) : Int) := by simpa using a
    have d : x.natAbs ≤ 10 ^ k := by exact_mod_cast c
    have e : 2 ^ (4 * k + 1) = 2 ^ (4 * k) * 2 := Nat.pow_succ ..
    have f : 0 < 2 ^ (4 * k) := Nat.two_pow_pos _
    omega
  have := log2_lt h1 (by omega)
  omega
end Rw
end PRwMath
section PRwLib
set_option autoImplicit false
set_option linter.all false
set_option maxRecDepth 100000
/-! RwLib: comprehensions, sums, lists of ints. -/
namespace Rw
open PySem (Str)
section
variable {ρ : DEnv} {M : DSt}
@[simp ↓] theorem ok_comp {c : Bool} {it : DI} {tg : Tgt} {t : DT} {el : DE} {own : List Nat} {P : Dv × DSt → Prop} : Ok (eComp c it tg t el own ρ M) P ↔ Ok (it ρ M) fun p => p.1.length ≤ big ∧ Ok (compL (stand p.2.1 p.2.2) (compStep tg t el (wipeD ρ own)) p.1 p.2.2) fun q => Ok (mkL c q.1 q.2) P := by
  unfold eComp
  cases h : it ρ M with
  | none => simp
  | some p =>
    obtain ⟨xs, src, M1⟩ := p
    simp only [ok_some, ok_grd]
    refine and_congr_right fun _ => ?_
    cases h2 : compL (stand src M1) (compStep tg t el (wipeD ρ own)) xs M1 with
    | none => simp
    | some q => simp
@[simp ↓] theorem ok_compStep {tg : Tgt} {t : DT} {el : DE} {x : D} {P : Option D × DSt → Prop} : Ok (compStep tg t el ρ x M) P ↔ Ok (tg.put (.d x) ρ) fun ρ1 => Ok (t ρ1 M) fun p => if p.1 = true then Ok (el ρ1 p.2) fun q => Ok (asD q.1) fun y => P (some y, q.2) else P (none, p.2) := by
  unfold compStep
  cases h : tg.put (.d x) ρ with
  | none => simp
  | some ρ1 =>
    simp only [ok_some]
    cases h2 : t ρ1 M with
    | none => simp
    | some p =>
      obtain ⟨b, M1⟩ := p
      cases b with
      | false => simp
      | true =>
        simp only [ok_some, if_true]
        cases h3 : el ρ1 M1 with
        | none => simp
        | some q =>
          obtain ⟨v, M2⟩ := q
          cases v <;> simp [asD]
end
/-- a comprehension that changes nothing -/
theorem comp_map {α : Type} {chk : DSt → Prop} {step : D → DSt → Option (Option D × DSt)} {M : DSt} {P : List D × DSt → Prop} {f : α → D} {l : List α} (g : α → D) (hc : chk M)
    (h : ∀ a ∈ l, Ok (step (f a) M) fun p => p = (some (g a), M)) (k : P (l.map g, M)) : Ok (compL chk step (l.map f) M) P := by
  refine Ok.of (x := (l.map g, M)) ?_ k
  clear k
  induction l with
  | nil => simp [compL, grd_ok hc]
  | cons a l ih =>
    have e := ok_eq (h a (by simp))
    have r := ih fun a ha => h a (by simp [ha])
    simp [compL, grd_ok hc, e, r]
/-- .. with a test -/
theorem comp_fm {α : Type} {chk : DSt → Prop} {step : D → DSt → Option (Option D × DSt)} {M : DSt} {P : List D × DSt → Prop} {f : α → D} {l : List α} (g : α → Option D) (hc : chk M)
    (h : ∀ a ∈ l, Ok (step (f a) M) fun p => p = (g a, M)) (k : P (l.filterMap g, M)) : Ok (compL chk step (l.map f) M) P := by
  refine Ok.of (x := (l.filterMap g, M)) ?_ k
  clear k
  induction l with
  | nil => simp [compL, grd_ok hc]
  | cons a l ih =>
    have e := ok_eq (h a (by simp))
    have r := ih fun a ha => h a (by simp [ha])
    simp only [List.map_cons, compL, grd_ok hc, e, r, List.filterMap_cons]
    cases g a <;> simp
/-- a comprehension that draws: what every item has -/
theorem comp_draw {chk : DSt → Prop} {step : D → DSt → Option (Option D × DSt)} {P : List D × DSt → Prop} (I : DSt → Prop) (R : D → Prop) (hc : ∀ M, I M → chk M) : ∀ {xs : List D} {M : DSt}, I M →
    (∀ x ∈ xs, ∀ M, I M → Ok (step x M) fun p => I p.2 ∧ ∃ y, p.1 = some y ∧ R y) → (∀ ys M, I M → ys.length = xs.length → (∀ y ∈ ys, R y) → P (ys, M)) → Ok (compL chk step xs M) P := by
  intro xs
  induction xs generalizing P with
  | nil =>
    intro M hM h k
    simp only [compL, ok_grd, ok_some]
    exact ⟨hc M hM, k [] M hM rfl (by simp)⟩
  | cons x xs ih =>
    intro M hM h k
    obtain ⟨⟨o, M1⟩, e, hM1, y, rfl, hy⟩ := h x (by simp) M hM
    have r := ih (P := fun q => P (y :: q.1, q.2)) hM1 (fun z hz => h z (by simp [hz])) fun ys M2 h2 l a => k _ _ h2 (by simp [l]) (by
      intro z hz
      rcases List.mem_cons.mp hz with rfl | hz
      · exact hy
      · exact a z hz)
    simp only [compL, ok_grd]
    refine ⟨hc M hM, ?_⟩
    obtain ⟨⟨ys, M2⟩, e2, hP⟩ := r
    simp only [e, e2, ok_some]
    exact hP
theorem rng_map {a : Int} {n : Nat} : rng a n = (List.range n).map fun (k : Nat) => .int (a + (k : Int)) := rfl
theorem rng0 {n : Nat} : rng 0 n = (List.range n).map fun (k : Nat) => .int (k : Int) := by simp [rng]
theorem zip_map {xs ys : List Int} : zipD (xs.map D.int) (ys.map D.int) = (xs.zip ys).map fun p => .tup [.int p.1, .int p.2] := by
  induction xs generalizing ys with
  | nil => rfl
  | cons x xs ih => cases ys <;> simp [zipD, ih]
@[simp] theorem intsD_map {ns : List Int} : intsD (ns.map D.int) = some ns := by
  induction ns with
  | nil => rfl
  | cons n ns ih => simp [intsD, ih]
theorem intsD_mapf {α : Type} {l : List α} {g : α → Int} : intsD (l.map fun a => D.int (g a)) = some (l.map g) := by
  have : (l.map fun a => D.int (g a)) = (l.map g).map D.int := by simp
  rw [this, intsD_map]
section
variable {M : DSt} {P : Dv × DSt → Prop}
@[simp ↓] theorem ok_sum {ns : List Int} : Ok (oSum [.d (.lst (ns.map D.int))] M) P ↔ P (.d (.int ns.sum), M) := by simp [oSum]
@[simp ↓] theorem ok_sumf {α : Type} {l : List α} {g : α → Int} : Ok (oSum [.d (.lst (l.map fun a => D.int (g a)))] M) P ↔ P (.d (.int (l.map g).sum), M) := by simp only [oSum, lv_lst, intsD_mapf, ok_some]
@[simp ↓] theorem ok_len {xs : List D} : Ok (oLen [.d (.lst xs)] M) P ↔ P (.d (.int xs.length), M) := by simp [oLen]
@[simp ↓] theorem ok_lenT {xs : List D} : Ok (oLen [.d (.tup xs)] M) P ↔ P (.d (.int xs.length), M) := by simp [oLen]
@[simp ↓] theorem ok_lenR {xs : List D} : Ok (oLen [.r xs] M) P ↔ P (.d (.int xs.length), M) := by simp [oLen]
@[simp ↓] theorem ok_lenC {n : Nat} : Ok (oLen [.c n] M) P ↔ Ok (cel M n) fun xs => P (.d (.int xs.length), M) := by
  unfold oLen cel
  simp only [sv_c]
  cases (M[n]?).join <;> simp
@[simp ↓] theorem ok_wZ2 {xs ys : List D} {P : List D × List Nat × DSt → Prop} : Ok (wZ [.d (.lst xs), .d (.lst ys)] M) P ↔ P (zipD xs ys, [], M) := by simp [wZ]
@[simp ↓] theorem ok_eqS {s t : Str} : Ok (oEq (.d (.str s)) (.d (.str t)) M) P ↔ (strFine s = true ∧ strFine t = true) ∧ P (.d (.bl (s == t)), M) := by
  simp [oEq, dv, D.shp, D.eqv]
@[simp ↓] theorem ok_neS {s t : Str} : Ok (oNe (.d (.str s)) (.d (.str t)) M) P ↔ (strFine s = true ∧ strFine t = true) ∧ P (.d (.bl (!(s == t))), M) := by
  simp [oNe, dv, D.shp, D.eqv]
end
/-- == of two data -/
theorem ok_eqD {x y : D} {M : DSt} {P : Dv × DSt → Prop} (hx : x.shp 9 = true) (hy : y.shp 9 = true) : Ok (oEq (.d x) (.d y) M) P ↔ P (.d (.bl (D.eqv x y)), M) := by
  simp [oEq, dv, hx, hy]
theorem ok_neD {x y : D} {M : DSt} {P : Dv × DSt → Prop} (hx : x.shp 9 = true) (hy : y.shp 9 = true) : Ok (oNe (.d x) (.d y) M) P ↔ P (.d (.bl (!D.eqv x y)), M) := by
  simp [oNe, dv, hx, hy]
mutual
theorem eqv_refl : ∀ (n : Nat) (x : D), x.shp n = true → D.eqv x x = true
  | _, .non, _ => rfl
  | _, .bl _, _ => by simp [D.eqv]
  | _, .int _, _ => by simp [D.eqv]
  | _, .str _, _ => by simp [D.eqv]
  | _, .ty _, h => by simp [D.shp] at h
  | 0, .lst _, h => by simp [D.shp] at h
  | 0, .tup _, h => by simp [D.shp] at h
  | n + 1, .lst xs, h => by
    simp only [D.eqv]
    exact eqvs_refl n xs (by simpa [D.shp] using h)
  | n + 1, .tup xs, h => by
    simp only [D.eqv]
    exact eqvs_refl n xs (by simpa [D.shp] using h)
theorem eqvs_refl : ∀ (n : Nat) (xs : List D), (∀ x ∈ xs, x.shp n = true) → D.eqvs xs xs = true
  | _, [], _ => rfl
  | n, x :: xs, h => by
    simp only [D.eqvs, Bool.and_eq_true]
    exact ⟨eqv_refl n x (h x (by simp)), eqvs_refl n xs fun y hy => h y (by simp [hy])⟩
end
/-- != of one and the same -/
theorem ok_neSame {x : D} {M : DSt} {P : Dv × DSt → Prop} (hx : x.shp 9 = true) : Ok (oNe (.d x) (.d x) M) P ↔ P (.d (.bl false), M) := by
  rw [ok_neD hx hx, eqv_refl 9 x hx]
  rfl
theorem ok_eqSame {x : D} {M : DSt} {P : Dv × DSt → Prop} (hx : x.shp 9 = true) : Ok (oEq (.d x) (.d x) M) P ↔ P (.d (.bl true), M) := by
  rw [ok_eqD hx hx, eqv_refl 9 x hx]
/-! ### bounds of sums -/
theorem sum_bd {A : Int} {xs : List Int} {n : Nat} (h : ∀ x ∈ xs, bd A x) (hn : xs.length ≤ n) (hA : 0 ≤ A) : bd (n * A) xs.sum := by
  induction xs generalizing n with
  | nil =>
    have := Int.mul_nonneg (show (0 : Int) ≤ n by omega) hA
    exact ⟨by simp; omega, by simp; omega⟩
  | cons x xs ih =>
    cases n with
    | zero => simp at hn
    | succ n =>
      have a := ih (n := n) (fun y hy => h y (by simp [hy])) (by simpa using hn)
      have b := h x (by simp)
      rw [List.sum_cons]
      exact bd_add b a (by
        have : ((n + 1 : Nat) : Int) * A = (n : Int) * A + A := by rw [Int.natCast_add, Int.add_mul]; simp
        omega)
theorem Bn.sum {k : Nat} {xs : List Int} (h : ∀ x ∈ xs, Bn k x) (hn : xs.length ≤ 100) : Bn (k + 2) xs.sum := by
  refine bd_mono (sum_bd h hn (Int.le_of_lt (ten_pos k))) ?_
  rw [Int.pow_add]
  have := ten_pos k
  show (100 : Int) * 10 ^ k ≤ 10 ^ k * 10 ^ 2
  omega
/-- a loop that gathers -/
theorem forL_fold {α β : Type} {chk : DSt → Prop} {step : D → DEnv → DSt → Option Out} {M : DSt} {P : Out → Prop} {f : α → D} (env : β → DEnv) (g : β → α → β) (Inv : β → Prop) (hc : chk M) : ∀ {l : List α} {b : β}, Inv b →
    (∀ b a, a ∈ l → Inv b → Inv (g b a) ∧ Ok (step (f a) (env b) M) (turnP (fun ρ M' => M' = M ∧ ρ = env (g b a)) P)) → (Inv (l.foldl g b) → P (.nx (env (l.foldl g b)) M)) → Ok (forL chk step (l.map f) (env b) M) P
  | [], b, hi, _, k => by
    simp only [List.map_nil, forL, ok_grd, ok_some]
    exact ⟨hc, k hi⟩
  | a :: l, b, hi, h, k => by
    obtain ⟨hi', h1⟩ := h b a (by simp) hi
    rw [List.map_cons, ok_forC]
    refine ⟨hc, h1.mono ?_⟩
    intro o ho
    have r := forL_fold (f := f) env g Inv hc (l := l) hi' (fun b a ha => h b a (by simp [ha])) k
    cases o with
    | nx ρ M' => obtain ⟨rfl, rfl⟩ := ho; exact r
    | ct ρ M' => obtain ⟨rfl, rfl⟩ := ho; exact r
    | bk ρ M' => exact ho
    | rt v M' => exact ho
end Rw
end PRwLib
section PRwFar
set_option autoImplicit false
set_option linter.all false
set_option maxRecDepth 100000
/-! RwFar: how far two lists are, in plain ints. -/
namespace Rw
open PySem (Str)
inductive Kd where
  | pl | mo | sh
def Kd.s : Kd → D
  | .pl => .str "plain"
  | .mo => .str "moved"
  | .sh => .str "shape"
def frD (p : Int × Int) : D := .tup [.int p.1, .int p.2]
def unevenZ (xs : List Int) : Int := (xs.length : Int) * (xs.map fun x => x * x).sum - xs.sum * xs.sum
def diffZ (xs ys : List Int) : List Int := (xs.zip ys).map fun p => p.1 - p.2
def dotZ (xs ys : List Int) : Int := ((xs.zip ys).map fun p => p.1 * p.2).sum
def signG (t b : Int) : Int := if b < 0 then -(Int.gcd t b : Int) else (Int.gcd t b : Int)
def madeZ (t b : Int) : Int × Int := (t.fdiv (signG t b), b.fdiv (signG t b))
def bothZ (xs ys : List Int) : Int := (xs.length : Int) * dotZ xs ys - xs.sum * ys.sum
def farZ : Kd → List Int → List Int → Int × Int
  | .pl, xs, ys => madeZ ((diffZ xs ys).map fun d => d * d).sum xs.length
  | .mo, xs, ys => madeZ (unevenZ (diffZ xs ys)) ((xs.length : Int) * xs.length)
  | .sh, xs, ys => if unevenZ xs = 0 ∨ unevenZ ys = 0 then (if unevenZ xs = unevenZ ys then (0, 1) else (1, 1))
    else madeZ (unevenZ xs * unevenZ ys - bothZ xs ys * (if bothZ xs ys < 0 then -bothZ xs ys else bothZ xs ys)) (unevenZ xs * unevenZ ys)
def lessZ (a b : Int × Int) : Bool := decide (a.1 * b.2 < b.1 * a.2)
/-- a row of ints within k figures, at most 100 -/
def Row (k : Nat) (xs : List Int) : Prop := (∀ x ∈ xs, Bn k x) ∧ xs.length ≤ 100
theorem Row.diff {k : Nat} {xs ys : List Int} (hx : Row k xs) (hy : Row k ys) : Row (k + 1) (diffZ xs ys) := by
  refine ⟨?_, ?_⟩
  · intro d hd
    simp only [diffZ, List.mem_map] at hd
    obtain ⟨⟨a, b⟩, hp, rfl⟩ := hd
    have := List.of_mem_zip hp
    exact (hx.1 a this.1).sub (hy.1 b this.2)
  · have := hx.2
    simp [diffZ]
    omega
theorem Bn.nat {n : Nat} (h : n ≤ 100) : Bn 2 (n : Int) := ⟨by show -(100 : Int) ≤ _; omega, by show _ ≤ (100 : Int); omega⟩
theorem Row.sum {k : Nat} {xs : List Int} (h : Row k xs) : Bn (k + 2) xs.sum := Bn.sum h.1 h.2
theorem Row.sqs {k : Nat} {xs : List Int} (h : Row k xs) : Bn (k + k + 2) (xs.map fun x => x * x).sum := by
  refine Bn.sum ?_ (by simpa using h.2)
  intro y hy
  obtain ⟨x, hx, rfl⟩ := List.mem_map.mp hy
  exact (h.1 x hx).mul (h.1 x hx)
theorem Row.uneven {k : Nat} {xs : List Int} (h : Row k xs) : Bn (k + k + 5) (unevenZ xs) := by
  unfold unevenZ
  exact (((Bn.nat h.2).mul h.sqs).mono (k := k + k + 4) (by omega)).sub ((h.sum.mul h.sum).mono (by omega))
theorem Row.dot {k : Nat} {xs ys : List Int} (hx : Row k xs) (hy : Row k ys) : Bn (k + k + 2) (dotZ xs ys) := by
  refine Bn.sum ?_ ?_
  · intro z hz
    obtain ⟨⟨a, b⟩, hp, rfl⟩ := List.mem_map.mp hz
    have := List.of_mem_zip hp
    exact (hx.1 a this.1).mul (hy.1 b this.2)
  · have := hx.2
    simp
    omega
theorem Row.both {k : Nat} {xs ys : List Int} (hx : Row k xs) (hy : Row k ys) : Bn (k + k + 5) (bothZ xs ys) :=
  (((Bn.nat hx.2).mul (hx.dot hy)).mono (k := k + k + 4) (by omega)).sub ((hx.sum.mul hy.sum).mono (by omega))
theorem Bn.abs {k : Nat} {x : Int} (h : Bn k x) : Bn k (if x < 0 then -x else x) := by
  split
  · exact h.neg
  · exact h
theorem signG_ne {t b : Int} (h : b ≠ 0) : signG t b ≠ 0 := by
  have := gcd_pos (t := t) h
  unfold signG
  split <;> omega
theorem signG_bn {t b : Int} {k : Nat} (h : b ≠ 0) (hb : Bn k b) : Bn k (signG t b) := by
  have := gcd_bd (t := t) h hb
  unfold signG
  split
  · exact bd_neg this
  · exact this
theorem Bn.fdiv {k : Nat} {x y : Int} (h : Bn k x) : Bn k (x.fdiv y) := bd_fdiv h
theorem madeZ_bn {k : Nat} {t b : Int} (ht : Bn k t) (hb : Bn k b) : Bn k (madeZ t b).1 ∧ Bn k (madeZ t b).2 := ⟨ht.fdiv, hb.fdiv⟩
theorem Row.shTop {k : Nat} {xs ys : List Int} (hx : Row k xs) (hy : Row k ys) : Bn (4 * k + 11) (unevenZ xs * unevenZ ys - bothZ xs ys * (if bothZ xs ys < 0 then -bothZ xs ys else bothZ xs ys)) :=
  ((hx.uneven.mul hy.uneven).mono (k := 4 * k + 10) (by omega)).sub (((hx.both hy).mul (hx.both hy).abs).mono (by omega))
theorem Row.shBot {k : Nat} {xs ys : List Int} (hx : Row k xs) (hy : Row k ys) : Bn (4 * k + 11) (unevenZ xs * unevenZ ys) := (hx.uneven.mul hy.uneven).mono (by omega)
theorem farZ_bn {k : Nat} {xs ys : List Int} (kd : Kd) (hx : Row k xs) (hy : Row k ys) : Bn (4 * k + 11) (farZ kd xs ys).1 ∧ Bn (4 * k + 11) (farZ kd xs ys).2 := by
  have o : ∀ {z : Int}, z = 0 ∨ z = 1 → Bn (4 * k + 11) z := by
    intro z hz
    have : Bn 1 z := by rcases hz with rfl | rfl <;> exact ⟨by decide, by decide⟩
    exact this.mono (by omega)
  cases kd with
  | pl => exact madeZ_bn ((hx.diff hy).sqs.mono (by omega)) ((Bn.nat hx.2).mono (by omega))
  | mo => exact madeZ_bn ((hx.diff hy).uneven.mono (by omega)) (((Bn.nat hx.2).mul (Bn.nat hx.2)).mono (by omega))
  | sh =>
    rw [show farZ .sh xs ys = if unevenZ xs = 0 ∨ unevenZ ys = 0 then (if unevenZ xs = unevenZ ys then (0, 1) else (1, 1)) else madeZ (unevenZ xs * unevenZ ys - bothZ xs ys * (if bothZ xs ys < 0 then -bothZ xs ys else bothZ xs ys)) (unevenZ xs * unevenZ ys) from rfl]
    by_cases h1 : unevenZ xs = 0 ∨ unevenZ ys = 0
    · rw [if_pos h1]
      by_cases h2 : unevenZ xs = unevenZ ys
      · rw [if_pos h2]
        exact ⟨o (.inl rfl), o (.inr rfl)⟩
      · rw [if_neg h2]
        exact ⟨o (.inr rfl), o (.inr rfl)⟩
    · rw [if_neg h1]
      exact madeZ_bn (hx.shTop hy) (hx.shBot hy)
theorem frD_shp {p : Int × Int} {n : Nat} : (frD p).shp (n + 1) = true := by simp [frD, D.shp]
/-! ### stretches -/
def cutZ (xs : List Int) (l p : Nat) : List Int := (xs.drop p).take l
def stretchesZ (xs : List Int) (l : Nat) : List (List Int) := (List.range (xs.length + 1 - l)).map fun p => cutZ xs l p
theorem cutD_map {xs : List Int} {l p : Nat} (h : p + l ≤ xs.length) : cutD (xs.map D.int) (some (p : Int)) (some ((p : Int) + (l : Int))) = (cutZ xs l p).map D.int := by
  unfold cutD cutZ sIxD
  have a : ¬ ((p : Int) < 0) := by omega
  have b : ¬ ((p : Int) + (l : Int) < 0) := by omega
  simp only [a, b, if_false, List.length_map]
  have c : min (p : Int).toNat xs.length = p := by omega
  have d : min ((p : Int) + (l : Int)).toNat xs.length = p + l := by omega
  rw [c, d, ← List.map_drop, ← List.map_take]
  congr 2
  omega
theorem cutZ_rw {k l p : Nat} {xs : List Int} (h : Row k xs) : Row k (cutZ xs l p) := by
  refine ⟨fun x hx => h.1 x (List.mem_of_mem_drop (List.mem_of_mem_take hx)), ?_⟩
  have := h.2
  simp [cutZ]
  omega
theorem cutZ_len {l p : Nat} {xs : List Int} (h : p + l ≤ xs.length) : (cutZ xs l p).length = l := by
  simp [cutZ]
  omega
/-! ### the nearest -/
/-- the nearest so far, with its place -/
def bestD : Option ((Int × Int) × Nat) → D
  | none => .non
  | some (f, q) => .tup [frD f, .int q]
def stepZ (b : Option ((Int × Int) × Nat)) (f : Int × Int) (q : Nat) : Option ((Int × Int) × Nat) := match b with
  | none => some (f, q)
  | some (g, r) => if lessZ f g then some (f, q) else some (g, r)
def nthZ (ss : List (List Int)) (p : Nat) : List Int := ss.getD p []
def farAt (kd : Kd) (ss : List (List Int)) (p q : Nat) : Int × Int := farZ kd (nthZ ss p) (nthZ ss q)
def nearTo (kd : Kd) (ss : List (List Int)) (gap p : Nat) : Nat → Option ((Int × Int) × Nat)
  | 0 => none
  | q + 1 => if gap ≤ (q - p) + (p - q) then stepZ (nearTo kd ss gap p q) (farAt kd ss p q) q else nearTo kd ss gap p q
def nearZ (kd : Kd) (ss : List (List Int)) (gap p : Nat) : Option ((Int × Int) × Nat) := nearTo kd ss gap p ss.length
def tableZ (kd : Kd) (xs : List Int) (gap l : Nat) : List (Option ((Int × Int) × Nat)) := (List.range (stretchesZ xs l).length).map fun p => nearZ kd (stretchesZ xs l) gap p
theorem bestD_shp {b : Option ((Int × Int) × Nat)} {n : Nat} : (bestD b).shp (n + 2) = true := by
  cases b with
  | none => rfl
  | some x => simp [bestD, D.shp, frD]
/-! ### rows as data -/
def rowD (s : List Int) : D := .lst (s.map D.int)
def rowsD (ss : List (List Int)) : List D := ss.map rowD
theorem enumD_at {xs : List D} {k i : Nat} {x : D} : (enumD k xs)[i]? = some x ↔ ∃ y, xs[i]? = some y ∧ x = .tup [.int ((k + i : Nat) : Int), y] := by
  induction xs generalizing k i with
  | nil => simp [enumD]
  | cons y ys ih =>
    cases i with
    | zero => simp [enumD, eq_comm]
    | succ i =>
      simp only [enumD, List.getElem?_cons_succ, ih]
      constructor
      · rintro ⟨z, h, rfl⟩
        exact ⟨z, h, by congr 3; omega⟩
      · rintro ⟨z, h, rfl⟩
        exact ⟨z, h, by congr 3; omega⟩
theorem enumD_len {xs : List D} {k : Nat} : (enumD k xs).length = xs.length := by
  induction xs generalizing k with
  | nil => rfl
  | cons y ys ih => simp [enumD, ih]
theorem ok_atN {xs : List D} {k : Nat} {z : D} {P : D → Prop} (h : xs[k]? = some z) : Ok (atD xs (k : Int)) P ↔ P z := by
  have hk := (List.getElem?_eq_some_iff.mp h).1
  simp [atD, ixD_nat hk, h]
theorem rowsD_at {ss : List (List Int)} {p : Nat} (h : p < ss.length) : (rowsD ss)[p]? = some (rowD (nthZ ss p)) := by
  simp [rowsD, nthZ, List.getElem?_map, List.getElem?_eq_getElem h, List.getD_eq_getElem?_getD]
theorem getD_mem {ss : List (List Int)} {p : Nat} (h : p < ss.length) : nthZ ss p ∈ ss := by
  rw [nthZ, List.getD_eq_getElem?_getD, List.getElem?_eq_getElem h]
  exact List.getElem_mem h
/-- stretches that can be compared -/
def Fine (k : Nat) (ss : List (List Int)) : Prop := (∀ s ∈ ss, Row k s ∧ 0 < s.length) ∧ ss.length ≤ 100
theorem farAt_bn {k : Nat} {ss : List (List Int)} {p q : Nat} (kd : Kd) (h : Fine k ss) (hp : p < ss.length) (hq : q < ss.length) : Bn (4 * k + 11) (farAt kd ss p q).1 ∧ Bn (4 * k + 11) (farAt kd ss p q).2 :=
  farZ_bn kd (h.1 _ (getD_mem hp)).1 (h.1 _ (getD_mem hq)).1
theorem nearTo_bn {k : Nat} {ss : List (List Int)} {p gap : Nat} (kd : Kd) (h : Fine k ss) (hp : p < ss.length) : ∀ {n : Nat}, n ≤ ss.length → ∀ {f : Int × Int} {r : Nat}, nearTo kd ss gap p n = some (f, r) → Bn (4 * k + 11) f.1 ∧ Bn (4 * k + 11) f.2
  | 0, _, _, _, e => by cases e
  | n + 1, hn, f, r, e => by
    have b := farAt_bn kd h hp (show n < ss.length by omega)
    unfold nearTo at e
    split at e
    · unfold stepZ at e
      split at e
      · cases e
        exact b
      · rename_i g r' e'
        split at e
        · cases e
          exact b
        · cases e
          exact nearTo_bn kd h hp (by omega) e'
    · exact nearTo_bn kd h hp (by omega) e
theorem stretches_fine {k l : Nat} {xs : List Int} (h : Row k xs) (hl : 0 < l) : Fine k (stretchesZ xs l) := by
  refine ⟨?_, ?_⟩
  · intro s hs
    obtain ⟨p, hp, rfl⟩ := List.mem_map.mp hs
    have := List.mem_range.mp hp
    exact ⟨cutZ_rw h, by rw [cutZ_len (by omega)]; exact hl⟩
  · have := h.2
    simp [stretchesZ]
    omega
theorem gap_int {q p gap : Nat} : ((gap : Int) ≤ (if (q : Int) - (p : Int) < 0 then -((q : Int) - (p : Int)) else (q : Int) - (p : Int))) ↔ gap ≤ (q - p) + (p - q) := by
  split <;> omega
theorem gap_int2 {q p gap : Nat} : ((gap : Int) ≤ (if (q : Int) - (p : Int) > (p : Int) - (q : Int) then (q : Int) - (p : Int) else (p : Int) - (q : Int))) ↔ gap ≤ (q - p) + (p - q) := by
  split <;> omega
theorem kind_in {M : DSt} {P : Dv × DSt → Prop} (kd : Kd) : Ok (oIn true (.d kd.s) (.d (.tup [.str "plain", .str "moved", .str "shape"])) M) P ↔ P (.d (.bl false), M) := by
  have t1 : (("moved" : Str) == "plain") = false := by decide +kernel
  have t2 : (("shape" : Str) == "plain") = false := by decide +kernel
  have t3 : (("shape" : Str) == "moved") = false := by decide +kernel
  have t4 : (("plain" : Str) == "moved") = false := by decide +kernel
  have t5 : (("plain" : Str) == "shape") = false := by decide +kernel
  have t6 : (("moved" : Str) == "shape") = false := by decide +kernel
  cases kd <;> simp [oIn, Kd.s, sv, D.flat, D.eqv, t1, t2, t3, t4, t5, t6]
theorem kd_shp {kd : Kd} {n : Nat} : kd.s.shp n = true := by
  cases kd <;> cases n <;> (unfold Kd.s D.shp; decide +kernel)
theorem table_shp {l : List (Option ((Int × Int) × Nat))} {n : Nat} : (D.lst (l.map bestD)).shp (n + 3) = true := by
  simp only [D.shp, List.all_map, List.all_eq_true]
  intro b _
  exact bestD_shp
theorem rowD_shp {xs : List Int} {n : Nat} : (rowD xs).shp (n + 1) = true := by
  simp only [rowD, D.shp, List.all_map, List.all_eq_true]
  intro b _
  cases n <;> rfl
/-! ### draws -/
/-- the purse: a cell with two ints -/
def Purse (n : Nat) (M : DSt) : Prop := ∃ a b, M[n]? = some (some [.int a, .int b])
/-- a store like M but for the purse -/
def Like (n : Nat) (M M' : DSt) : Prop := Purse n M' ∧ ∃ a b, M' = M.set n (some [.int a, .int b])
theorem Purse.like {n : Nat} {M : DSt} (h : Purse n M) : Like n M M := by
  refine ⟨h, ?_⟩
  obtain ⟨a, b, e⟩ := h
  refine ⟨a, b, ?_⟩
  obtain ⟨hn, e⟩ := List.getElem?_eq_some_iff.mp e
  rw [← e, List.set_getElem_self]
theorem Like.set {n : Nat} {M M' : DSt} (h : Like n M M') (a b : Int) : Like n M (M'.set n (some [.int a, .int b])) := by
  obtain ⟨⟨c, d, e⟩, x, y, rfl⟩ := h
  refine ⟨⟨a, b, ?_⟩, a, b, ?_⟩
  · rw [List.getElem?_set_self (List.getElem?_eq_some_iff.mp e).1]
  · rw [List.set_set]
theorem Like.len {n : Nat} {M M' : DSt} (h : Like n M M') : M'.length = M.length := by
  obtain ⟨_, a, b, rfl⟩ := h
  simp
theorem Like.trans {n : Nat} {M M' M'' : DSt} (h : Like n M M') (h' : Like n M' M'') : Like n M M'' := by
  obtain ⟨_, a, b, rfl⟩ := h
  obtain ⟨p, c, d, rfl⟩ := h'
  exact ⟨p, c, d, by rw [List.set_set]⟩
theorem ints_of {Q : Int → Prop} : ∀ {ys : List D}, (∀ y ∈ ys, ∃ z, y = .int z ∧ Q z) → ∃ zs : List Int, ys = zs.map D.int ∧ zs.length = ys.length ∧ ∀ z ∈ zs, Q z
  | [], _ => ⟨[], rfl, rfl, by simp⟩
  | y :: ys, h => by
    obtain ⟨z, rfl, hz⟩ := h y (by simp)
    obtain ⟨zs, rfl, hl, hq⟩ := ints_of (ys := ys) fun y hy => h y (by simp [hy])
    exact ⟨z :: zs, rfl, by simp, by simpa using ⟨hz, hq⟩⟩
/-- a drawn number: what the draw tells -/
def Drawn (n : Nat) (m : Int) (M : DSt) (p : Dv × DSt) : Prop := ∃ r : Nat, (r : Int) < m ∧ p.1 = .d (.int (r : Int)) ∧ Like n M p.2
theorem sIx_cut {xs : List D} : cutD xs none (some 63) = xs.take 63 := by
  unfold cutD sIxD
  simp only [List.drop_zero, Nat.sub_zero]
  rw [if_neg (by decide)]
  show List.take (min 63 xs.length) xs = _
  rw [Nat.min_def]
  split
  · rfl
  · rw [List.take_of_length_le (Nat.le_refl _), List.take_of_length_le (by omega)]
/-- a drawn int within k figures -/
def DrawnB (k n : Nat) (M : DSt) (p : Dv × DSt) : Prop := ∃ z : Int, Bn k z ∧ p.1 = .d (.int z) ∧ Like n M p.2
theorem Purse.lt {n : Nat} {M : DSt} (h : Purse n M) : n < M.length := by
  obtain ⟨a, b, e⟩ := h
  exact (List.getElem?_eq_some_iff.mp e).1
theorem Like.at {n c : Nat} {M M' : DSt} (h : Like n M M') (hc : c ≠ n) : M'[c]? = M[c]? := by
  obtain ⟨_, a, b, rfl⟩ := h
  rw [List.getElem?_set_ne (Ne.symm hc)]
/-- a store in which a def works: the purse drawn from, cells of its own behind -/
def Grown (n : Nat) (M M1 : DSt) : Prop := n < M.length ∧ M.length ≤ M1.length ∧ Purse n M1 ∧ Like n M (M1.take M.length)
theorem Purse.grown {n : Nat} {M : DSt} (h : Purse n M) : Grown n M M := ⟨h.lt, Nat.le_refl _, h, by rw [List.take_of_length_le (Nat.le_refl _)]; exact h.like⟩
theorem Grown.draw {n : Nat} {M M1 M2 : DSt} (h : Grown n M M1) (h' : Like n M1 M2) : Grown n M M2 := by
  obtain ⟨h0, h1, h2, h3⟩ := h
  obtain ⟨p, a, b, rfl⟩ := h'
  refine ⟨h0, by simpa using h1, p, ?_⟩
  rw [List.take_set]
  exact h3.set a b
theorem Grown.app {n : Nat} {M M1 : DSt} (h : Grown n M M1) (x : Option (List D)) : Grown n M (M1 ++ [x]) := by
  obtain ⟨h0, h1, h2, h3⟩ := h
  refine ⟨h0, by simp; omega, ?_, ?_⟩
  · obtain ⟨a, b, e⟩ := h2
    exact ⟨a, b, by rw [List.getElem?_append_left (by omega)]; exact e⟩
  · rw [List.take_append_of_le_length h1]
    exact h3
theorem Grown.put {n c : Nat} {M M1 : DSt} (h : Grown n M M1) (hc : M.length ≤ c) (x : Option (List D)) : Grown n M (M1.set c x) := by
  obtain ⟨h0, h1, h2, h3⟩ := h
  refine ⟨h0, by simpa using h1, ?_, ?_⟩
  · obtain ⟨a, b, e⟩ := h2
    exact ⟨a, b, by rw [List.getElem?_set_ne (by omega)]; exact e⟩
  · rw [List.take_set, List.set_eq_of_length_le (by simp; omega)]
    exact h3
theorem ok_finC {b c : Nat} {M : DSt} {xs : List D} {P : Dv × DSt → Prop} (h : b ≤ c) (e : M[c]? = some (some xs)) : Ok (fin b (.c c) M) P ↔ P (.c b, M.take b ++ [some xs]) := by
  have hn : ¬ c < b := by omega
  simp [fin, hn, e]
theorem atN {zs : List Int} {p : Nat} (hp : p < zs.length) : ∃ z, z ∈ zs ∧ (zs.map D.int)[p]? = some (.int z) :=
  ⟨zs[p], List.getElem_mem hp, by simp [List.getElem?_map, List.getElem?_eq_getElem hp]⟩
/-- an int item at an int place -/
theorem pickI {zs : List Int} {s : Int} {P : D → Prop} (h0 : 0 ≤ s) (h1 : s < zs.length) (h : ∀ z ∈ zs, P (.int z)) : Ok (atD (zs.map D.int) s) P :=
  pick h0 (by simpa using h1) fun d hd => by
    obtain ⟨z, hz, rfl⟩ := List.mem_map.mp hd
    exact h z hz
theorem cut_take {xs : List D} (r : Nat) : cutD xs none (some (r : Int)) = xs.take r := by
  unfold cutD sIxD
  simp only [List.drop_zero, Nat.sub_zero]
  rw [if_neg (by omega)]
  show List.take (min r xs.length) xs = _
  rw [Nat.min_def]
  split
  · rfl
  · rw [List.take_of_length_le (Nat.le_refl _), List.take_of_length_le (by omega)]
theorem cut_drop {xs : List D} (r : Nat) : cutD xs (some (r : Int)) none = xs.drop r := by
  unfold cutD sIxD
  simp only
  rw [if_neg (by omega)]
  show List.take (xs.length - min r xs.length) (List.drop (min r xs.length) xs) = _
  rw [List.take_of_length_le (by simp)]
  by_cases h : r ≤ xs.length
  · rw [Nat.min_eq_left h]
  · rw [Nat.min_eq_right (by omega), List.drop_of_length_le (Nat.le_refl _), List.drop_of_length_le (by omega)]
@[simp ↓] theorem ok_slC {M : DSt} {c : Bool} {n : Nat} {l h : Option Int} {P : Dv × DSt → Prop} : Ok (slU c (.c n) l h M) P ↔ Ok (cel M n) fun xs => Ok (mkL c (cutD xs l h) M) P := by
  simp only [slU, slL, lv_c, cel]
  cases (M[n]?).join <;> simp
@[simp ↓] theorem ok_rep {M : DSt} {c : Bool} {xs : List D} {k : Int} {P : Dv × DSt → Prop} : Ok (oMulU c (.d (.lst xs)) (.d (.int k)) M) P ↔ (-(2 ^ 62) ≤ k ∧ k < 2 ^ 62 ∧ xs.length * k.toNat ≤ big) ∧ Ok (mkL c (List.replicate k.toNat xs).flatten M) P := by
  simp only [oMulU, oRep, lw_lst, ok_grd]
theorem flat_one {α : Type} (n : Nat) (x : α) : (List.replicate n [x]).flatten = List.replicate n x := by
  induction n with
  | zero => rfl
  | succ n ih => simp [List.replicate_succ, ih]
theorem ok_frz {b : Nat} {M : DSt} {xs : List D} {P : Dv × DSt → Prop} (h : M.length = b) : Ok (frz b (.c b, M ++ [some xs])) P ↔ P (.d (.lst xs), M) := by
  subst h
  simp [frz]
/-- what is asked: a row, a kind, a gap, a length -/
def Asked (n m : Nat) (M : DSt) (p : Dv × DSt) : Prop := ∃ (zs : List Int) (kd : Kd) (gap l : Nat), Row 10 zs ∧ zs.length ≤ m ∧ 1 ≤ gap ∧ gap ≤ 200 ∧ 1 ≤ l ∧ l ≤ 40 ∧ p.1 = .d (.tup [rowD zs, kd.s, .int gap, .int l]) ∧ Like n M p.2
/-! ### order of fractions -/
theorem madeZ_pos {t b : Int} (h : b ≠ 0) : 0 < (madeZ t b).2 := by
  have hg := gcd_pos (t := t) h
  obtain ⟨c, hc⟩ := gcd_dvd_r t b
  unfold madeZ signG
  simp only
  generalize ((Int.gcd t b : Nat) : Int) = G at hg hc ⊢
  subst hc
  have hc0 : c ≠ 0 := by
    rintro rfl
    simp at h
  by_cases hn : G * c < 0
  · rw [if_pos hn]
    have hc : c < 0 := by
      by_cases q : c < 0
      · exact q
      · have := Int.mul_nonneg (Int.le_of_lt hg) (show 0 ≤ c by omega)
        omega
    rw [show G * c = -G * -c by rw [Int.neg_mul_neg], Int.mul_fdiv_cancel_left _ (by omega)]
    omega
  · rw [if_neg hn, Int.mul_fdiv_cancel_left _ (by omega)]
    by_cases q : 0 < c
    · exact q
    · have := Int.mul_neg_of_pos_of_neg hg (show c < 0 by omega)
      omega
theorem farZ_pos {xs ys : List Int} (kd : Kd) (h : 0 < xs.length) : 0 < (farZ kd xs ys).2 := by
  cases kd with
  | pl => exact madeZ_pos (by omega)
  | mo =>
    have := Int.mul_pos (show (0 : Int) < xs.length by omega) (show (0 : Int) < xs.length by omega)
    exact madeZ_pos (by omega)
  | sh =>
    rw [show farZ .sh xs ys = if unevenZ xs = 0 ∨ unevenZ ys = 0 then (if unevenZ xs = unevenZ ys then (0, 1) else (1, 1)) else madeZ (unevenZ xs * unevenZ ys - bothZ xs ys * (if bothZ xs ys < 0 then -bothZ xs ys else bothZ xs ys)) (unevenZ xs * unevenZ ys) from rfl]
    by_cases h1 : unevenZ xs = 0 ∨ unevenZ ys = 0
    · rw [if_pos h1]
      split <;> decide
    · rw [if_neg h1]
      exact madeZ_pos (Int.mul_ne_zero (fun e => h1 (.inl e)) (fun e => h1 (.inr e)))
theorem lessZ_iff {a b : Int × Int} : lessZ a b = true ↔ a.1 * b.2 < b.1 * a.2 := by simp [lessZ]
theorem lessZ_irr {a : Int × Int} : lessZ a a = false := by simp [lessZ]
theorem less_step {a f g : Int × Int} (ha : 0 < a.2) (hf : 0 < f.2) (hg : 0 < g.2) (h1 : lessZ f g = true) (h2 : lessZ a g = false) : lessZ a f = false := by
  rw [lessZ_iff] at h1
  have h2' : ¬ (a.1 * g.2 < g.1 * a.2) := by rw [← lessZ_iff, h2]; simp
  rw [← Bool.not_eq_true, lessZ_iff]
  intro h3
  have e1 : f.1 * g.2 * a.2 < g.1 * f.2 * a.2 := Int.mul_lt_mul_of_pos_right h1 ha
  have e2 : g.1 * a.2 * f.2 ≤ a.1 * g.2 * f.2 := Int.mul_le_mul_of_nonneg_right (by omega) (Int.le_of_lt hf)
  have e3 : a.1 * f.2 * g.2 < f.1 * a.2 * g.2 := Int.mul_lt_mul_of_pos_right h3 hg
  have x1 : g.1 * f.2 * a.2 = g.1 * a.2 * f.2 := by ac_rfl
  have x2 : a.1 * g.2 * f.2 = a.1 * f.2 * g.2 := by ac_rfl
  have x3 : f.1 * g.2 * a.2 = f.1 * a.2 * g.2 := by ac_rfl
  omega
/-- what the nearest is -/
def Apart (gap p q : Nat) : Prop := gap ≤ (q - p) + (p - q)
theorem nearTo_spec {kd : Kd} {ss : List (List Int)} {gap p : Nat} (hs : ∀ s ∈ ss, 0 < s.length) (hp : p < ss.length) : ∀ {n : Nat}, n ≤ ss.length →
    (nearTo kd ss gap p n = none → ∀ q, q < n → ¬ Apart gap p q) ∧ (∀ f r, nearTo kd ss gap p n = some (f, r) → (r < n ∧ Apart gap p r ∧ f = farAt kd ss p r) ∧ ∀ q, q < n → Apart gap p q → lessZ (farAt kd ss p q) f = false)
  | 0, _ => ⟨fun _ q h => by omega, fun f r h => by cases h⟩
  | n + 1, hn => by
    have pos : ∀ q, 0 < (farAt kd ss p q).2 := fun q => farZ_pos kd (hs _ (getD_mem hp))
    have ih := nearTo_spec (kd := kd) (gap := gap) hs hp (show n ≤ ss.length by omega)
    by_cases hg : gap ≤ (n - p) + (p - n)
    · rw [nearTo, if_pos hg]
      cases e : nearTo kd ss gap p n with
      | none =>
        have hno := ih.1 e
        refine ⟨fun h => by simp [stepZ] at h, fun f r h => ?_⟩
        simp only [stepZ] at h
        cases h
        refine ⟨⟨by omega, hg, rfl⟩, fun q hq ha => ?_⟩
        by_cases hqn : q = n
        · subst hqn
          exact lessZ_irr
        · exact absurd ha (hno q (by omega))
      | some gr =>
        obtain ⟨g, r0⟩ := gr
        obtain ⟨⟨a1, a2, a3⟩, a4⟩ := ih.2 g r0 e
        refine ⟨fun h => ?_, fun f r h => ?_⟩
        · simp only [stepZ] at h
          split at h <;> cases h
        · simp only [stepZ] at h
          by_cases hl : lessZ (farAt kd ss p n) g = true
          · rw [if_pos hl] at h
            cases h
            refine ⟨⟨by omega, hg, rfl⟩, fun q hq ha => ?_⟩
            by_cases hqn : q = n
            · subst hqn
              exact lessZ_irr
            · exact less_step (pos q) (pos n) (by rw [a3]; exact pos r0) hl (a4 q (by omega) ha)
          · rw [if_neg hl] at h
            cases h
            refine ⟨⟨by omega, a2, a3⟩, fun q hq ha => ?_⟩
            by_cases hqn : q = n
            · subst hqn
              simpa using hl
            · exact a4 q (by omega) ha
    · rw [nearTo, if_neg hg]
      refine ⟨fun h q hq ha => ?_, fun f r h => ?_⟩
      · by_cases hqn : q = n
        · subst hqn
          exact hg ha
        · exact ih.1 h q (by omega) ha
      · obtain ⟨⟨a1, a2, a3⟩, a4⟩ := ih.2 f r h
        refine ⟨⟨by omega, a2, a3⟩, fun q hq ha => ?_⟩
        by_cases hqn : q = n
        · subst hqn
          exact absurd ha hg
        · exact a4 q (by omega) ha
theorem stretches_len {xs : List Int} {l : Nat} : (stretchesZ xs l).length = xs.length + 1 - l := by simp [stretchesZ]
theorem nth_stretch {xs : List Int} {l p : Nat} (h : p < xs.length + 1 - l) : nthZ (stretchesZ xs l) p = cutZ xs l p := by
  simp [nthZ, stretchesZ, List.getD_eq_getElem?_getD, List.getElem?_map, List.getElem?_range h]
theorem cut_app {xs : List Int} {x : Int} {l p : Nat} (h : p + l ≤ xs.length) : cutZ (xs ++ [x]) l p = cutZ xs l p := by
  unfold cutZ
  rw [List.drop_append_of_le_length (by omega), List.take_append_of_le_length (by simp; omega)]
theorem nearTo_congr {kd : Kd} {ss ss' : List (List Int)} {gap p n : Nat} (hp : nthZ ss' p = nthZ ss p) (h : ∀ q, q < n → nthZ ss' q = nthZ ss q) : nearTo kd ss' gap p n = nearTo kd ss gap p n := by
  induction n with
  | zero => rfl
  | succ n ih =>
    have e := ih fun q hq => h q (by omega)
    rw [nearTo, nearTo, e]
    have : farAt kd ss' p n = farAt kd ss p n := by unfold farAt; rw [hp, h n (by omega)]
    rw [this]
/-- the nearest in a row that has grown by one -/
theorem near_grown {kd : Kd} {xs : List Int} {x : Int} {gap l p : Nat} (hl : 0 < l) (hp : p < xs.length + 1 - l) :
    nearZ kd (stretchesZ (xs ++ [x]) l) gap p = if gap ≤ (xs.length + 1 - l) - p then stepZ (nearZ kd (stretchesZ xs l) gap p) (farAt kd (stretchesZ (xs ++ [x]) l) p (xs.length + 1 - l)) (xs.length + 1 - l) else nearZ kd (stretchesZ xs l) gap p := by
  have e : ∀ q, q < xs.length + 1 - l → nthZ (stretchesZ (xs ++ [x]) l) q = nthZ (stretchesZ xs l) q := by
    intro q hq
    rw [nth_stretch (by simp; omega), nth_stretch hq, cut_app (by omega)]
  have en : (stretchesZ (xs ++ [x]) l).length = (xs.length + 1 - l) + 1 := by rw [stretches_len]; simp; omega
  unfold nearZ
  rw [en, stretches_len, nearTo, nearTo_congr (e p hp) e]
  have : (xs.length + 1 - l) - p + (p - (xs.length + 1 - l)) = (xs.length + 1 - l) - p := by omega
  rw [this]
theorem tableZ_len {kd : Kd} {xs : List Int} {gap l : Nat} : (tableZ kd xs gap l).length = xs.length + 1 - l := by simp [tableZ, stretches_len]
theorem tableZ_at {kd : Kd} {xs : List Int} {gap l p : Nat} (h : p < xs.length + 1 - l) : ((tableZ kd xs gap l).map bestD)[p]? = some (bestD (nearZ kd (stretchesZ xs l) gap p)) := by
  simp only [tableZ, List.map_map, List.getElem?_map, stretches_len, List.getElem?_range h]
  rfl
theorem rowD_app {xs : List Int} {x : Int} : D.lst (xs.map D.int ++ [D.int x]) = rowD (xs ++ [x]) := by simp [rowD]
theorem Row.app {k : Nat} {xs : List Int} {x : Int} (h : Row k xs) (hx : Bn k x) (hl : xs.length < 100) : Row k (xs ++ [x]) := by
  refine ⟨fun z hz => ?_, by simp; omega⟩
  rcases List.mem_append.mp hz with hz | hz
  · exact h.1 z hz
  · simp at hz
    subst hz
    exact hx
end Rw
end PRwFar
section PRwMin
set_option autoImplicit false
set_option linter.all false
set_option maxRecDepth 100000
/-! RwMin: the least of some fractions, the first such. -/
namespace Rw
section
variable {π : Type}
def minStep (b : Option ((Int × Int) × π)) (x : (Int × Int) × π) : Option ((Int × Int) × π) := match b with
  | none => some x
  | some g => if lessZ x.1 g.1 then some x else some g
def minOf (L : List ((Int × Int) × π)) : Option ((Int × Int) × π) := L.foldl minStep none
theorem less_trans {a b c : Int × Int} (ha : 0 < a.2) (hb : 0 < b.2) (hc : 0 < c.2) (h1 : lessZ a b = true) (h2 : lessZ b c = true) : lessZ a c = true := by
  rw [lessZ_iff] at *
  have e1 : a.1 * b.2 * c.2 < b.1 * a.2 * c.2 := Int.mul_lt_mul_of_pos_right h1 hc
  have e2 : b.1 * c.2 * a.2 < c.1 * b.2 * a.2 := Int.mul_lt_mul_of_pos_right h2 ha
  have x1 : b.1 * a.2 * c.2 = b.1 * c.2 * a.2 := by ac_rfl
  have x2 : a.1 * b.2 * c.2 = a.1 * c.2 * b.2 := by ac_rfl
  have x3 : c.1 * b.2 * a.2 = c.1 * a.2 * b.2 := by ac_rfl
  refine Int.lt_of_mul_lt_mul_right (a := b.2) ?_ (Int.le_of_lt hb)
  omega
/-- a below b, c not below b: a below c -/
theorem less_of_not {a b c : Int × Int} (ha : 0 < a.2) (hb : 0 < b.2) (hc : 0 < c.2) (h1 : lessZ a b = true) (h2 : lessZ c b = false) : lessZ a c = true := by
  rw [lessZ_iff] at *
  have h2' : ¬ (c.1 * b.2 < b.1 * c.2) := by rw [← lessZ_iff, h2]; simp
  have e1 : a.1 * b.2 * c.2 < b.1 * a.2 * c.2 := Int.mul_lt_mul_of_pos_right h1 hc
  have e2 : b.1 * c.2 * a.2 ≤ c.1 * b.2 * a.2 := Int.mul_le_mul_of_nonneg_right (by omega) (Int.le_of_lt ha)
  have x1 : b.1 * a.2 * c.2 = b.1 * c.2 * a.2 := by ac_rfl
  have x2 : a.1 * b.2 * c.2 = a.1 * c.2 * b.2 := by ac_rfl
  have x3 : c.1 * b.2 * a.2 = c.1 * a.2 * b.2 := by ac_rfl
  refine Int.lt_of_mul_lt_mul_right (a := b.2) ?_ (Int.le_of_lt hb)
  omega
theorem less_asymm {a b : Int × Int} (h : lessZ a b = true) : lessZ b a = false := by
  rw [lessZ_iff] at h
  rw [← Bool.not_eq_true, lessZ_iff]
  omega
/-- a not below b, b not below c: a not below c -/
theorem nless_trans {a b c : Int × Int} (ha : 0 < a.2) (hb : 0 < b.2) (hc : 0 < c.2) (h1 : lessZ a b = false) (h2 : lessZ b c = false) : lessZ a c = false := by
  cases h : lessZ a c with
  | false => rfl
  | true =>
    have := less_of_not ha hc hb h h2
    rw [this] at h1
    exact h1
/-- x is the first least of L -/
def IsMin (L : List ((Int × Int) × π)) (x : (Int × Int) × π) : Prop := ∃ L1 L2, L = L1 ++ x :: L2 ∧ (∀ y ∈ L1, lessZ x.1 y.1 = true) ∧ (∀ y ∈ L2, lessZ y.1 x.1 = false)
theorem minFrom {L : List ((Int × Int) × π)} : ∀ {g : (Int × Int) × π}, 0 < g.1.2 → (∀ y ∈ L, 0 < y.1.2) → ∃ x, L.foldl minStep (some g) = some x ∧ IsMin (g :: L) x := by
  induction L with
  | nil => intro g _ _; exact ⟨g, rfl, [], [], rfl, by simp, by simp⟩
  | cons y L ih =>
    intro g hg hp
    have hy := hp y (by simp)
    simp only [List.foldl_cons, minStep]
    by_cases hl : lessZ y.1 g.1 = true
    · rw [if_pos hl]
      obtain ⟨x, e, L1, L2, eL, h1, h2⟩ := ih hy fun z hz => hp z (by simp [hz])
      refine ⟨x, e, g :: L1, L2, by rw [eL]; rfl, ?_, h2⟩
      intro z hz
      rcases List.mem_cons.mp hz with rfl | hz
      · cases L1 with
        | nil =>
          simp only [List.nil_append, List.cons.injEq] at eL
          rw [← eL.1]
          exact hl
        | cons w L1 =>
          simp only [List.cons_append, List.cons.injEq] at eL
          have hx : 0 < x.1.2 := by
            have : x ∈ L := by rw [eL.2]; simp
            exact hp x (by simp [this])
          have := h1 w (by simp)
          rw [← eL.1] at this
          exact less_trans hx hy hg this hl
      · exact h1 z hz
    · rw [if_neg hl]
      have hl' : lessZ y.1 g.1 = false := by simpa using hl
      obtain ⟨x, e, L1, L2, eL, h1, h2⟩ := ih hg fun z hz => hp z (by simp [hz])
      refine ⟨x, e, ?_⟩
      cases L1 with
      | nil =>
        simp only [List.nil_append, List.cons.injEq] at eL
        refine ⟨[], y :: L, by rw [← eL.1]; rfl, by simp, ?_⟩
        intro z hz
        rcases List.mem_cons.mp hz with rfl | hz
        · rw [← eL.1]
          exact hl'
        · rw [eL.2] at hz
          exact h2 z hz
      | cons w L1 =>
        simp only [List.cons_append, List.cons.injEq] at eL
        refine ⟨g :: y :: L1, L2, by rw [eL.2]; rfl, ?_, h2⟩
        have hx : 0 < x.1.2 := by
          have : x ∈ L := by rw [eL.2]; simp
          exact hp x (by simp [this])
        have hxg := h1 w (by simp)
        rw [← eL.1] at hxg
        intro z hz
        rcases List.mem_cons.mp hz with rfl | hz
        · exact hxg
        · rcases List.mem_cons.mp hz with rfl | hz
          · exact less_of_not hx hg hy hxg hl'
          · exact h1 z (by simp [hz])
theorem minOf_none {L : List ((Int × Int) × π)} (hp : ∀ y ∈ L, 0 < y.1.2) : minOf L = none ↔ L = [] := by
  cases L with
  | nil => simp [minOf]
  | cons y L =>
    obtain ⟨x, e, _⟩ := minFrom (L := L) (hp y (by simp)) fun z hz => hp z (by simp [hz])
    have : minOf (y :: L) = some x := e
    simp [this]
theorem minOf_some {L : List ((Int × Int) × π)} {x : (Int × Int) × π} (hp : ∀ y ∈ L, 0 < y.1.2) (h : minOf L = some x) : IsMin L x := by
  cases L with
  | nil => cases h
  | cons y L =>
    obtain ⟨x', e, h'⟩ := minFrom (L := L) (hp y (by simp)) fun z hz => hp z (by simp [hz])
    have e' : minOf (y :: L) = some x' := e
    rw [e'] at h
    cases h
    exact h'
theorem IsMin.mem {L : List ((Int × Int) × π)} {x : (Int × Int) × π} (h : IsMin L x) : x ∈ L := by
  obtain ⟨L1, L2, rfl, _⟩ := h
  simp
theorem IsMin.le {L : List ((Int × Int) × π)} {x y : (Int × Int) × π} (h : IsMin L x) (hy : y ∈ L) : lessZ y.1 x.1 = false := by
  obtain ⟨L1, L2, rfl, h1, h2⟩ := h
  rcases List.mem_append.mp hy with hy | hy
  · exact less_asymm (h1 y hy)
  · rcases List.mem_cons.mp hy with rfl | hy
    · exact lessZ_irr
    · exact h2 y hy
end
/-! ### the nearest two -/
def bestP : Option ((Int × Int) × (Nat × Nat)) → D
  | none => .non
  | some (f, p, q) => .tup [frD f, .int p, .int q]
theorem bestP_shp {b : Option ((Int × Int) × (Nat × Nat))} {n : Nat} : (bestP b).shp (n + 2) = true := by
  cases b with
  | none => rfl
  | some x => simp [bestP, D.shp, frD]
/-- the twos that are apart, in order -/
def candP (kd : Kd) (ss : List (List Int)) (gap : Nat) (fr : List Nat) : List ((Int × Int) × (Nat × Nat)) := fr.flatMap fun p => fr.filterMap fun q => if p + gap ≤ q then some (farAt kd ss p q, p, q) else none
def pairZ (kd : Kd) (ss : List (List Int)) (gap : Nat) (fr : List Nat) : Option ((Int × Int) × (Nat × Nat)) := minOf (candP kd ss gap fr)
def stepP (kd : Kd) (ss : List (List Int)) (gap p : Nat) (b : Option ((Int × Int) × (Nat × Nat))) (q : Nat) : Option ((Int × Int) × (Nat × Nat)) := if p + gap ≤ q then minStep b (farAt kd ss p q, p, q) else b
theorem fold_in {kd : Kd} {ss : List (List Int)} {gap p : Nat} {fr : List Nat} {b : Option ((Int × Int) × (Nat × Nat))} : fr.foldl (stepP kd ss gap p) b = (fr.filterMap fun q => if p + gap ≤ q then some (farAt kd ss p q, p, q) else none).foldl minStep b := by
  induction fr generalizing b with
  | nil => rfl
  | cons q fr ih =>
    simp only [List.foldl_cons, List.filterMap_cons, stepP]
    by_cases h : p + gap ≤ q
    · simp only [h, if_true, List.foldl_cons]
      exact ih
    · simp only [h, if_false]
      exact ih
theorem pairZ_fold {kd : Kd} {ss : List (List Int)} {gap : Nat} {fr : List Nat} : pairZ kd ss gap fr = fr.foldl (fun b p => fr.foldl (stepP kd ss gap p) b) none := by
  unfold pairZ minOf candP
  have : ∀ (l : List Nat) (b : Option ((Int × Int) × (Nat × Nat))), (l.flatMap fun p => fr.filterMap fun q => if p + gap ≤ q then some (farAt kd ss p q, p, q) else none).foldl minStep b = l.foldl (fun b p => fr.foldl (stepP kd ss gap p) b) b := by
    intro l
    induction l with
    | nil => intro b; rfl
    | cons p l ih =>
      intro b
      rw [List.flatMap_cons, List.foldl_append, ih, List.foldl_cons, fold_in]
  exact this fr none
/-- what the best so far has -/
def BestOk (k : Nat) (b : Option ((Int × Int) × (Nat × Nat))) : Prop := ∀ x, b = some x → Bn (4 * k + 11) x.1.1 ∧ Bn (4 * k + 11) x.1.2
theorem stepP_ok {k : Nat} {kd : Kd} {ss : List (List Int)} {gap p q : Nat} {b : Option ((Int × Int) × (Nat × Nat))} (hs : Fine k ss) (hp : p < ss.length) (hq : q < ss.length) (h : BestOk k b) : BestOk k (stepP kd ss gap p b q) := by
  have f := farAt_bn kd hs hp hq
  intro x e
  unfold stepP at e
  split at e
  · unfold minStep at e
    split at e
    · cases e
      exact f
    · split at e
      · cases e
        exact f
      · cases e
        exact h _ rfl
  · exact h x e
theorem candP_mem {kd : Kd} {ss : List (List Int)} {gap : Nat} {fr : List Nat} {x : (Int × Int) × (Nat × Nat)} : x ∈ candP kd ss gap fr ↔ x.2.1 ∈ fr ∧ x.2.2 ∈ fr ∧ x.2.1 + gap ≤ x.2.2 ∧ x.1 = farAt kd ss x.2.1 x.2.2 := by
  unfold candP
  rw [List.mem_flatMap]
  constructor
  · rintro ⟨p, hp, h⟩
    obtain ⟨q, hq, e⟩ := List.mem_filterMap.mp h
    split at e
    · cases e
      exact ⟨hp, hq, by assumption, rfl⟩
    · cases e
  · rintro ⟨hp, hq, hg, e⟩
    refine ⟨x.2.1, hp, List.mem_filterMap.mpr ⟨x.2.2, hq, ?_⟩⟩
    rw [if_pos hg, ← e]
theorem candP_pos {kd : Kd} {ss : List (List Int)} {gap : Nat} {fr : List Nat} (hs : ∀ s ∈ ss, 0 < s.length) (hf : ∀ p ∈ fr, p < ss.length) : ∀ y ∈ candP kd ss gap fr, 0 < y.1.2 := by
  intro y hy
  obtain ⟨h1, h2, h3, h4⟩ := candP_mem.mp hy
  rw [h4]
  exact farZ_pos kd (hs _ (getD_mem (hf _ h1)))
/-- a row grown by one: the nearest two are no farther -/
theorem pair_grown {kd : Kd} {xs : List Int} {x : Int} {gap l : Nat} (hl : 0 < l) {f : Int × Int} {p q : Nat}
    (h : pairZ kd (stretchesZ xs l) gap (List.range (stretchesZ xs l).length) = some (f, p, q)) :
    ∃ f' p' q', pairZ kd (stretchesZ (xs ++ [x]) l) gap (List.range (stretchesZ (xs ++ [x]) l).length) = some (f', p', q') ∧ lessZ f f' = false := by
  have pos : ∀ xs : List Int, ∀ s ∈ stretchesZ xs l, 0 < s.length := by
    intro xs s hs
    obtain ⟨p, hp, rfl⟩ := List.mem_map.mp hs
    have := List.mem_range.mp hp
    rw [cutZ_len (by omega)]
    exact hl
  have rg : ∀ n : Nat, ∀ p ∈ List.range n, p < n := fun n p hp => List.mem_range.mp hp
  have m := minOf_some (candP_pos (pos xs) (rg _)) h
  obtain ⟨h1, h2, h3, h4⟩ := candP_mem.mp m.mem
  simp only [List.mem_range, stretches_len] at h1 h2
  have hm : (farAt kd (stretchesZ (xs ++ [x]) l) p q, p, q) ∈ candP kd (stretchesZ (xs ++ [x]) l) gap (List.range (stretchesZ (xs ++ [x]) l).length) := by
    refine candP_mem.mpr ⟨?_, ?_, h3, rfl⟩
    · simp [stretches_len]; omega
    · simp [stretches_len]; omega
  have ef : farAt kd (stretchesZ (xs ++ [x]) l) p q = f := by
    simp only at h4
    rw [h4]
    unfold farAt
    rw [nth_stretch (by simp; omega), nth_stretch (by simp; omega), nth_stretch h1, nth_stretch h2, cut_app (by omega), cut_app (by omega)]
  cases e : pairZ kd (stretchesZ (xs ++ [x]) l) gap (List.range (stretchesZ (xs ++ [x]) l).length) with
  | none =>
    have := (minOf_none (candP_pos (pos _) (rg _))).mp e
    rw [this] at hm
    cases hm
  | some y =>
    obtain ⟨f', p', q'⟩ := y
    refine ⟨f', p', q', rfl, ?_⟩
    have := (minOf_some (candP_pos (pos _) (rg _)) e).le hm
    rw [ef] at this
    exact this
/-- a row without its first: the nearest of a stretch is no nearer -/
theorem near_tail {kd : Kd} {xs : List Int} {gap l p r : Nat} {f : Int × Int} (hl : 0 < l) (hp : p + 1 < xs.length + 1 - l) (h : nearZ kd (stretchesZ (xs.drop 1) l) gap p = some (f, r)) :
    ∃ f' r', nearZ kd (stretchesZ xs l) gap (p + 1) = some (f', r') ∧ lessZ f f' = false := by
  have pos : ∀ xs : List Int, ∀ s ∈ stretchesZ xs l, 0 < s.length := by
    intro xs s hs
    obtain ⟨p, hp, rfl⟩ := List.mem_map.mp hs
    have := List.mem_range.mp hp
    rw [cutZ_len (by omega)]
    exact hl
  have en : ∀ q, q + 1 < xs.length + 1 - l → nthZ (stretchesZ (xs.drop 1) l) q = nthZ (stretchesZ xs l) (q + 1) := by
    intro q hq
    rw [nth_stretch (by simp; omega), nth_stretch hq]
    unfold cutZ
    rw [List.drop_drop, Nat.add_comm]
  have sp := nearTo_spec (kd := kd) (gap := gap) (p := p) (pos (xs.drop 1)) (by rw [stretches_len]; simp; omega) (Nat.le_refl _)
  obtain ⟨⟨a1, a2, a3⟩, _⟩ := sp.2 f r h
  rw [stretches_len] at a1
  simp only [List.length_drop] at a1
  have sp' := nearTo_spec (kd := kd) (gap := gap) (p := p + 1) (pos xs) (by rw [stretches_len]; omega) (Nat.le_refl _)
  have ap : Apart gap (p + 1) (r + 1) := by unfold Apart at a2 ⊢; omega
  have hr : r + 1 < (stretchesZ xs l).length := by rw [stretches_len]; omega
  cases e : nearZ kd (stretchesZ xs l) gap (p + 1) with
  | none => exact absurd ap (sp'.1 e _ hr)
  | some y =>
    obtain ⟨f', r'⟩ := y
    refine ⟨f', r', rfl, ?_⟩
    have := (sp'.2 f' r' e).2 (r + 1) hr ap
    rw [a3]
    unfold farAt at this ⊢
    rw [en p hp, en r (by omega)]
    exact this
theorem zipD_at {xs ys : List D} {i : Nat} {z : D} : (zipD xs ys)[i]? = some z ↔ ∃ a b, xs[i]? = some a ∧ ys[i]? = some b ∧ z = .tup [a, b] := by
  induction xs generalizing ys i with
  | nil => simp [zipD]
  | cons x xs ih =>
    cases ys with
    | nil => simp [zipD]
    | cons y ys =>
      cases i with
      | zero => simp [zipD, eq_comm]
      | succ i => simp [zipD, ih]
/-! ### places still free -/
def natsD (fr : List Nat) : List D := fr.map fun p : Nat => .int p
def apartB (gap p q : Nat) : Bool := decide (gap ≤ (q - p) + (p - q))
def freeZ (gap : Nat) (fr pl : List Nat) : List Nat := fr.filter fun p => pl.all fun q => apartB gap q p
theorem fm_filter {fr : List Nat} {c : Nat → Bool} : (fr.filterMap fun p : Nat => if c p = true then some (D.int p) else none) = natsD (fr.filter c) := by
  induction fr with
  | nil => rfl
  | cons p fr ih =>
    simp only [List.filterMap_cons, List.filter_cons]
    cases h : c p <;> simp [ih, natsD]
@[simp] theorem blsD_map {bs : List Bool} : blsD (bs.map D.bl) = some bs := by
  induction bs with
  | nil => rfl
  | cons n ns ih => simp [blsD, ih]
theorem blsD_mapf {α : Type} {l : List α} {g : α → Bool} : blsD (l.map fun a => D.bl (g a)) = some (l.map g) := by
  have : (l.map fun a => D.bl (g a)) = (l.map g).map D.bl := by simp
  rw [this, blsD_map]
theorem ok_allf {M : DSt} {P : Dv × DSt → Prop} {α : Type} {l : List α} {g : α → Bool} : Ok (oAll [.d (.lst (l.map fun a => D.bl (g a)))] M) P ↔ P (.d (.bl (l.all g)), M) := by
  simp only [oAll, lv_lst, blsD_mapf, ok_some]
  have : (l.map g).all id = l.all g := by simp [List.all_map, Function.comp_def]
  rw [this]
theorem freeZ_nil {gap : Nat} {fr : List Nat} : freeZ gap fr [] = fr := by simp [freeZ]
theorem freeZ_cons {gap q : Nat} {fr pl : List Nat} : freeZ gap fr (q :: pl) = freeZ gap (fr.filter fun p => apartB gap q p) pl := by
  simp [freeZ, List.filter_filter]
  congr 1
  funext p
  rw [Bool.and_comm]
theorem freeZ_sub {gap p : Nat} {fr pl : List Nat} (h : p ∈ freeZ gap fr pl) : p ∈ fr := (List.mem_filter.mp h).1
theorem freeZ_len {gap : Nat} {fr pl : List Nat} : (freeZ gap fr pl).length ≤ fr.length := List.length_filter_le ..
/-! ### the loneliest -/
section
variable {π : Type}
def maxStep (b : Option ((Int × Int) × π)) (x : (Int × Int) × π) : Option ((Int × Int) × π) := match b with
  | none => some x
  | some g => if lessZ g.1 x.1 then some x else some g
end
def rowAt (rows : List (Option ((Int × Int) × Nat))) (p : Nat) : Option ((Int × Int) × Nat) := rows.getD p none
def loneStep (rows : List (Option ((Int × Int) × Nat))) (b : Option ((Int × Int) × (Nat × Nat))) (p : Nat) : Option ((Int × Int) × (Nat × Nat)) := match rowAt rows p with
  | none => b
  | some (f, r) => maxStep b (f, p, r)
def loneZ (rows : List (Option ((Int × Int) × Nat))) (fr : List Nat) : Option ((Int × Int) × (Nat × Nat)) := fr.foldl (loneStep rows) none
def RowsOk (j : Nat) (rows : List (Option ((Int × Int) × Nat))) : Prop := ∀ p f r, rowAt rows p = some (f, r) → Bn j f.1 ∧ Bn j f.2
def BestJ (j : Nat) (b : Option ((Int × Int) × (Nat × Nat))) : Prop := ∀ x, b = some x → Bn j x.1.1 ∧ Bn j x.1.2
theorem loneStep_ok {j : Nat} {rows : List (Option ((Int × Int) × Nat))} {b : Option ((Int × Int) × (Nat × Nat))} {p : Nat} (hr : RowsOk j rows) (h : BestJ j b) : BestJ j (loneStep rows b p) := by
  intro x e
  unfold loneStep at e
  split at e
  · exact h x e
  · rename_i f r e'
    have hf := hr p f r e'
    unfold maxStep at e
    split at e
    · cases e
      exact hf
    · split at e
      · cases e
        exact hf
      · cases e
        exact h _ rfl
theorem rows_at {rows : List (Option ((Int × Int) × Nat))} {p : Nat} (h : p < rows.length) : (rows.map bestD)[p]? = some (bestD (rowAt rows p)) := by
  simp [rowAt, List.getElem?_map, List.getElem?_eq_getElem h, List.getD_eq_getElem?_getD]
/-! ### one after the other -/
def runZ {τ : Type} (pick : List Nat → Option τ) (cut : List Nat → τ → List Nat) : Nat → List Nat → List τ
  | 0, _ => []
  | n + 1, fr => match pick fr with
    | none => []
    | some x => x :: runZ pick cut n (cut fr x)
theorem runZ_len {τ : Type} {pick : List Nat → Option τ} {cut : List Nat → τ → List Nat} {n : Nat} {fr : List Nat} : (runZ pick cut n fr).length ≤ n := by
  induction n generalizing fr with
  | zero => simp [runZ]
  | succ n ih =>
    unfold runZ
    split
    · simp
    · simp
      exact ih
@[simp ↓] theorem ok_append {M : DSt} {n : Nat} {x : D} {P : Dv × DSt → Prop} : Ok (mAppend (.c n) [.d x] M) P ↔ Ok (cel M n) fun xs => xs.length < big ∧ P (.d .non, M.set n (some (xs ++ [x]))) := by
  simp only [mAppend, cel]
  cases (M[n]?).join <;> simp
@[simp ↓] theorem ok_clear {M : DSt} {n : Nat} {P : Dv × DSt → Prop} : Ok (mClear (.c n) [] M) P ↔ Ok (cel M n) fun _ => P (.d .non, M.set n (some [])) := by
  simp only [mClear, cel]
  cases (M[n]?).join <;> simp
/-! ### lowest terms -/
theorem madeZ_low {t b : Int} (h : b ≠ 0) : Int.gcd (madeZ t b).1 (madeZ t b).2 = 1 := by
  have hg := gcd_pos (t := t) h
  have e : Int.gcd (t.fdiv (Int.gcd t b)) (b.fdiv (Int.gcd t b)) = 1 := by
    rw [Int.fdiv_eq_ediv_of_nonneg _ (by omega), Int.fdiv_eq_ediv_of_nonneg _ (by omega)]
    exact Int.gcd_ediv_gcd_ediv_gcd (by omega)
  obtain ⟨c, hc⟩ := gcd_dvd_r t b
  obtain ⟨d, hd⟩ := gcd_dvd_l t b
  unfold madeZ signG
  simp only
  generalize ((Int.gcd t b : Nat) : Int) = G at *
  subst hc hd
  have e1 : (G * c).fdiv G = c := Int.mul_fdiv_cancel_left _ (by omega)
  have e2 : (G * d).fdiv G = d := Int.mul_fdiv_cancel_left _ (by omega)
  have e3 : (G * c).fdiv (-G) = -c := by rw [show G * c = -G * -c by rw [Int.neg_mul_neg], Int.mul_fdiv_cancel_left _ (by omega)]
  have e4 : (G * d).fdiv (-G) = -d := by rw [show G * d = -G * -d by rw [Int.neg_mul_neg], Int.mul_fdiv_cancel_left _ (by omega)]
  rw [e1, e2] at e
  split
  · rw [e3, e4, Int.gcd_neg, Int.neg_gcd]
    exact e
  · rw [e1, e2]
    exact e
theorem farZ_low {xs ys : List Int} (kd : Kd) (h : 0 < xs.length) : Int.gcd (farZ kd xs ys).1 (farZ kd xs ys).2 = 1 := by
  cases kd with
  | pl => exact madeZ_low (by omega)
  | mo =>
    have := Int.mul_pos (show (0 : Int) < xs.length by omega) (show (0 : Int) < xs.length by omega)
    exact madeZ_low (by omega)
  | sh =>
    rw [show farZ .sh xs ys = if unevenZ xs = 0 ∨ unevenZ ys = 0 then (if unevenZ xs = unevenZ ys then (0, 1) else (1, 1)) else madeZ (unevenZ xs * unevenZ ys - bothZ xs ys * (if bothZ xs ys < 0 then -bothZ xs ys else bothZ xs ys)) (unevenZ xs * unevenZ ys) from rfl]
    by_cases h1 : unevenZ xs = 0 ∨ unevenZ ys = 0
    · rw [if_pos h1]
      split <;> decide
    · rw [if_neg h1]
      exact madeZ_low (Int.mul_ne_zero (fun e => h1 (.inl e)) (fun e => h1 (.inr e)))
/-- a fraction that is told as it should be -/
def Low (f : Int × Int) : Prop := 0 < f.2 ∧ Int.gcd f.1 f.2 = 1
theorem farAt_low {kd : Kd} {ss : List (List Int)} {p q : Nat} (hs : ∀ s ∈ ss, 0 < s.length) (hp : p < ss.length) : Low (farAt kd ss p q) := ⟨farZ_pos kd (hs _ (getD_mem hp)), farZ_low kd (hs _ (getD_mem hp))⟩
theorem tab_at {kd : Kd} {xs : List Int} {gap l p : Nat} {y : (Int × Int) × Nat} (h : rowAt (tableZ kd xs gap l) p = some y) : p < xs.length + 1 - l ∧ nearZ kd (stretchesZ xs l) gap p = some y := by
  unfold rowAt at h
  rw [List.getD_eq_getElem?_getD] at h
  by_cases hp : p < xs.length + 1 - l
  · refine ⟨hp, ?_⟩
    simp only [tableZ, List.getElem?_map, stretches_len, List.getElem?_range hp] at h
    exact h
  · rw [List.getElem?_eq_none (by rw [tableZ_len]; omega)] at h
    cases h
theorem tab_ok {k : Nat} {kd : Kd} {xs : List Int} {gap l : Nat} (hx : Row k xs) (hl : 0 < l) : RowsOk (4 * k + 11) (tableZ kd xs gap l) := by
  intro p f r h
  obtain ⟨hp, e⟩ := tab_at h
  exact nearTo_bn kd (stretches_fine hx hl) (by rw [stretches_len]; exact hp) (Nat.le_refl _) e
theorem tab_low {k : Nat} {kd : Kd} {xs : List Int} {gap l p : Nat} {f : Int × Int} {r : Nat} (hx : Row k xs) (hl : 0 < l) (h : rowAt (tableZ kd xs gap l) p = some (f, r)) : Low f := by
  obtain ⟨hp, e⟩ := tab_at h
  have hs := stretches_fine hx hl
  have pos : ∀ s ∈ stretchesZ xs l, 0 < s.length := fun s h => (hs.1 s h).2
  obtain ⟨⟨a1, a2, a3⟩, _⟩ := (nearTo_spec (kd := kd) (gap := gap) (p := p) pos (by rw [stretches_len]; exact hp) (Nat.le_refl _)).2 f r e
  rw [a3]
  exact farAt_low pos (by rw [stretches_len]; exact hp)
theorem lone_low {rows : List (Option ((Int × Int) × Nat))} (hr : ∀ p f r, rowAt rows p = some (f, r) → Low f) : ∀ (fr : List Nat) (b : Option ((Int × Int) × (Nat × Nat))), (∀ x, b = some x → Low x.1) → ∀ x, fr.foldl (loneStep rows) b = some x → Low x.1
  | [], b, h, x, e => h x e
  | p :: fr, b, h, x, e => by
    refine lone_low hr fr (loneStep rows b p) ?_ x e
    intro y ey
    unfold loneStep at ey
    split at ey
    · exact h y ey
    · rename_i f r e'
      unfold maxStep at ey
      split at ey
      · cases ey
        exact hr p f r e'
      · split at ey
        · cases ey
          exact hr p f r e'
        · cases ey
          exact h _ rfl
theorem runZ_all {τ : Type} {pick : List Nat → Option τ} {cut : List Nat → τ → List Nat} {Q : τ → Prop} (h : ∀ fr x, pick fr = some x → Q x) : ∀ {n : Nat} {fr : List Nat}, ∀ x ∈ runZ pick cut n fr, Q x
  | 0, fr, x, hx => by cases hx
  | n + 1, fr, x, hx => by
    unfold runZ at hx
    split at hx
    · cases hx
    · rename_i y e
      rcases List.mem_cons.mp hx with rfl | hx
      · exact h fr x e
      · exact runZ_all h x hx
theorem ok_isiC {T : String} {M : DSt} {n : Nat} {xs : List D} {P : Dv × DSt → Prop} (h : M[n]? = some (some xs)) : Ok (oIsi T [.c n, .d (.ty T)] M) P ↔ P (.d (.bl (subTy "list" T)), M) := by
  simp [oIsi, dv, h, D.tyN]
theorem ok_neCSame {M : DSt} {n : Nat} {xs : List D} {P : Dv × DSt → Prop} (h : M[n]? = some (some xs)) (hx : (D.lst xs).shp 9 = true) : Ok (oNe (.c n) (.d (.lst xs)) M) P ↔ P (.d (.bl false), M) := by
  have := eqv_refl 9 _ hx
  simp [oNe, dv, h, hx, this]
theorem ok_eqCSame {M : DSt} {n : Nat} {xs : List D} {P : Dv × DSt → Prop} (h : M[n]? = some (some xs)) (hx : (D.lst xs).shp 9 = true) : Ok (oEq (.c n) (.d (.lst xs)) M) P ↔ P (.d (.bl true), M) := by
  have := eqv_refl 9 _ hx
  simp [oEq, dv, h, hx, this]
theorem svOk {M : DSt} {n : Nat} {xs : List D} (h : M[n]? = some (some xs)) (P : List D → Prop) : Ok (sv M (.c n)) P ↔ P xs := by
  simp [h]
theorem ok_frz' {b : Nat} {M : DSt} {v : Dv} {xs : List D} {P : Dv × DSt → Prop} (hv : v = .c b) (h : M.length = b) : Ok (frz b (v, M ++ [some xs])) P ↔ P (.d (.lst xs), M) := by
  subst hv
  exact ok_frz h
theorem fm_none {α β : Type} {l : List α} : l.filterMap (fun _ => (none : Option β)) = [] := by
  induction l with
  | nil => rfl
  | cons a l ih => simp
end Rw
end PRwMin
section PRwSym
set_option autoImplicit false
set_option linter.all false
set_option maxRecDepth 100000
/-! RwSym: far is alike both ways; the first greatest; runs. -/
namespace Rw
theorem diff_neg {xs ys : List Int} : diffZ ys xs = (diffZ xs ys).map fun d => -d := by
  induction xs generalizing ys with
  | nil => cases ys <;> rfl
  | cons x xs ih =>
    cases ys with
    | nil => rfl
    | cons y ys =>
      have := ih (ys := ys)
      simp only [diffZ, List.zip_cons_cons, List.map_cons] at this ⊢
      rw [this]
      congr 1
      omega
theorem sqs_neg {xs : List Int} : ((xs.map fun d => -d).map fun d => d * d) = xs.map fun d => d * d := by
  rw [List.map_map]
  congr 1
  funext d
  exact Int.neg_mul_neg d d
theorem sum_neg {xs : List Int} : (xs.map fun d => -d).sum = -xs.sum := by
  induction xs with
  | nil => rfl
  | cons x xs ih => simp only [List.map_cons, List.sum_cons, ih]; omega
theorem uneven_neg {xs : List Int} : unevenZ (xs.map fun d => -d) = unevenZ xs := by
  unfold unevenZ
  rw [sqs_neg, sum_neg, List.length_map, Int.neg_mul_neg]
theorem dot_comm {xs ys : List Int} : dotZ ys xs = dotZ xs ys := by
  unfold dotZ
  congr 1
  induction xs generalizing ys with
  | nil => cases ys <;> rfl
  | cons x xs ih =>
    cases ys with
    | nil => rfl
    | cons y ys =>
      simp only [List.zip_cons_cons, List.map_cons, ih]
      rw [Int.mul_comm]
theorem both_comm {xs ys : List Int} (h : xs.length = ys.length) : bothZ ys xs = bothZ xs ys := by
  unfold bothZ
  rw [dot_comm, h, Int.mul_comm ys.sum]
theorem far_comm {xs ys : List Int} (kd : Kd) (h : xs.length = ys.length) : farZ kd ys xs = farZ kd xs ys := by
  cases kd with
  | pl =>
    show madeZ ((diffZ ys xs).map fun d => d * d).sum ys.length = madeZ ((diffZ xs ys).map fun d => d * d).sum xs.length
    rw [diff_neg, sqs_neg, h]
  | mo =>
    show madeZ (unevenZ (diffZ ys xs)) ((ys.length : Int) * ys.length) = madeZ (unevenZ (diffZ xs ys)) ((xs.length : Int) * xs.length)
    rw [diff_neg, uneven_neg, h]
  | sh =>
    show (if unevenZ ys = 0 ∨ unevenZ xs = 0 then (if unevenZ ys = unevenZ xs then (0, 1) else (1, 1)) else madeZ (unevenZ ys * unevenZ xs - bothZ ys xs * (if bothZ ys xs < 0 then -bothZ ys xs else bothZ ys xs)) (unevenZ ys * unevenZ xs))
      = (if unevenZ xs = 0 ∨ unevenZ ys = 0 then (if unevenZ xs = unevenZ ys then (0, 1) else (1, 1)) else madeZ (unevenZ xs * unevenZ ys - bothZ xs ys * (if bothZ xs ys < 0 then -bothZ xs ys else bothZ xs ys)) (unevenZ xs * unevenZ ys))
    rw [both_comm h, Int.mul_comm (unevenZ ys)]
    by_cases h1 : unevenZ xs = 0 ∨ unevenZ ys = 0
    · rw [if_pos h1, if_pos h1.symm]
      by_cases h2 : unevenZ xs = unevenZ ys
      · rw [if_pos h2, if_pos h2.symm]
      · rw [if_neg h2, if_neg (Ne.symm h2)]
    · rw [if_neg h1, if_neg fun h => h1 h.symm]
/-- all stretches are of one length -/
def Even (ss : List (List Int)) : Prop := ∃ l, ∀ s ∈ ss, s.length = l
theorem stretches_even {xs : List Int} {l : Nat} : Even (stretchesZ xs l) := by
  refine ⟨l, fun s hs => ?_⟩
  obtain ⟨p, hp, rfl⟩ := List.mem_map.mp hs
  have := List.mem_range.mp hp
  exact cutZ_len (by omega)
theorem farAt_comm {kd : Kd} {ss : List (List Int)} {p q : Nat} (he : Even ss) (hp : p < ss.length) (hq : q < ss.length) : farAt kd ss q p = farAt kd ss p q := by
  obtain ⟨l, hl⟩ := he
  unfold farAt
  exact far_comm kd (by rw [hl _ (getD_mem hp), hl _ (getD_mem hq)])
/-- neither below the other, both in lowest terms: one and the same -/
theorem low_same {a b : Int × Int} (ha : Low a) (hb : Low b) (h1 : lessZ a b = false) (h2 : lessZ b a = false) : a = b := by
  have h1' : ¬ (a.1 * b.2 < b.1 * a.2) := by rw [← lessZ_iff, h1]; simp
  have h2' : ¬ (b.1 * a.2 < a.1 * b.2) := by rw [← lessZ_iff, h2]; simp
  have e : a.1 * b.2 = b.1 * a.2 := by omega
  have cop : ∀ {x y z : Int}, Int.gcd x y = 1 → x ∣ y * z → x ∣ z := by
    intro x y z h hd
    rw [← Int.natAbs_dvd_natAbs] at hd ⊢
    rw [Int.natAbs_mul] at hd
    exact Nat.Coprime.dvd_of_dvd_mul_left h hd
  have d1 : a.2 ∣ b.2 := cop (y := a.1) (by rw [Int.gcd_comm]; exact ha.2) ⟨b.1, by rw [e, Int.mul_comm]⟩
  have d2 : b.2 ∣ a.2 := cop (y := b.1) (by rw [Int.gcd_comm]; exact hb.2) ⟨a.1, by rw [← e, Int.mul_comm]⟩
  have hq : a.2 = b.2 := Int.dvd_antisymm (Int.le_of_lt ha.1) (Int.le_of_lt hb.1) d1 d2
  have hp : a.1 = b.1 := by
    rw [hq] at e
    exact Int.eq_of_mul_eq_mul_right (by have := hb.1; omega) e
  exact Prod.ext hp hq
theorem runZ_take {τ : Type} {pick : List Nat → Option τ} {cut : List Nat → τ → List Nat} : ∀ {n m : Nat} {fr : List Nat}, n ≤ m → (runZ pick cut m fr).take n = runZ pick cut n fr
  | 0, m, fr, _ => by simp [runZ]
  | n + 1, 0, fr, h => by omega
  | n + 1, m + 1, fr, h => by
    unfold runZ
    cases pick fr with
    | none => simp
    | some x => simp [runZ_take (show n ≤ m by omega)]
/-! ### the first greatest -/
def candL (rows : List (Option ((Int × Int) × Nat))) (fr : List Nat) : List ((Int × Int) × (Nat × Nat)) := fr.filterMap fun p => (rowAt rows p).map fun x => (x.1, p, x.2)
theorem loneZ_fold {rows : List (Option ((Int × Int) × Nat))} {fr : List Nat} : loneZ rows fr = (candL rows fr).foldl maxStep none := by
  unfold loneZ candL
  have : ∀ (l : List Nat) (b : Option ((Int × Int) × (Nat × Nat))), l.foldl (loneStep rows) b = (l.filterMap fun p => (rowAt rows p).map fun x => (x.1, p, x.2)).foldl maxStep b := by
    intro l
    induction l with
    | nil => intro b; rfl
    | cons p l ih =>
      intro b
      rw [List.foldl_cons, ih, List.filterMap_cons]
      unfold loneStep
      cases h : rowAt rows p with
      | none => rfl
      | some x => obtain ⟨f, r⟩ := x; rfl
  exact this fr none
end Rw
end PRwSym
section PRwMore
set_option autoImplicit false
set_option linter.all false
set_option maxRecDepth 100000
/-! RwMore: further small things. -/
namespace Rw
theorem enumD_range {xs : List D} {g : Nat → D} (h : ∀ i, i < xs.length → xs[i]? = some (g i)) : enumD 0 xs = (List.range xs.length).map fun i => .tup [.int (i : Nat), g i] := by
  apply List.ext_getElem?
  intro i
  by_cases hi : i < xs.length
  · rw [List.getElem?_map, List.getElem?_range hi]
    exact enumD_at.mpr ⟨g i, h i hi, by simp⟩
  · rw [List.getElem?_eq_none (by rw [enumD_len]; omega), List.getElem?_eq_none (by simp; omega)]
/-- the three kinds -/
theorem kinds_at {i : Nat} {x : D} (hx : ([.str "plain", .str "moved", .str "shape"] : List D)[i]? = some x) : ∃ kd : Kd, x = kd.s := by
  have hm := List.mem_of_getElem? hx
  simp at hm
  rcases hm with rfl | rfl | rfl
  · exact ⟨.pl, rfl⟩
  · exact ⟨.mo, rfl⟩
  · exact ⟨.sh, rfl⟩
theorem kinds_mem {x : D} (hm : x ∈ ([.str "plain", .str "moved", .str "shape"] : List D)) : ∃ kd : Kd, x = kd.s := by
  simp at hm
  rcases hm with rfl | rfl | rfl
  · exact ⟨.pl, rfl⟩
  · exact ⟨.mo, rfl⟩
  · exact ⟨.sh, rfl⟩
section
variable {M : DSt} {c : Bool} {P : Dv × DSt → Prop}
@[simp ↓] theorem ok_oAdd_t {xs ys : List D} : Ok (oAdd c (.d (.tup xs)) (.d (.tup ys)) M) P ↔ (xs ≠ [] ∧ ys ≠ [] ∧ xs.length + ys.length ≤ big) ∧ P (.d (.tup (xs ++ ys)), M) := by
  rw [show oAdd c (.d (.tup xs)) (.d (.tup ys)) M = grd (xs ≠ [] ∧ ys ≠ [] ∧ xs.length + ys.length ≤ big) (some (.d (.tup (xs ++ ys)), M)) from rfl, ok_grd, ok_some]
@[simp ↓] theorem ok_oRev {xs : List D} : Ok (oRev c (.d (.lst xs)) M) P ↔ Ok (mkL c xs.reverse M) P := Iff.rfl
@[simp ↓] theorem ok_oList {xs : List D} : Ok (oList c [.d (.lst xs)] M) P ↔ Ok (mkL c xs M) P := Iff.rfl
end
theorem fdiv_s {x y : Int} (h : 0 ≤ y) : x.fdiv y = x / y := Int.fdiv_eq_ediv_of_nonneg _ h
theorem divOk_s {y : Int} (h : 0 < y) (h1 : y ≤ 1000000) : divOk y := divOk_bd 64 (A := 1000000) ⟨by omega, h1⟩ (by omega) (by decide) (by decide) (by decide)
theorem rowD_len {xs : List Int} : (xs.map D.int).length = xs.length := by simp
theorem row_rev {k : Nat} {xs : List Int} (h : Row k xs) : Row k xs.reverse := ⟨fun x hx => h.1 x (by simpa using hx), by simpa using h.2⟩
theorem row_cut {k : Nat} {xs : List Int} (h : Row k xs) (r : Nat) : Row k (xs.drop r ++ xs.take r) := by
  refine ⟨fun x hx => ?_, ?_⟩
  · rcases List.mem_append.mp hx with hx | hx
    · exact h.1 x (List.mem_of_mem_drop hx)
    · exact h.1 x (List.mem_of_mem_take hx)
  · have := h.2
    simp
    omega
theorem diff_range {xs ys : List Int} (h : xs.length = ys.length) : (List.range xs.length).map (fun i => D.int (xs.getD i 0 - ys.getD i 0)) = (diffZ xs ys).map D.int := by
  apply List.ext_getElem?
  intro i
  by_cases hi : i < xs.length
  · have hj : i < ys.length := by omega
    have hz : (xs.zip ys)[i]? = some (xs[i], ys[i]) := by rw [List.getElem?_zip_eq_some]; exact ⟨List.getElem?_eq_getElem hi, List.getElem?_eq_getElem hj⟩
    simp [diffZ, List.getElem?_range hi, List.getElem?_eq_getElem hi, List.getElem?_eq_getElem hj, hz]
  · rw [List.getElem?_eq_none (by simp; omega), List.getElem?_eq_none (by simp [diffZ]; omega)]
theorem dot_range {xs ys : List Int} (h : xs.length = ys.length) : (List.range xs.length).map (fun i => xs.getD i 0 * ys.getD i 0) = (xs.zip ys).map fun p => p.1 * p.2 := by
  apply List.ext_getElem?
  intro i
  by_cases hi : i < xs.length
  · have hj : i < ys.length := by omega
    have hz : (xs.zip ys)[i]? = some (xs[i], ys[i]) := by rw [List.getElem?_zip_eq_some]; exact ⟨List.getElem?_eq_getElem hi, List.getElem?_eq_getElem hj⟩
    simp [List.getElem?_range hi, List.getElem?_eq_getElem hi, List.getElem?_eq_getElem hj, hz]
  · rw [List.getElem?_eq_none (by simp; omega), List.getElem?_eq_none (by simp; omega)]
theorem ints_at {xs : List Int} {i : Nat} (h : i < xs.length) : (xs.map D.int)[i]? = some (.int (xs.getD i 0)) := by
  simp [List.getElem?_eq_getElem h]
theorem ints_mem {xs : List Int} {i : Nat} (h : i < xs.length) : xs.getD i 0 ∈ xs := by
  rw [List.getD_eq_getElem?_getD, List.getElem?_eq_getElem h]
  exact List.getElem_mem h
@[simp] theorem mulOk_litL {n : Nat} {y : Int} (h : n < 18446744073709551616) : mulOk (no_index (@OfNat.ofNat Int n _)) y := by
  have : (@OfNat.ofNat Int n _) = (n : Int) := rfl
  exact mulOk_l (by rw [this]; omega) (by rw [this]; omega)
@[simp] theorem mulOk_litR {n : Nat} {y : Int} (h : n < 18446744073709551616) : mulOk y (no_index (@OfNat.ofNat Int n _)) := by
  have : (@OfNat.ofNat Int n _) = (n : Int) := rfl
  exact mulOk_r (by rw [this]; omega) (by rw [this]; omega)
@[simp] theorem mulOk_litN {n : Nat} {y : Int} (h : n < 18446744073709551616) : mulOk y (-(no_index (@OfNat.ofNat Int n _))) := by
  have : (@OfNat.ofNat Int n _) = (n : Int) := rfl
  exact mulOk_r (by rw [this]; omega) (by rw [this]; omega)
@[simp] theorem divOk_lit {n : Nat} (h : 0 < n) (h1 : n < 18446744073709551616) : divOk (no_index (@OfNat.ofNat Int n _)) := by
  have e : (@OfNat.ofNat Int n _) = (n : Int) := rfl
  exact divOk_bd 64 (A := 18446744073709551615) (by rw [e]; exact ⟨by omega, by omega⟩) (by rw [e]; omega) (by decide) (by decide) (by decide)
@[simp] theorem powOk_lit {n k : Nat} (h : n < 18446744073709551616) (h1 : k ≤ 1000000) : powOk (no_index (@OfNat.ofNat Int n _)) (no_index (@OfNat.ofNat Int k _)) := by
  have e : (@OfNat.ofNat Int n _) = (n : Int) := rfl
  have e2 : (@OfNat.ofNat Int k _) = (k : Int) := rfl
  refine ⟨by rw [e2]; omega, by rw [e2]; omega, ?_⟩
  rw [e]
  simpa using h
end Rw
namespace Rw
theorem uneven_cons (x : Int) (xs : List Int) : unevenZ (x :: xs) = unevenZ xs + (xs.map fun y => (x - y) * (x - y)).sum := by
  have h : (xs.map fun y => (x - y) * (x - y)).sum = (xs.length : Int) * (x * x) - 2 * x * xs.sum + (xs.map fun y => y * y).sum := by
    induction xs with
    | nil => simp
    | cons y ys ih =>
      simp only [List.map_cons, List.sum_cons, List.length_cons, ih]
      push_cast
      grind
  unfold unevenZ
  simp only [List.map_cons, List.sum_cons, List.length_cons, h]
  push_cast
  grind
theorem sq_nn (x : Int) : 0 ≤ x * x := by
  by_cases h : 0 ≤ x
  · exact Int.mul_nonneg h h
  · have := Int.mul_nonneg (show 0 ≤ -x by omega) (show 0 ≤ -x by omega)
    rwa [Int.neg_mul_neg] at this
theorem sum_nn {xs : List Int} (h : ∀ x ∈ xs, 0 ≤ x) : 0 ≤ xs.sum := by
  induction xs with
  | nil => simp
  | cons x xs ih =>
    have a := h x (by simp)
    have b := ih fun y hy => h y (by simp [hy])
    rw [List.sum_cons]
    omega
theorem uneven_nn (xs : List Int) : 0 ≤ unevenZ xs := by
  induction xs with
  | nil => decide
  | cons x xs ih =>
    rw [uneven_cons]
    have : 0 ≤ (xs.map fun y => (x - y) * (x - y)).sum := sum_nn (by
      intro z hz
      obtain ⟨y, _, rfl⟩ := List.mem_map.mp hz
      exact sq_nn _)
    omega
theorem uneven_pos {xs : List Int} (h : ¬ unevenZ xs = 0) : 0 < unevenZ xs := by
  have := uneven_nn xs
  omega
/-- the nearest of some places, by a measure -/
def minBy (g : Nat → Int × Int) (fr : List Nat) : Option ((Int × Int) × Nat) := minOf (fr.map fun q => (g q, q))
theorem minBy_fold {g : Nat → Int × Int} {fr : List Nat} : minBy g fr = fr.foldl (fun b q => minStep b (g q, q)) none := by
  unfold minBy minOf
  rw [List.foldl_map]
def BestI (j : Nat) (b : Option ((Int × Int) × Nat)) : Prop := ∀ x, b = some x → Bn j x.1.1 ∧ Bn j x.1.2
theorem minStep_ok {j : Nat} {b : Option ((Int × Int) × Nat)} {f : Int × Int} {q : Nat} (hf : Bn j f.1 ∧ Bn j f.2) (h : BestI j b) : BestI j (minStep b (f, q)) := by
  intro x e
  unfold minStep at e
  split at e
  · cases e
    exact hf
  · split at e
    · cases e
      exact hf
    · cases e
      exact h _ rfl
theorem rowsD_enum {ss : List (List Int)} : enumD 0 (rowsD ss) = (List.range ss.length).map fun q => .tup [.int (q : Nat), rowD (nthZ ss q)] := by
  have := enumD_range (xs := rowsD ss) (g := fun q => rowD (nthZ ss q)) fun i hi => rowsD_at (by simpa [rowsD] using hi)
  rw [this]
  simp [rowsD]
theorem rowsD_len {ss : List (List Int)} : (rowsD ss).length = ss.length := by simp [rowsD]
end Rw
end PRwMore
section PRwPurse
set_option autoImplicit false
set_option linter.all false
set_option maxRecDepth 100000
/-! RwPurse: a purse of three ints: what is drawn by digits, the cell, how many draws there were (bounded by b). -/
namespace Rw
section
variable {b b' n : Nat} {M M' M'' M1 M2 : DSt}
def Pu (b n : Nat) (M : DSt) : Prop := ∃ a c k : Int, M[n]? = some (some [.int a, .int c, .int k]) ∧ 0 ≤ k ∧ k ≤ b
def Lu (b n : Nat) (M M' : DSt) : Prop := Pu b n M' ∧ ∃ x, M' = M.set n (some x)
theorem Pu.mono (h : Pu b n M) (l : b ≤ b') : Pu b' n M := by
  obtain ⟨a, c, k, e, h0, h1⟩ := h
  exact ⟨a, c, k, e, h0, by omega⟩
theorem Pu.lt (h : Pu b n M) : n < M.length := by
  obtain ⟨a, c, k, e, _⟩ := h
  exact (List.getElem?_eq_some_iff.mp e).1
theorem Lu.mono (h : Lu b n M M') (l : b ≤ b') : Lu b' n M M' := ⟨h.1.mono l, h.2⟩
theorem Pu.like (h : Pu b n M) : Lu b n M M := by
  refine ⟨h, ?_⟩
  obtain ⟨a, c, k, e, _⟩ := h
  obtain ⟨hn, e⟩ := List.getElem?_eq_some_iff.mp e
  exact ⟨_, by rw [← e, List.set_getElem_self]⟩
theorem Lu.len (h : Lu b n M M') : M'.length = M.length := by
  obtain ⟨_, x, rfl⟩ := h
  simp
theorem Lu.trans (h : Lu b n M M') (h' : Lu b' n M' M'') : Lu b' n M M'' := by
  obtain ⟨_, x, rfl⟩ := h
  obtain ⟨p, y, rfl⟩ := h'
  exact ⟨p, y, by rw [List.set_set]⟩
theorem Lu.at {c : Nat} (h : Lu b n M M') (hc : c ≠ n) : M'[c]? = M[c]? := by
  obtain ⟨_, x, rfl⟩ := h
  rw [List.getElem?_set_ne (Ne.symm hc)]
theorem Lu.take (h : Lu b n M M') : M'.take M.length = M' := List.take_of_length_le (by rw [h.len]; exact Nat.le_refl _)
/-- a store in which a def works -/
def Gu (b n : Nat) (M M1 : DSt) : Prop := n < M.length ∧ M.length ≤ M1.length ∧ Pu b n M1 ∧ ∃ x, M1.take M.length = M.set n (some x)
theorem Pu.grown (h : Pu b n M) : Gu b n M M := ⟨h.lt, Nat.le_refl _, h, by rw [List.take_of_length_le (Nat.le_refl _)]; exact h.like.2⟩
theorem Gu.mono (h : Gu b n M M1) (l : b ≤ b') : Gu b' n M M1 := ⟨h.1, h.2.1, h.2.2.1.mono l, h.2.2.2⟩
theorem Gu.draw (h : Gu b n M M1) (h' : Lu b' n M1 M2) : Gu b' n M M2 := by
  obtain ⟨h0, h1, h2, x, h3⟩ := h
  obtain ⟨p, y, rfl⟩ := h'
  refine ⟨h0, by simpa using h1, p, y, ?_⟩
  rw [List.take_set, h3, List.set_set]
theorem Gu.app (h : Gu b n M M1) (x : Option (List D)) : Gu b n M (M1 ++ [x]) := by
  obtain ⟨h0, h1, ⟨a, c, k, e, hk⟩, y, h3⟩ := h
  refine ⟨h0, by simp; omega, ⟨a, c, k, by rw [List.getElem?_append_left (by omega)]; exact e, hk⟩, y, ?_⟩
  rw [List.take_append_of_le_length h1]
  exact h3
theorem Gu.put {c : Nat} (h : Gu b n M M1) (hc : M.length ≤ c) (x : Option (List D)) : Gu b n M (M1.set c x) := by
  obtain ⟨h0, h1, ⟨a, d, k, e, hk⟩, y, h3⟩ := h
  refine ⟨h0, by simpa using h1, ⟨a, d, k, by rw [List.getElem?_set_ne (by omega)]; exact e, hk⟩, y, ?_⟩
  rw [List.take_set, List.set_eq_of_length_le (by simp; omega)]
  exact h3
theorem Gu.take (h : Gu b n M M1) : Lu b n M (M1.take M.length) := by
  obtain ⟨h0, h1, ⟨a, d, k, e, hk⟩, y, h3⟩ := h
  exact ⟨⟨a, d, k, by rw [List.getElem?_take, if_pos h0]; exact e, hk⟩, y, h3⟩
theorem Gu.pu (h : Gu b n M M1) : Pu b n M1 := h.2.2.1
def DrawnU (b n : Nat) (m : Int) (M : DSt) (p : Dv × DSt) : Prop := ∃ r : Nat, (r : Int) < m ∧ p.1 = .d (.int (r : Int)) ∧ Lu b n M p.2
/-- a drawn int within k figures -/
def DrawnV (k b n : Nat) (M : DSt) (p : Dv × DSt) : Prop := ∃ z : Int, Bn k z ∧ p.1 = .d (.int z) ∧ Lu b n M p.2
/-- a drawn row in a new cell -/
def RowU (k b n m : Nat) (M : DSt) (p : Dv × DSt) : Prop := ∃ (zs : List Int) (M' : DSt), Row k zs ∧ zs.length ≤ m ∧ Lu b n M M' ∧ p = (.c M.length, M' ++ [some (zs.map D.int)])
theorem RowU_fin {k m c : Nat} {zs : List Int} (hz : Row k zs) (hl : zs.length ≤ m) (hg : Gu b n M M1) (hc : M.length ≤ c) (e : M1[c]? = some (some (zs.map D.int))) : Ok (fin M.length (.c c) M1) (RowU k b n m M) :=
  (ok_finC hc e).mpr ⟨zs, _, hz, hl, hg.take, rfl⟩
end
/-- a comprehension that draws, turn by turn -/
theorem comp_turn {chk : DSt → Prop} {step : D → DSt → Option (Option D × DSt)} {P : List D × DSt → Prop} (R : D → Prop) : ∀ {xs : List D} {M : DSt} (I : Nat → DSt → Prop) (hc : ∀ i M, I i M → chk M), I 0 M →
    (∀ i x M, xs[i]? = some x → I i M → Ok (step x M) fun p => I (i + 1) p.2 ∧ ∃ y, p.1 = some y ∧ R y) → (∀ ys M, I xs.length M → ys.length = xs.length → (∀ y ∈ ys, R y) → P (ys, M)) → Ok (compL chk step xs M) P := by
  intro xs
  induction xs generalizing P with
  | nil =>
    intro M I hc hM h k
    simp only [compL, ok_grd, ok_some]
    exact ⟨hc 0 M hM, k [] M hM rfl (by simp)⟩
  | cons x xs ih =>
    intro M I hc hM h k
    obtain ⟨⟨o, M1⟩, e, hM1, y, rfl, hy⟩ := h 0 x M rfl hM
    have r := ih (P := fun q => P (y :: q.1, q.2)) (fun i => I (i + 1)) (fun i => hc (i + 1)) hM1 (fun i z M hz => h (i + 1) z M (by simpa using hz)) fun ys M2 h2 l a => k _ _ h2 (by simp [l]) (by
      intro z hz
      rcases List.mem_cons.mp hz with rfl | hz
      · exact hy
      · exact a z hz)
    simp only [compL, ok_grd]
    refine ⟨hc 0 M hM, ?_⟩
    obtain ⟨⟨ys, M2⟩, e2, hP⟩ := r
    simp only [e, e2, ok_some]
    exact hP
end Rw
end PRwPurse
section PRwGrp
set_option autoImplicit false
set_option linter.all false
set_option maxRecDepth 100000
/-! RwGrp: the least of groups is the least of their leasts. -/
namespace Rw
section
variable {π κ : Type}
theorem minStep_assoc {s : Option ((Int × Int) × π)} {y z : (Int × Int) × π} (hs : ∀ g, s = some g → 0 < g.1.2) (hy : 0 < y.1.2) (hz : 0 < z.1.2) :
    minStep (minStep s y) z = (match minStep (some y) z with | some w => minStep s w | none => s) := by
  cases s with
  | none =>
    simp only [minStep]
    split <;> rfl
  | some g =>
    have hg := hs g rfl
    simp only [minStep]
    cases h1 : lessZ y.1 g.1 with
    | true =>
      cases h2 : lessZ z.1 y.1 with
      | true => simp [h2, less_trans hz hy hg h2 h1]
      | false => simp [h2, h1]
    | false =>
      cases h2 : lessZ z.1 y.1 with
      | true => simp [h2]
      | false =>
        have := nless_trans hz hy hg h2 h1
        simp [h1, h2, this]
/-- a group's least, put to what there is -/
def joinB (s m : Option ((Int × Int) × π)) : Option ((Int × Int) × π) := match m with
  | none => s
  | some y => minStep s y
theorem minStep_pos {s : Option ((Int × Int) × π)} {y : (Int × Int) × π} (hs : ∀ g, s = some g → 0 < g.1.2) (hy : 0 < y.1.2) : ∀ g, minStep s y = some g → 0 < g.1.2 := by
  intro g e
  unfold minStep at e
  split at e
  · cases e
    exact hy
  · split at e
    · cases e
      exact hy
    · cases e
      exact hs _ rfl
theorem fold_pos {L : List ((Int × Int) × π)} {s : Option ((Int × Int) × π)} (hs : ∀ g, s = some g → 0 < g.1.2) (hL : ∀ y ∈ L, 0 < y.1.2) : ∀ g, L.foldl minStep s = some g → 0 < g.1.2 := by
  induction L generalizing s with
  | nil => exact hs
  | cons y L ih => exact ih (minStep_pos hs (hL y (by simp))) fun z hz => hL z (by simp [hz])
theorem fold_join {L : List ((Int × Int) × π)} {s : Option ((Int × Int) × π)} (hs : ∀ g, s = some g → 0 < g.1.2) (hL : ∀ y ∈ L, 0 < y.1.2) : L.foldl minStep s = joinB s (minOf L) := by
  have key : ∀ (R : List ((Int × Int) × π)) (L : List ((Int × Int) × π)), R = L.reverse → (∀ y ∈ L, 0 < y.1.2) → L.foldl minStep s = joinB s (minOf L) := by
    intro R
    induction R with
    | nil =>
      intro L e _
      have : L = [] := by simpa using e.symm
      subst this
      rfl
    | cons z R ih =>
      intro L e hL
      have eL : L = R.reverse ++ [z] := by
        have := congrArg List.reverse e
        simpa using this.symm
      subst eL
      have hR : ∀ y ∈ R.reverse, 0 < y.1.2 := fun y hy => hL y (List.mem_append_left _ hy)
      have hz : 0 < z.1.2 := hL z (by simp)
      have i := ih R.reverse (by simp) hR
      have fp := fold_pos (s := none) (by intro g e; cases e) hR
      unfold minOf at i ⊢
      rw [List.foldl_append, List.foldl_append, i]
      simp only [List.foldl_cons, List.foldl_nil]
      cases hm : R.reverse.foldl minStep (none : Option ((Int × Int) × π)) with
      | none => rfl
      | some y =>
        simp only [joinB]
        rw [minStep_assoc hs (fp y hm) hz]
        cases minStep (some y) z <;> rfl
  exact key _ L rfl hL
theorem minOf_append {A B : List ((Int × Int) × π)} (hA : ∀ y ∈ A, 0 < y.1.2) (hB : ∀ y ∈ B, 0 < y.1.2) : minOf (A ++ B) = joinB (minOf A) (minOf B) := by
  rw [show minOf (A ++ B) = B.foldl minStep (A.foldl minStep none) from by unfold minOf; rw [List.foldl_append]]
  exact fold_join (fold_pos (s := none) (by intro g e; cases e) hA) hB
theorem minOf_flat {L : List κ} {g : κ → List ((Int × Int) × π)} (h : ∀ p ∈ L, ∀ y ∈ g p, 0 < y.1.2) : minOf (L.flatMap g) = minOf (L.filterMap fun p => minOf (g p)) := by
  have key : ∀ (L : List κ) (s : Option ((Int × Int) × π)), (∀ g, s = some g → 0 < g.1.2) → (∀ p ∈ L, ∀ y ∈ g p, 0 < y.1.2) → (L.flatMap g).foldl minStep s = (L.filterMap fun p => minOf (g p)).foldl minStep s := by
    intro L
    induction L with
    | nil => intro s _ _; rfl
    | cons p L ih =>
      intro s hs h
      have hp := h p (by simp)
      rw [List.flatMap_cons, List.foldl_append, ih _ (fold_pos hs hp) fun q hq => h q (by simp [hq]), List.filterMap_cons, fold_join hs hp]
      cases hm : minOf (g p) <;> rfl
  exact key L none (by intro g e; cases e) h
theorem minOf_map {L : List ((Int × Int) × π)} {h : π → κ} : minOf (L.map fun x => (x.1, h x.2)) = (minOf L).map fun x => (x.1, h x.2) := by
  have key : ∀ (L : List ((Int × Int) × π)) (s : Option ((Int × Int) × π)), (L.map fun x => (x.1, h x.2)).foldl minStep (s.map fun x => (x.1, h x.2)) = (L.foldl minStep s).map fun x => (x.1, h x.2) := by
    intro L
    induction L with
    | nil => intro s; rfl
    | cons y L ih =>
      intro s
      rw [List.map_cons, List.foldl_cons, List.foldl_cons, ← ih]
      congr 1
      cases s with
      | none => rfl
      | some g =>
        simp only [minStep, Option.map_some]
        split <;> rfl
  exact key L none
end
end Rw
namespace Rw
/-- a loop that puts one thing at the end of a new list each turn -/
theorem forL_app {α : Type} {chk : DSt → Prop} {step : D → DEnv → DSt → Option Out} {M : DSt} {P : Out → Prop} {f : α → D} (env : DEnv) (g : α → D) (hc : ∀ xs, chk (M ++ [some xs])) : ∀ {l : List α} {xs0 : List D},
    (∀ a ∈ l, ∀ xs, xs.length < xs0.length + l.length → Ok (step (f a) env (M ++ [some xs])) (turnP (fun ρ M' => ρ = env ∧ M' = M ++ [some (xs ++ [g a])]) P)) → P (.nx env (M ++ [some (xs0 ++ l.map g)])) → Ok (forL chk step (l.map f) env (M ++ [some xs0])) P
  | [], xs0, _, k => by
    simp only [List.map_nil, forL, ok_grd, ok_some]
    simp at k
    exact ⟨hc _, k⟩
  | a :: l, xs0, h, k => by
    have h1 := h a (by simp) xs0 (by simp)
    rw [List.map_cons, ok_forC]
    refine ⟨hc _, h1.mono ?_⟩
    intro o ho
    have r := forL_app (f := f) env g hc (l := l) (xs0 := xs0 ++ [g a]) (fun b hb xs hx => h b (by simp [hb]) xs (by simp at hx ⊢; omega)) (by simpa using k)
    cases o with
    | nx ρ M' => obtain ⟨rfl, rfl⟩ := ho; exact r
    | ct ρ M' => obtain ⟨rfl, rfl⟩ := ho; exact r
    | bk ρ M' => exact ho
    | rt v M' => exact ho
@[simp] theorem app_at {M : DSt} {x : Option (List D)} : (M ++ [x])[M.length]? = some x := by simp
@[simp] theorem app_set {M : DSt} {x y : Option (List D)} : (M ++ [x]).set M.length y = M ++ [y] := by simp
theorem range_ge {n s : Nat} : (List.range n).filter (fun q => decide (s ≤ q)) = (List.range (n - s)).map fun k => s + k := by
  induction n with
  | zero => simp
  | succ n ih =>
    rw [List.range_succ, List.filter_append, ih]
    by_cases h : s ≤ n
    · have : n + 1 - s = (n - s) + 1 := by omega
      rw [this, List.range_succ, List.map_append]
      simp [h]
    · have : n + 1 - s = n - s := by omega
      rw [this]
      simp [h]
theorem range_lt {n m : Nat} (h : m ≤ n) : (List.range n).filter (fun q => decide (q < m)) = List.range m := by
  induction n with
  | zero =>
    have : m = 0 := by omega
    subst this
    rfl
  | succ n ih =>
    rw [List.range_succ, List.filter_append]
    by_cases hm : m ≤ n
    · rw [ih hm]
      have : ¬ n < m := by omega
      simp [this]
    · have : m = n + 1 := by omega
      subst this
      rw [List.range_succ]
      have : (List.range n).filter (fun q => decide (q < n + 1)) = List.range n := by
        rw [List.filter_eq_self]
        intro q hq
        have := List.mem_range.mp hq
        simp
        omega
      rw [this]
      simp
theorem rng_nats {a n : Nat} : rng (a : Int) n = natsD ((List.range n).map fun k => a + k) := by
  simp [rng, natsD]
theorem rng0_nats {n : Nat} : rng 0 n = natsD (List.range n) := by
  simp [rng, natsD]
/-- a place or None -/
def plD : Option Nat → D
  | none => .non
  | some q => .int (q : Nat)
/-- the place of the nearest of some -/
def placeZ (kd : Kd) (ss : List (List Int)) (x : List Int) (fr : List Nat) : Option Nat := (minBy (fun q => farZ kd x (nthZ ss q)) fr).map (·.2)
end Rw
end PRwGrp
section PRwTab
set_option autoImplicit false
set_option linter.all false
set_option maxRecDepth 100000
/-! RwTab: the nearest two by the table; defs that call themselves; further Ok rules. -/
namespace Rw
section
variable {π : Type}
theorem minOf_uniq {L : List ((Int × Int) × π)} {x : (Int × Int) × π} (hp : ∀ y ∈ L, 0 < y.1.2) (h : IsMin L x) : minOf L = some x := by
  obtain ⟨L1, L2, rfl, h1, h2⟩ := h
  have hx : 0 < x.1.2 := hp x (by simp)
  have p1 : ∀ y ∈ L1, 0 < y.1.2 := fun y hy => hp y (by simp [hy])
  have e1 : L1.foldl minStep none = minOf L1 := rfl
  unfold minOf
  rw [List.foldl_append, List.foldl_cons]
  have s1 : minStep (L1.foldl minStep none) x = some x := by
    rw [e1]
    cases e : minOf L1 with
    | none => rfl
    | some y =>
      have hy := (minOf_some p1 e).mem
      simp only [minStep, h1 y hy, if_true]
  rw [s1]
  clear s1 e1 h1 p1
  induction L2 with
  | nil => rfl
  | cons z L2 ih =>
    rw [List.foldl_cons]
    have : minStep (some x) z = some x := by
      simp only [minStep, h2 z (by simp)]
      simp
    rw [this]
    exact ih (fun y hy => hp y (by
      rcases List.mem_append.mp hy with hy | hy
      · simp [hy]
      · rcases List.mem_cons.mp hy with rfl | hy
        · simp
        · simp [hy])) fun y hy => h2 y (by simp [hy])
theorem minOf_filter {L : List ((Int × Int) × π)} {x : (Int × Int) × π} {c : (Int × Int) × π → Bool} (hp : ∀ y ∈ L, 0 < y.1.2) (h : minOf L = some x) (hc : c x = true) : minOf (L.filter c) = some x := by
  obtain ⟨L1, L2, rfl, h1, h2⟩ := minOf_some hp h
  refine minOf_uniq (fun y hy => hp y (List.mem_filter.mp hy).1) ⟨L1.filter c, L2.filter c, by simp [hc], fun y hy => h1 y (List.mem_filter.mp hy).1, fun y hy => h2 y (List.mem_filter.mp hy).1⟩
end
/-- those apart from a place, with how far -/
def candN (kd : Kd) (ss : List (List Int)) (gap p n : Nat) : List ((Int × Int) × Nat) := (List.range n).filterMap fun q => if gap ≤ (q - p) + (p - q) then some (farAt kd ss p q, q) else none
theorem nearTo_min {kd : Kd} {ss : List (List Int)} {gap p n : Nat} : nearTo kd ss gap p n = minOf (candN kd ss gap p n) := by
  induction n with
  | zero => rfl
  | succ n ih =>
    unfold candN minOf at ih ⊢
    rw [List.range_succ, List.filterMap_append, List.foldl_append, ← ih, nearTo]
    by_cases h : gap ≤ (n - p) + (p - n)
    · simp only [h, if_true, List.filterMap_cons, List.filterMap_nil, List.foldl_cons, List.foldl_nil]
      cases nearTo kd ss gap p n with
      | none => rfl
      | some g => rfl
    · simp only [h, if_false, List.filterMap_cons, List.filterMap_nil, List.foldl_nil]
/-- all twos apart, both ways -/
def candW (kd : Kd) (ss : List (List Int)) (gap : Nat) : List ((Int × Int) × (Nat × Nat)) := (List.range ss.length).flatMap fun p => (candN kd ss gap p ss.length).map fun x => (x.1, p, x.2)
theorem candW_mem {kd : Kd} {ss : List (List Int)} {gap : Nat} {x : (Int × Int) × (Nat × Nat)} : x ∈ candW kd ss gap ↔ x.2.1 < ss.length ∧ x.2.2 < ss.length ∧ gap ≤ (x.2.2 - x.2.1) + (x.2.1 - x.2.2) ∧ x.1 = farAt kd ss x.2.1 x.2.2 := by
  unfold candW candN
  simp only [List.mem_flatMap, List.mem_map, List.mem_filterMap, List.mem_range]
  constructor
  · rintro ⟨p, hp, y, ⟨q, hq, e⟩, rfl⟩
    split at e
    · cases e
      exact ⟨hp, hq, by assumption, rfl⟩
    · cases e
  · rintro ⟨hp, hq, hg, e⟩
    refine ⟨x.2.1, hp, (x.1, x.2.2), ⟨x.2.2, hq, ?_⟩, rfl⟩
    rw [if_pos hg, e]
theorem candW_pos {kd : Kd} {ss : List (List Int)} {gap : Nat} (hs : ∀ s ∈ ss, 0 < s.length) : ∀ y ∈ candW kd ss gap, 0 < y.1.2 := by
  intro y hy
  obtain ⟨h1, h2, h3, h4⟩ := candW_mem.mp hy
  rw [h4]
  exact farZ_pos kd (hs _ (getD_mem h1))
theorem candP_filter {kd : Kd} {ss : List (List Int)} {gap : Nat} (g0 : 1 ≤ gap) : candP kd ss gap (List.range ss.length) = (candW kd ss gap).filter fun x => decide (x.2.1 < x.2.2) := by
  unfold candP candW
  rw [List.filter_flatMap]
  congr 1
  funext p
  unfold candN
  generalize List.range ss.length = L
  induction L with
  | nil => rfl
  | cons q L ih =>
    simp only [List.filterMap_cons]
    by_cases h : p + gap ≤ q
    · have h1 : gap ≤ (q - p) + (p - q) := by omega
      have h2 : p < q := by omega
      simp only [h, h1, if_true, List.map_cons, List.filter_cons, h2, decide_true, ih]
    · by_cases h1 : gap ≤ (q - p) + (p - q)
      · have h2 : ¬ p < q := by omega
        simp only [h, h1, if_true, if_false, List.map_cons, List.filter_cons, h2, decide_false, ih]
        simp
      · simp only [h, h1, if_false, ih]
theorem flat_split {α β : Type} {f : α → List β} : ∀ {L : List α} {A B : List β} {x : β}, L.flatMap f = A ++ x :: B → ∃ L1 p L2 A' B', L = L1 ++ p :: L2 ∧ f p = A' ++ x :: B' ∧ A = L1.flatMap f ++ A' ∧ B = B' ++ L2.flatMap f
  | [], A, B, x, h => by simp at h
  | p :: L, A, B, x, h => by
    rw [List.flatMap_cons] at h
    rcases List.append_eq_append_iff.mp h with ⟨a', e1, e2⟩ | ⟨c', e1, e2⟩
    · obtain ⟨L1, q, L2, A', B', e3, e4, e5, e6⟩ := flat_split (f := f) e2
      exact ⟨p :: L1, q, L2, A', B', by rw [e3]; rfl, e4, by rw [e1, e5, List.flatMap_cons, List.append_assoc], e6⟩
    · cases c' with
      | nil =>
        simp only [List.nil_append] at e2
        obtain ⟨L1, q, L2, A', B', e3, e4, e5, e6⟩ := flat_split (f := f) (L := L) (A := []) (B := B) (x := x) (by simpa using e2.symm)
        exact ⟨p :: L1, q, L2, A', B', by rw [e3]; rfl, e4, by rw [List.flatMap_cons, List.append_assoc, ← e5, List.append_nil, e1, List.append_nil], e6⟩
      | cons y c =>
        simp only [List.cons_append, List.cons.injEq] at e2
        obtain ⟨rfl, e2⟩ := e2
        exact ⟨[], p, L, A, c, rfl, e1, rfl, e2⟩
/-- the first least of the table is the nearest two -/
theorem pair_table {kd : Kd} {ss : List (List Int)} {gap : Nat} (hs : ∀ s ∈ ss, 0 < s.length) (he : Even ss) (g0 : 1 ≤ gap) :
    minOf ((List.range ss.length).filterMap fun p => (nearZ kd ss gap p).map fun x => (x.1, p, x.2)) = pairZ kd ss gap (List.range ss.length) := by
  have pos := candW_pos (kd := kd) (gap := gap) hs
  have e1 : minOf (candW kd ss gap) = minOf ((List.range ss.length).filterMap fun p => (nearZ kd ss gap p).map fun x => (x.1, p, x.2)) := by
    unfold candW
    rw [minOf_flat (fun p hp y hy => pos y (List.mem_flatMap.mpr ⟨p, hp, hy⟩))]
    congr 1
    congr 1
    funext p
    rw [minOf_map (h := fun q => (p, q)), nearZ, nearTo_min]
  rw [← e1]
  unfold pairZ
  rw [candP_filter g0]
  cases e : minOf (candW kd ss gap) with
  | none =>
    rw [minOf_none pos] at e
    rw [e]
    rfl
  | some x =>
    symm
    refine minOf_filter pos e ?_
    have hm := minOf_some pos e
    obtain ⟨h1, h2, h3, h4⟩ := candW_mem.mp hm.mem
    by_cases hlt : x.2.1 < x.2.2
    · simp [hlt]
    exfalso
    have hgt : x.2.2 < x.2.1 := by omega
    -- the two the other way round stand ahead
    obtain ⟨A, B, eL, hA, hB⟩ := hm
    have hy : ((x.1, x.2.2, x.2.1) : (Int × Int) × (Nat × Nat)) ∈ candW kd ss gap := by
      refine candW_mem.mpr ⟨h2, h1, by simp only; omega, ?_⟩
      simp only
      rw [h4, farAt_comm he h1 h2]
    unfold candW at eL
    obtain ⟨L1, p, L2, A', B', e3, e4, e5, e6⟩ := flat_split eL
    have hp : x.2.1 = p := by
      have : x ∈ (candN kd ss gap p ss.length).map fun x => (x.1, p, x.2) := by rw [e4]; simp
      obtain ⟨y, _, rfl⟩ := List.mem_map.mp this
      rfl
    have hin : x.2.2 ∈ L1 := by
      have hr : x.2.2 ∈ L1 ++ p :: L2 := by rw [← e3]; exact List.mem_range.mpr h2
      rcases List.mem_append.mp hr with hr | hr
      · exact hr
      · exfalso
        have hsort : (L1 ++ p :: L2).Pairwise (· < ·) := by rw [← e3]; exact List.pairwise_lt_range
        rcases List.mem_cons.mp hr with hr | hr
        · omega
        · have := (List.pairwise_append.mp hsort).2.1
          have := (List.pairwise_cons.mp this).1 _ hr
          omega
    have hmA : ((x.1, x.2.2, x.2.1) : (Int × Int) × (Nat × Nat)) ∈ A := by
      rw [e5]
      refine List.mem_append_left _ (List.mem_flatMap.mpr ⟨x.2.2, hin, ?_⟩)
      obtain ⟨q, hq, hy'⟩ := List.mem_flatMap.mp hy
      have : q = x.2.2 := by
        obtain ⟨y, _, e'⟩ := List.mem_map.mp hy'
        simp only [Prod.mk.injEq] at e'
        exact e'.2.1
      rw [this] at hy'
      exact hy'
    have := hA _ hmA
    simp only [lessZ_irr] at this
    cases this
theorem candL_table {kd : Kd} {xs : List Int} {gap l : Nat} : candL (tableZ kd xs gap l) (List.range (stretchesZ xs l).length) = (List.range (stretchesZ xs l).length).filterMap fun p => (nearZ kd (stretchesZ xs l) gap p).map fun x => (x.1, p, x.2) := by
  unfold candL
  have : ∀ L : List Nat, (∀ p ∈ L, p < (stretchesZ xs l).length) → (L.filterMap fun p => (rowAt (tableZ kd xs gap l) p).map fun x => (x.1, p, x.2)) = L.filterMap fun p => (nearZ kd (stretchesZ xs l) gap p).map fun x => (x.1, p, x.2) := by
    intro L
    induction L with
    | nil => intro _; rfl
    | cons p L ih =>
    intro hL
    have hp := hL p (by simp)
    have e : rowAt (tableZ kd xs gap l) p = nearZ kd (stretchesZ xs l) gap p := by
      rw [rowAt, List.getD_eq_getElem?_getD]
      simp [tableZ, List.getElem?_range hp]
    rw [List.filterMap_cons, List.filterMap_cons, e, ih fun q hq => hL q (by simp [hq])]
  exact this _ fun p hp => List.mem_range.mp hp
/-! ### defs that call themselves: what is plain -/
def plainB : Nat → D → Bool
  | _, .non => true
  | _, .int _ => true
  | 0, _ => false
  | n + 1, .lst xs => decide (xs.length ≤ 1000) && xs.all (plainB n)
  | n + 1, .tup xs => decide (xs.length ≤ 1000) && xs.all (plainB n)
  | _ + 1, _ => false
/-! ### further Ok rules -/
section
variable {ρ : DEnv} {M : DSt}
noncomputable def wR3 (vs : List Dv) (M : DSt) : Option (List D × List Nat × DSt) := match vs with
  | [.d (.int i), .d (.int j), .d (.int c)] => grd (c ≠ 0 ∧ -1000000 ≤ c ∧ c ≤ 1000000 ∧ -1000000000 ≤ i ∧ i ≤ 1000000000 ∧ -1000000000 ≤ j ∧ j ≤ 1000000000) (some (rngC i c (szC i j c), [], M))
  | _ => none
@[simp ↓] theorem ok_iR3 {a : DA} {P : List D × List Nat × DSt → Prop} : Ok (iR3 a ρ M) P ↔ Ok (a ρ M) fun p => Ok (wR3 p.1 p.2) P := by
  unfold iR3 wR3
  cases a ρ M with
  | none => simp
  | some p =>
    obtain ⟨x, M1⟩ := p
    simp only [ok_some]
    split
    · rename_i i j c M2 e
      cases e
      exact Iff.rfl
    · rename_i h
      split
      · rename_i i j c
        exact absurd rfl (h i j c M1)
      · exact Iff.rfl
@[simp ↓] theorem ok_wR3 {i j c : Int} {P : List D × List Nat × DSt → Prop} : Ok (wR3 [.d (.int i), .d (.int j), .d (.int c)] M) P ↔ (c ≠ 0 ∧ -1000000 ≤ c ∧ c ≤ 1000000 ∧ -1000000000 ≤ i ∧ i ≤ 1000000000 ∧ -1000000000 ≤ j ∧ j ≤ 1000000000) ∧ P (rngC i c (szC i j c), [], M) := by simp only [wR3, ok_grd, ok_some]
@[simp ↓] theorem ok_augS {f : O2} {o i e : DE} {P : Out → Prop} : Ok (dAugS f o i e ρ M) P ↔ Ok (o ρ M) fun p => Ok (asC p.1) fun n => Ok (i ρ p.2) fun q => Ok (asI q.1) fun k => Ok (cel q.2 n) fun xs => Ok (ixD xs.length k) fun j => Ok (xs[j]?) fun x => Ok (e ρ q.2) fun r => Ok (f (.d x) r.1 r.2) fun s => Ok (asD s.1) fun z => Ok (cel s.2 n) fun ys => ys.length = xs.length ∧ P (.nx ρ (setC s.2 n (ys.set j z))) := by
  unfold dAugS
  cases o ρ M with
  | none => simp
  | some p =>
    obtain ⟨x, M1⟩ := p
    simp only [ok_some]
    cases x with
    | d x => simp [asC]
    | r x => simp [asC]
    | o _ _ _ => simp [asC]
    | c n =>
      simp only [ok_asC]
      cases i ρ M1 with
      | none => simp
      | some q =>
        obtain ⟨y, M2⟩ := q
        simp only [ok_some]
        cases y with
        | c m => simp [asI]
        | r m => simp [asI]
        | o _ _ _ => simp [asI]
        | d y =>
          cases y with
          | int k =>
            simp only [ok_asI]
            unfold cel
            cases e1 : (M2[n]?).join with
            | none => simp
            | some xs =>
              simp only [ok_some]
              cases e2 : ixD xs.length k with
              | none => simp
              | some j =>
                simp only [ok_some]
                cases e3 : xs[j]? with
                | none => simp
                | some x =>
                  simp only [ok_some]
                  cases e ρ M2 with
                  | none => simp
                  | some r =>
                    obtain ⟨y, M3⟩ := r
                    simp only [ok_some]
                    cases f (.d x) y M3 with
                    | none => simp
                    | some s =>
                      obtain ⟨z, M4⟩ := s
                      simp only [ok_some]
                      cases z with
                      | c m => simp [asD]
                      | r m => simp [asD]
                      | o _ _ _ => simp [asD]
                      | d z =>
                        simp only [ok_asD]
                        cases e4 : (M4[n]?).join with
                        | none => simp
                        | some ys =>
                          simp only [ok_some]
                          by_cases hl : ys.length = xs.length <;> simp [hl]
          | _ => simp [asI]
@[simp ↓] theorem ok_reverse {n : Nat} {P : Dv × DSt → Prop} : Ok (mReverse (.c n) [] M) P ↔ Ok (cel M n) fun xs => P (.d .non, M.set n (some xs.reverse)) := by
  simp only [mReverse, cel]
  cases (M[n]?).join <;> simp
@[simp ↓] theorem ok_max1 {ns : List Int} {P : Dv × DSt → Prop} : Ok (oMax1 [.d (.lst (ns.map D.int))] M) P ↔ 0 < ns.length ∧ P (.d (.int (maxZ ns)), M) := by simp [oMax1]
@[simp ↓] theorem ok_min1 {ns : List Int} {P : Dv × DSt → Prop} : Ok (oMin1 [.d (.lst (ns.map D.int))] M) P ↔ 0 < ns.length ∧ P (.d (.int (minZ ns)), M) := by simp [oMin1]
end
end Rw
namespace Rw
theorem ok_neCC {M : DSt} {n m : Nat} {xs : List D} {P : Dv × DSt → Prop} (h : M[n]? = some (some xs)) (h' : M[m]? = some (some xs)) (hx : (D.lst xs).shp 9 = true) : Ok (oNe (.c n) (.c m) M) P ↔ P (.d (.bl false), M) := by
  have := eqv_refl 9 _ hx
  simp [oNe, dv, h, h', hx, this]
theorem ok_eqDC {M : DSt} {m : Nat} {xs : List D} {P : Dv × DSt → Prop} (h' : M[m]? = some (some xs)) (hx : (D.lst xs).shp 9 = true) : Ok (oEq (.d (.lst xs)) (.c m) M) P ↔ P (.d (.bl true), M) := by
  have := eqv_refl 9 _ hx
  simp [oEq, dv, h', hx, this]
theorem ok_neDC {M : DSt} {m : Nat} {xs : List D} {P : Dv × DSt → Prop} (h' : M[m]? = some (some xs)) (hx : (D.lst xs).shp 9 = true) : Ok (oNe (.d (.lst xs)) (.c m) M) P ↔ P (.d (.bl false), M) := by
  have := eqv_refl 9 _ hx
  simp [oNe, dv, h', hx, this]
@[simp ↓] theorem ok_neB {a b : Bool} {M : DSt} {P : Dv × DSt → Prop} : Ok (oNe (.d (.bl a)) (.d (.bl b)) M) P ↔ P (.d (.bl (!(a == b))), M) := by
  rw [ok_neD (by rfl) (by rfl)]
  simp [D.eqv]
@[simp ↓] theorem ok_eqB {a b : Bool} {M : DSt} {P : Dv × DSt → Prop} : Ok (oEq (.d (.bl a)) (.d (.bl b)) M) P ↔ P (.d (.bl (a == b)), M) := by
  rw [ok_eqD (by rfl) (by rfl)]
  simp [D.eqv]
theorem set_map_range {m j : Nat} {g : Nat → D} {x : D} (hj : j < m) : ((List.range m).map g).set j x = (List.range m).map fun c => if c = j then x else g c := by
  apply List.ext_getElem?
  intro i
  by_cases hi : i < m
  · by_cases e : j = i
    · subst e
      rw [List.getElem?_set_self (by simpa using hi), List.getElem?_map, List.getElem?_range hi]
      simp
    · rw [List.getElem?_set_ne e, List.getElem?_map, List.getElem?_map, List.getElem?_range hi]
      simp [Ne.symm e]
  · rw [List.getElem?_eq_none (by simp; omega), List.getElem?_eq_none (by simp; omega)]
theorem at_map_range {m j : Nat} {g : Nat → D} (hj : j < m) : ((List.range m).map g)[j]? = some (g j) := by
  rw [List.getElem?_map, List.getElem?_range hj]
  rfl
end Rw
namespace Rw
/-- a loop that puts something at the end of a new list, or nothing -/
theorem forL_appO {α : Type} {chk : DSt → Prop} {step : D → DEnv → DSt → Option Out} {M : DSt} {P : Out → Prop} {f : α → D} (env : DEnv) (g : α → Option D) (hc : ∀ xs, chk (M ++ [some xs])) : ∀ {l : List α} {xs0 : List D},
    (∀ a ∈ l, ∀ xs, xs.length < xs0.length + l.length → Ok (step (f a) env (M ++ [some xs])) (turnP (fun ρ M' => ρ = env ∧ M' = M ++ [some (xs ++ (g a).toList)]) P)) → P (.nx env (M ++ [some (xs0 ++ l.filterMap g)])) → Ok (forL chk step (l.map f) env (M ++ [some xs0])) P
  | [], xs0, _, k => by
    simp only [List.map_nil, forL, ok_grd, ok_some]
    simp at k
    exact ⟨hc _, k⟩
  | a :: l, xs0, h, k => by
    have h1 := h a (by simp) xs0 (by simp)
    rw [List.map_cons, ok_forC]
    refine ⟨hc _, h1.mono ?_⟩
    intro o ho
    have hl : (xs0 ++ (g a).toList).length ≤ xs0.length + 1 := by cases g a <;> simp
    have r := forL_appO (f := f) env g hc (l := l) (xs0 := xs0 ++ (g a).toList) (fun b hb xs hx => h b (by simp [hb]) xs (by simp only [List.length_cons]; omega)) (by
      have : xs0 ++ (g a).toList ++ l.filterMap g = xs0 ++ (a :: l).filterMap g := by
        rw [List.filterMap_cons]
        cases g a <;> simp
      rw [this]
      exact k)
    cases o with
    | nx ρ M' => obtain ⟨rfl, rfl⟩ := ho; exact r
    | ct ρ M' => obtain ⟨rfl, rfl⟩ := ho; exact r
    | bk ρ M' => exact ho
    | rt v M' => exact ho
theorem range1 {n : Nat} : rng 1 n = (List.range n).map fun i => D.int ((i + 1 : Nat) : Int) := by
  simp [rng]
  intro a _
  omega
theorem Bn.lit {k : Nat} {x : Int} (h : -(10 ^ k) ≤ x) (h' : x ≤ 10 ^ k) : Bn k x := ⟨h, h'⟩
end Rw
namespace Rw
/-- behind a loop that hands something back at the first that has it -/
def outF (env : DEnv) (M : DSt) : Option Dv → Out
  | none => .nx env M
  | some v => .rt v M
theorem forL_first {α : Type} {chk : DSt → Prop} {step : D → DEnv → DSt → Option Out} {M : DSt} {P : Out → Prop} {f : α → D} (env : DEnv) (g : α → Option Dv) (hc : chk M) : ∀ {l : List α},
    (∀ a ∈ l, Ok (step (f a) env M) (turnP (fun ρ M' => g a = none ∧ ρ = env ∧ M' = M) fun o => ∃ v, g a = some v ∧ o = .rt v M)) → P (outF env M (l.findSome? g)) → Ok (forL chk step (l.map f) env M) P
  | [], _, k => by
    simp only [List.map_nil, forL, ok_grd, ok_some]
    exact ⟨hc, k⟩
  | a :: l, h, k => by
    have h1 := h a (by simp)
    rw [List.map_cons, ok_forC]
    refine ⟨hc, h1.mono ?_⟩
    intro o ho
    cases o with
    | nx ρ M' =>
      obtain ⟨e, rfl, rfl⟩ := ho
      exact forL_first (f := f) _ g hc (fun b hb => h b (by simp [hb])) (by simpa [List.findSome?_cons, e] using k)
    | ct ρ M' =>
      obtain ⟨e, rfl, rfl⟩ := ho
      exact forL_first (f := f) _ g hc (fun b hb => h b (by simp [hb])) (by simpa [List.findSome?_cons, e] using k)
    | bk ρ M' =>
      obtain ⟨v, e, h⟩ := ho
      cases h
    | rt v M' =>
      obtain ⟨w, e, h⟩ := ho
      cases h
      simpa [List.findSome?_cons, e, outF] using k
theorem findSome_map {α β γ : Type} {g : α → Option β} {h : β → γ} : ∀ {l : List α}, (l.findSome? g).map h = l.findSome? fun a => (g a).map h
  | [] => rfl
  | a :: l => by
    rw [List.findSome?_cons, List.findSome?_cons]
    cases g a with
    | none => exact findSome_map
    | some b => rfl
theorem findSome_none {α β : Type} {g : α → Option β} : ∀ {l : List α}, (∀ a ∈ l, g a = none) → l.findSome? g = none
  | [], _ => rfl
  | a :: l, h => by
    rw [List.findSome?_cons, h a (by simp)]
    exact findSome_none fun b hb => h b (by simp [hb])
theorem findSome_congr {α β : Type} {g h : α → Option β} : ∀ {l : List α}, (∀ a ∈ l, g a = h a) → l.findSome? g = l.findSome? h
  | [], _ => rfl
  | a :: l, e => by
    rw [List.findSome?_cons, List.findSome?_cons, e a (by simp), findSome_congr fun b hb => e b (by simp [hb])]
/-- the first two apart that are no farther than a fraction -/
def rowF (kd : Kd) (ss : List (List Int)) (gap : Nat) (fr : Int × Int) (p : Nat) : Option (Nat × Nat) := (List.range (ss.length - (p + gap))).findSome? fun k => if lessZ fr (farAt kd ss p (p + gap + k)) then none else some (p, p + gap + k)
theorem rowF_map {γ : Type} {kd : Kd} {ss : List (List Int)} {gap : Nat} {fr : Int × Int} {p : Nat} {h : Nat × Nat → γ} : (rowF kd ss gap fr p).map h = (List.range (ss.length - (p + gap))).findSome? fun k => if lessZ fr (farAt kd ss p (p + gap + k)) then none else some (h (p, p + gap + k)) := by
  unfold rowF
  rw [findSome_map]
  apply findSome_congr
  intro k _
  split <;> rfl
def fwZ (kd : Kd) (ss : List (List Int)) (gap : Nat) (fr : Int × Int) : Option (Nat × Nat) := (List.range ss.length).findSome? (rowF kd ss gap fr)
def fwD (x : Nat × Nat) : D := .tup [.int x.1, .int x.2]
def longZ (kd : Kd) (xs : List Int) (gap : Nat) (fr : Int × Int) : Option (Nat × Nat × Nat) := (List.range 40).findSome? fun i => (fwZ kd (stretchesZ xs (40 - i)) gap fr).map fun x => (40 - i, x.1, x.2)
def longD : Option (Nat × Nat × Nat) → D
  | none => .non
  | some x => .tup [.int x.1, .int x.2.1, .int x.2.2]
theorem rngC_down {n : Nat} : rngC (n : Int) (-1) (szC n 0 (-1)) = (List.range n).map fun i => D.int ((n - i : Nat) : Int) := by
  have : szC (n : Int) 0 (-1) = n := by
    unfold szC
    simp
    split <;> omega
  rw [this]
  simp [rngC]
  intro a ha
  omega
end Rw
namespace Rw
theorem ok_lenV {M : DSt} {v : Dv} {xs : List D} {P : Dv × DSt → Prop} (h : lv M v = some xs) : Ok (oLen [v] M) P ↔ P (.d (.int xs.length), M) := by
  cases v with
  | d x =>
    cases x <;> simp only [lv] at h <;> try (cases h)
    simp
  | c n =>
    have h' : (M[n]?).join = some xs := h
    simp [cel, h']
  | o _ _ _ => cases h
  | r ys =>
    cases h
    simp
theorem ok_slV {M : DSt} {v : Dv} {xs : List D} {c : Bool} {l r : Option Int} {P : Dv × DSt → Prop} (h : lv M v = some xs) : Ok (slU c v l r M) P ↔ Ok (mkL c (cutD xs l r) M) P := by
  cases v with
  | d x =>
    cases x <;> simp only [lv] at h <;> try (cases h)
    exact Iff.rfl
  | c n =>
    have h' : (M[n]?).join = some xs := h
    simp [cel, h']
  | o _ _ _ => cases h
  | r ys =>
    cases h
    exact Iff.rfl
theorem lv_cel {M : DSt} {n : Nat} {xs : List D} (h : M[n]? = some (some xs)) : lv M (.c n) = some xs := by simp [h]
end Rw
end PRwTab
section PRwMax
set_option autoImplicit false
set_option linter.all false
set_option maxRecDepth 100000
/-! RwMax: the first greatest; runs that stay apart; == of fractions. -/
namespace Rw
section
variable {π : Type}
def negX (x : (Int × Int) × π) : (Int × Int) × π := ((-x.1.1, x.1.2), x.2)
theorem less_neg {a b : Int × Int} : lessZ (-a.1, a.2) (-b.1, b.2) = lessZ b a := by
  unfold lessZ
  simp only [Int.neg_mul]
  congr 1
  apply propext
  omega
theorem maxOf_neg {L : List ((Int × Int) × π)} : ∀ {s : Option ((Int × Int) × π)}, (L.map negX).foldl minStep (s.map negX) = (L.foldl maxStep s).map negX := by
  induction L with
  | nil => intro s; rfl
  | cons y L ih =>
    intro s
    rw [List.map_cons, List.foldl_cons, List.foldl_cons, ← ih]
    congr 1
    cases s with
    | none => rfl
    | some g =>
      simp only [minStep, maxStep, Option.map_some, negX, less_neg]
      split <;> rfl
/-- x is the first greatest of L -/
def IsMax (L : List ((Int × Int) × π)) (x : (Int × Int) × π) : Prop := ∃ L1 L2, L = L1 ++ x :: L2 ∧ (∀ y ∈ L1, lessZ y.1 x.1 = true) ∧ (∀ y ∈ L2, lessZ x.1 y.1 = false)
theorem negX_inj {x y : (Int × Int) × π} (h : negX x = negX y) : x = y := by
  obtain ⟨⟨a, b⟩, c⟩ := x
  obtain ⟨⟨a', b'⟩, c'⟩ := y
  simp only [negX, Prod.mk.injEq] at h
  obtain ⟨⟨h1, h2⟩, h3⟩ := h
  simp only [Prod.mk.injEq]
  exact ⟨⟨by omega, h2⟩, h3⟩
theorem maxOf_some {L : List ((Int × Int) × π)} {x : (Int × Int) × π} (hp : ∀ y ∈ L, 0 < y.1.2) (h : L.foldl maxStep none = some x) : IsMax L x := by
  have e := maxOf_neg (L := L) (s := none)
  rw [h] at e
  have e' : minOf (L.map negX) = some (negX x) := e
  obtain ⟨A, B, eL, h1, h2⟩ := minOf_some (by
    intro y hy
    obtain ⟨z, hz, rfl⟩ := List.mem_map.mp hy
    exact hp z hz) e'
  obtain ⟨L1, L2', e1, e2, e3⟩ := List.map_eq_append_iff.mp eL
  obtain ⟨y, L2, e4, e5, e6⟩ := List.map_eq_cons_iff.mp e3
  have := negX_inj e5
  subst this
  subst e4
  refine ⟨L1, L2, e1, ?_, ?_⟩
  · intro z hz
    have := h1 (negX z) (by rw [← e2]; exact List.mem_map_of_mem hz)
    simp only [negX, less_neg] at this
    exact this
  · intro z hz
    have := h2 (negX z) (by rw [← e6]; exact List.mem_map_of_mem hz)
    simp only [negX, less_neg] at this
    exact this
theorem maxOf_none {L : List ((Int × Int) × π)} (h : L.foldl maxStep none = none) : L = [] := by
  have : ∀ (L : List ((Int × Int) × π)) (g : (Int × Int) × π), L.foldl maxStep (some g) ≠ none := by
    intro L
    induction L with
    | nil => intro g e; cases e
    | cons y L ih =>
      intro g
      rw [List.foldl_cons]
      simp only [maxStep]
      split
      · exact ih _
      · exact ih _
  cases L with
  | nil => rfl
  | cons y L => exact absurd h (this L y)
end
theorem candL_mem {rows : List (Option ((Int × Int) × Nat))} {fr : List Nat} {x : (Int × Int) × (Nat × Nat)} : x ∈ candL rows fr ↔ x.2.1 ∈ fr ∧ rowAt rows x.2.1 = some (x.1, x.2.2) := by
  unfold candL
  rw [List.mem_filterMap]
  constructor
  · rintro ⟨p, hp, e⟩
    cases h : rowAt rows p with
    | none => rw [h] at e; cases e
    | some y =>
      rw [h] at e
      cases e
      exact ⟨hp, h⟩
  · rintro ⟨hp, e⟩
    exact ⟨x.2.1, hp, by rw [e]; rfl⟩
theorem candL_sorted {rows : List (Option ((Int × Int) × Nat))} {n : Nat} : (candL rows (List.range n)).Pairwise fun x y => x.2.1 < y.2.1 := by
  unfold candL
  rw [List.pairwise_filterMap]
  refine List.Pairwise.imp ?_ List.pairwise_lt_range
  intro a b hab x hx y hy
  cases h : rowAt rows a with
  | none => rw [h] at hx; cases hx
  | some u =>
    rw [h] at hx
    cases h' : rowAt rows b with
    | none => rw [h'] at hy; cases hy
    | some v =>
      rw [h'] at hy
      cases hx
      cases hy
      exact hab
theorem eqv_fr {f g : Int × Int} : D.eqv (frD f) (frD g) = decide (f = g) := by
  obtain ⟨a, b⟩ := f
  obtain ⟨c, d⟩ := g
  by_cases h1 : a = c
  · by_cases h2 : b = d
    · simp [frD, D.eqv, D.eqvs, h1, h2]
    · simp [frD, D.eqv, D.eqvs, h1, h2]
  · simp [frD, D.eqv, D.eqvs, h1]
theorem ok_eqF {f g : Int × Int} {M : DSt} {P : Dv × DSt → Prop} : Ok (oEq (.d (frD f)) (.d (frD g)) M) P ↔ P (.d (.bl (decide (f = g))), M) := by
  rw [ok_eqD frD_shp frD_shp, eqv_fr]
theorem ok_neF {f g : Int × Int} {M : DSt} {P : Dv × DSt → Prop} : Ok (oNe (.d (frD f)) (.d (frD g)) M) P ↔ P (.d (.bl (!decide (f = g))), M) := by
  rw [ok_neD frD_shp frD_shp, eqv_fr]
/-! ### runs of twos that stay apart -/
theorem free_apart {gap p q : Nat} {fr pl : List Nat} (h : p ∈ freeZ gap fr pl) (hq : q ∈ pl) : Apart gap q p := by
  have := (List.mem_filter.mp h).2
  rw [List.all_eq_true] at this
  have := this q hq
  unfold apartB at this
  unfold Apart
  simpa using this
def ApartX (gap : Nat) (x y : (Int × Int) × (Nat × Nat)) : Prop := Apart gap x.2.1 y.2.1 ∧ Apart gap x.2.1 y.2.2 ∧ Apart gap x.2.2 y.2.1 ∧ Apart gap x.2.2 y.2.2
theorem run_apart {kd : Kd} {ss : List (List Int)} {gap : Nat} (hs : ∀ s ∈ ss, 0 < s.length) : ∀ {n : Nat} {fr : List Nat}, (∀ p ∈ fr, p < ss.length) →
    (∀ x ∈ runZ (pairZ kd ss gap) (fun fr x => freeZ gap fr [x.2.1, x.2.2]) n fr, x.2.1 ∈ fr ∧ x.2.2 ∈ fr) ∧ (runZ (pairZ kd ss gap) (fun fr x => freeZ gap fr [x.2.1, x.2.2]) n fr).Pairwise (ApartX gap)
  | 0, fr, _ => ⟨(by intro x hx; cases hx), List.Pairwise.nil⟩
  | n + 1, fr, hf => by
    unfold runZ
    cases e : pairZ kd ss gap fr with
    | none => exact ⟨(by intro x hx; cases hx), List.Pairwise.nil⟩
    | some x =>
      obtain ⟨h1, h2, h3, h4⟩ := candP_mem.mp (minOf_some (candP_pos hs hf) e).mem
      have ih := run_apart (kd := kd) (gap := gap) hs (n := n) (fr := freeZ gap fr [x.2.1, x.2.2]) fun p hp => hf p (freeZ_sub hp)
      refine ⟨?_, ?_⟩
      · intro y hy
        rcases List.mem_cons.mp hy with rfl | hy
        · exact ⟨h1, h2⟩
        · obtain ⟨a, b⟩ := ih.1 y hy
          exact ⟨freeZ_sub a, freeZ_sub b⟩
      · refine List.Pairwise.cons ?_ ih.2
        intro y hy
        obtain ⟨a, b⟩ := ih.1 y hy
        exact ⟨free_apart a (by simp), free_apart b (by simp), free_apart a (by simp), free_apart b (by simp)⟩
end Rw
end PRwMax
section PRwCau
set_option autoImplicit false
set_option linter.all false
set_option maxRecDepth 100000
/-! RwCau: Cauchy and Schwarz; fractions by their ratio; far of itself. -/
namespace Rw
def combZ (s t : Int) (xs ys : List Int) : List Int := (xs.zip ys).map fun p => s * p.1 + t * p.2
theorem comb_sum (s t : Int) : ∀ {xs ys : List Int}, xs.length = ys.length → (combZ s t xs ys).sum = s * xs.sum + t * ys.sum
  | [], [], _ => by simp [combZ]
  | x :: xs, y :: ys, h => by
    have ih := comb_sum s t (xs := xs) (ys := ys) (by simpa using h)
    unfold combZ at ih ⊢
    simp only [List.zip_cons_cons, List.map_cons, List.sum_cons, ih]
    grind
theorem comb_sq (s t : Int) : ∀ {xs ys : List Int}, xs.length = ys.length → ((combZ s t xs ys).map fun x => x * x).sum = s * s * (xs.map fun x => x * x).sum + 2 * s * t * dotZ xs ys + t * t * (ys.map fun x => x * x).sum
  | [], [], _ => by simp [combZ, dotZ]
  | x :: xs, y :: ys, h => by
    have ih := comb_sq s t (xs := xs) (ys := ys) (by simpa using h)
    unfold combZ dotZ at ih ⊢
    simp only [List.zip_cons_cons, List.map_cons, List.sum_cons, ih]
    grind
theorem comb_len (s t : Int) {xs ys : List Int} (h : xs.length = ys.length) : (combZ s t xs ys).length = xs.length := by
  simp [combZ, h]
theorem uneven_comb (s t : Int) {xs ys : List Int} (h : xs.length = ys.length) : unevenZ (combZ s t xs ys) = s * s * unevenZ xs + 2 * s * t * bothZ xs ys + t * t * unevenZ ys := by
  unfold unevenZ bothZ
  rw [comb_len s t h, comb_sum s t h, comb_sq s t h, ← h]
  generalize (xs.length : Int) = n
  generalize (xs.map fun x => x * x).sum = a
  generalize (ys.map fun x => x * x).sum = b
  generalize dotZ xs ys = d
  grind
theorem pos_of_mul {a b : Int} (ha : 0 < a) (h : 0 ≤ a * b) : 0 ≤ b := by
  by_cases hb : 0 ≤ b
  · exact hb
  · have := Int.mul_pos ha (show 0 < -b by omega)
    rw [Int.mul_neg] at this
    omega
theorem both_cs {xs ys : List Int} (h : xs.length = ys.length) : bothZ xs ys * bothZ xs ys ≤ unevenZ xs * unevenZ ys := by
  have hU := uneven_nn xs
  have hV := uneven_nn ys
  have c := fun s t => uneven_comb s t h
  have n := fun s t => uneven_nn (combZ s t xs ys)
  generalize unevenZ xs = U at *
  generalize unevenZ ys = V at *
  generalize bothZ xs ys = B at *
  by_cases hv : V = 0
  · subst hv
    have a := n 1 (-(B * (U + 1)))
    rw [c] at a
    have e : (1 : Int) * 1 * U + 2 * 1 * (-(B * (U + 1))) * B + (-(B * (U + 1))) * (-(B * (U + 1))) * 0 = U - 2 * (U + 1) * (B * B) := by grind
    rw [e] at a
    rw [Int.mul_zero]
    by_cases hb : B * B ≤ 0
    · exact hb
    · have h1 : (U + 1) * 1 ≤ (U + 1) * (B * B) := Int.mul_le_mul_of_nonneg_left (by omega) (by omega)
      have h2 : 2 * (U + 1) * (B * B) = 2 * ((U + 1) * (B * B)) := by rw [Int.mul_assoc]
      omega
  · have a := n V (-B)
    rw [c] at a
    have e : V * V * U + 2 * V * (-B) * B + (-B) * (-B) * V = V * (U * V - B * B) := by grind
    rw [e] at a
    have := pos_of_mul (show 0 < V by omega) a
    omega
theorem made_spec {t b : Int} (h : 0 < b) : ∃ g, 0 < g ∧ t = g * (madeZ t b).1 ∧ b = g * (madeZ t b).2 := by
  have g0 : 0 < Int.gcd t b := Int.gcd_pos_of_ne_zero_right _ (by omega)
  have es : signG t b = (Int.gcd t b : Int) := by rw [signG, if_neg (by omega)]
  refine ⟨(Int.gcd t b : Int), by omega, ?_, ?_⟩
  · simp only [madeZ, es]
    rw [Int.fdiv_eq_ediv_of_nonneg _ (by omega), Int.mul_ediv_cancel' (Int.gcd_dvd_left ..)]
  · simp only [madeZ, es]
    rw [Int.fdiv_eq_ediv_of_nonneg _ (by omega), Int.mul_ediv_cancel' (Int.gcd_dvd_right ..)]
theorem made_pos {t b : Int} (h : 0 < b) : 0 < (madeZ t b).2 := by
  obtain ⟨g, g0, _, e⟩ := made_spec (t := t) h
  have h' := h
  rw [e, Int.mul_comm] at h'
  exact Int.pos_of_mul_pos_left h' g0
theorem made_low {t b : Int} (h : 0 < b) : Low (madeZ t b) := ⟨made_pos h, madeZ_low (by omega)⟩
theorem less_made_r {a : Int × Int} {t b : Int} (h : 0 < b) : lessZ a (madeZ t b) = decide (a.1 * b < t * a.2) := by
  obtain ⟨g, g0, e1, e2⟩ := made_spec (t := t) h
  generalize madeZ t b = m at *
  unfold lessZ
  subst e1
  subst e2
  have u : a.1 * (g * m.2) = g * (a.1 * m.2) := by grind
  have v : g * m.1 * a.2 = g * (m.1 * a.2) := by grind
  rw [u, v]
  congr 1
  apply propext
  exact (Int.mul_lt_mul_left g0).symm
theorem less_made_l {a : Int × Int} {t b : Int} (h : 0 < b) : lessZ (madeZ t b) a = decide (t * a.2 < a.1 * b) := by
  obtain ⟨g, g0, e1, e2⟩ := made_spec (t := t) h
  generalize madeZ t b = m at *
  unfold lessZ
  subst e1
  subst e2
  have u : a.1 * (g * m.2) = g * (a.1 * m.2) := by grind
  have v : g * m.1 * a.2 = g * (m.1 * a.2) := by grind
  rw [u, v]
  congr 1
  apply propext
  exact (Int.mul_lt_mul_left g0).symm
theorem made_eq_of {t b t' b' : Int} (h : 0 < b) (h' : 0 < b') (e : t * b' = t' * b) : madeZ t b = madeZ t' b' := by
  obtain ⟨g, g0, e1, e2⟩ := made_spec (t := t') h'
  refine low_same (made_low h) (made_low h') ?_ ?_
  · rw [less_made_l h]
    generalize madeZ t' b' = m at *
    subst e1
    subst e2
    have : g * (t * m.2) = g * (m.1 * b) := by grind
    have := Int.eq_of_mul_eq_mul_left (show g ≠ 0 by omega) this
    simp [this]
  · rw [less_made_r h]
    generalize madeZ t' b' = m at *
    subst e1
    subst e2
    have : g * (t * m.2) = g * (m.1 * b) := by grind
    have := Int.eq_of_mul_eq_mul_left (show g ≠ 0 by omega) this
    simp [this]
theorem made_zero {b : Int} (h : 0 < b) : madeZ 0 b = (0, 1) := by
  rw [made_eq_of (t' := 0) (b' := 1) h (by omega) (by simp)]
  decide
theorem diff_self {xs : List Int} : diffZ xs xs = List.replicate xs.length 0 := by
  unfold diffZ
  induction xs with
  | nil => rfl
  | cons x xs ih => simp [List.replicate_succ, ih]
theorem sum_rep0 {n : Nat} : (List.replicate n (0 : Int)).sum = 0 := by
  induction n with
  | zero => rfl
  | succ n ih => simp [List.replicate_succ, ih]
theorem both_self {xs : List Int} : bothZ xs xs = unevenZ xs := by
  unfold bothZ unevenZ dotZ
  have : (xs.zip xs).map (fun p : Int × Int => p.1 * p.2) = xs.map fun x => x * x := by
    induction xs with
    | nil => rfl
    | cons x xs ih => simp [ih]
  rw [this]
theorem far_self {kd : Kd} {xs : List Int} (h : 0 < xs.length) : farZ kd xs xs = (0, 1) := by
  have hl : (0 : Int) < (xs.length : Int) := by omega
  cases kd with
  | pl =>
    show madeZ ((diffZ xs xs).map fun d => d * d).sum xs.length = _
    rw [diff_self]
    have : ((List.replicate xs.length (0 : Int)).map fun d => d * d).sum = 0 := by
      rw [List.map_replicate]
      exact sum_rep0
    rw [this, made_zero hl]
  | mo =>
    show madeZ (unevenZ (diffZ xs xs)) ((xs.length : Int) * xs.length) = _
    have : unevenZ (diffZ xs xs) = 0 := by
      rw [diff_self]
      unfold unevenZ
      rw [List.map_replicate, sum_rep0]
      have : (List.replicate xs.length ((0 : Int) * 0)).sum = 0 := sum_rep0
      rw [this]
      simp
    rw [this, made_zero (Int.mul_pos hl hl)]
  | sh =>
    show (if unevenZ xs = 0 ∨ unevenZ xs = 0 then (if unevenZ xs = unevenZ xs then (0, 1) else (1, 1)) else madeZ (unevenZ xs * unevenZ xs - bothZ xs xs * (if bothZ xs xs < 0 then -bothZ xs xs else bothZ xs xs)) (unevenZ xs * unevenZ xs)) = _
    by_cases hz : unevenZ xs = 0
    · simp [hz]
    · have hp := uneven_pos hz
      rw [if_neg (by simp [hz]), both_self, if_neg (by omega), Int.sub_self, made_zero (Int.mul_pos hp hp)]
theorem abs_sq {B C : Int} (h : B * B ≤ C) : -C ≤ B * (if B < 0 then -B else B) ∧ B * (if B < 0 then -B else B) ≤ C := by
  split
  · rw [Int.mul_neg]
    have := sq_nn B
    omega
  · have := sq_nn B
    omega
/-- far as a ratio: top and bottom before it is made low -/
theorem far_ratio {kd : Kd} {xs ys : List Int} (h : xs.length = ys.length) (h0 : 0 < xs.length) : ∃ t b, 0 < b ∧ farZ kd xs ys = madeZ t b ∧ 0 ≤ t ∧ (kd = .pl → t = ((diffZ xs ys).map fun d => d * d).sum) ∧ (kd = .mo → t = unevenZ (diffZ xs ys)) ∧ (kd = .sh → t ≤ 2 * b) := by
  have hl : (0 : Int) < (xs.length : Int) := by omega
  cases kd with
  | pl =>
    refine ⟨((diffZ xs ys).map fun d => d * d).sum, xs.length, hl, rfl, sum_nn ?_, fun _ => rfl, by simp, by simp⟩
    intro z hz
    obtain ⟨y, _, rfl⟩ := List.mem_map.mp hz
    exact sq_nn _
  | mo => exact ⟨unevenZ (diffZ xs ys), (xs.length : Int) * xs.length, Int.mul_pos hl hl, rfl, uneven_nn _, by simp, fun _ => rfl, by simp⟩
  | sh =>
    by_cases hz : unevenZ xs = 0 ∨ unevenZ ys = 0
    · by_cases he : unevenZ xs = unevenZ ys
      · refine ⟨0, 1, by omega, ?_, by omega, by simp, by simp, by simp⟩
        show (if unevenZ xs = 0 ∨ unevenZ ys = 0 then (if unevenZ xs = unevenZ ys then (0, 1) else (1, 1)) else _) = _
        rw [if_pos hz, if_pos he]
        decide
      · refine ⟨1, 1, by omega, ?_, by omega, by simp, by simp, by simp⟩
        show (if unevenZ xs = 0 ∨ unevenZ ys = 0 then (if unevenZ xs = unevenZ ys then (0, 1) else (1, 1)) else _) = _
        rw [if_pos hz, if_neg he]
        decide
    · have hp := Int.mul_pos (uneven_pos fun h => hz (.inl h)) (uneven_pos fun h => hz (.inr h))
      have := abs_sq (both_cs h)
      refine ⟨unevenZ xs * unevenZ ys - bothZ xs ys * (if bothZ xs ys < 0 then -bothZ xs ys else bothZ xs ys), unevenZ xs * unevenZ ys, hp, ?_, ?_, by simp, by simp, fun _ => ?_⟩
      · show (if unevenZ xs = 0 ∨ unevenZ ys = 0 then _ else _) = _
        rw [if_neg hz]
      · omega
      · omega
theorem far_nn {kd : Kd} {xs ys : List Int} (h : xs.length = ys.length) (h0 : 0 < xs.length) : lessZ (farZ kd xs ys) (0, 1) = false := by
  obtain ⟨t, b, hb, e, ht, _⟩ := far_ratio (kd := kd) h h0
  rw [e, less_made_l hb]
  simp
  omega
/-- far is below 10 to the 40, for rows within ten figures -/
theorem far_top {kd : Kd} {xs ys : List Int} (h : xs.length = ys.length) (h0 : 0 < xs.length) (hx : Row 10 xs) (hy : Row 10 ys) : lessZ (10 ^ 40, 1) (farZ kd xs ys) = false := by
  obtain ⟨t, b, hb, e, ht, hp, hm, hs⟩ := far_ratio (kd := kd) h h0
  rw [e, less_made_r hb]
  have hd := hx.diff hy
  have sq : Bn (2 * (10 + 1) + 2) ((diffZ xs ys).map fun d => d * d).sum := by
    refine Bn.sum ?_ (by simpa using hd.2)
    intro z hz
    obtain ⟨y, h, rfl⟩ := List.mem_map.mp hz
    have := (hd.1 y h).mul (hd.1 y h)
    exact this
  have h10 : (10 : Int) ^ 39 ≤ 10 ^ 40 := by decide
  have h11 : (2 : Int) ≤ 10 ^ 40 := by decide
  have ht : t ≤ 10 ^ 40 * b := by
    have one : (10 : Int) ^ 40 * 1 ≤ 10 ^ 40 * b := Int.mul_le_mul_of_nonneg_left (by omega) (by omega)
    cases kd with
    | pl =>
      rw [hp rfl]
      have := (sq.mono (show _ ≤ 40 by decide)).2
      omega
    | mo =>
      rw [hm rfl]
      unfold unevenZ
      have a := (Bn.nat hd.2).mul sq
      have b := sq_nn (diffZ xs ys).sum
      have c := (a.mono (show _ ≤ 39 by decide)).2
      omega
    | sh =>
      have := hs rfl
      have : (2 : Int) * b ≤ 10 ^ 40 * b := Int.mul_le_mul_of_nonneg_right h11 (by omega)
      omega
  generalize (10 : Int) ^ 40 = T at *
  simp
  omega
end Rw
end PRwCau
section PRwTurn
set_option autoImplicit false
set_option linter.all false
set_option maxRecDepth 100000
/-! RwTurn: far of rows that are turned about, shifted, scaled. -/
namespace Rw
theorem sum_rev {xs : List Int} : xs.reverse.sum = xs.sum := by
  induction xs with
  | nil => rfl
  | cons x xs ih => rw [List.reverse_cons, List.sum_append, ih, List.sum_cons]; simp; omega
theorem uneven_rev {xs : List Int} : unevenZ xs.reverse = unevenZ xs := by
  unfold unevenZ
  rw [List.length_reverse, sum_rev, List.map_reverse, sum_rev]
theorem zip_rev : ∀ {xs ys : List Int}, xs.length = ys.length → xs.reverse.zip ys.reverse = (xs.zip ys).reverse
  | [], [], _ => rfl
  | x :: xs, y :: ys, h => by
    have h : xs.length = ys.length := by simpa using h
    rw [List.reverse_cons, List.reverse_cons, List.zip_append (by simpa using h), zip_rev h]
    simp
theorem far_rev {kd : Kd} {xs ys : List Int} (h : xs.length = ys.length) : farZ kd xs.reverse ys.reverse = farZ kd xs ys := by
  have hd : diffZ xs.reverse ys.reverse = (diffZ xs ys).reverse := by
    unfold diffZ
    rw [zip_rev h, List.map_reverse]
  have hb : bothZ xs.reverse ys.reverse = bothZ xs ys := by
    unfold bothZ dotZ
    rw [zip_rev h, List.map_reverse, sum_rev, sum_rev, sum_rev, List.length_reverse]
  cases kd with
  | pl =>
    show madeZ ((diffZ xs.reverse ys.reverse).map fun d => d * d).sum xs.reverse.length = madeZ ((diffZ xs ys).map fun d => d * d).sum xs.length
    rw [hd, List.map_reverse, sum_rev, List.length_reverse]
  | mo =>
    show madeZ (unevenZ (diffZ xs.reverse ys.reverse)) ((xs.reverse.length : Int) * xs.reverse.length) = madeZ (unevenZ (diffZ xs ys)) ((xs.length : Int) * xs.length)
    rw [hd, uneven_rev, List.length_reverse]
  | sh => simp only [farZ, uneven_rev, hb]
theorem sum_shift (c : Int) {xs : List Int} : (xs.map (· + c)).sum = xs.sum + xs.length * c := by
  induction xs with
  | nil => simp
  | cons x xs ih => simp only [List.map_cons, List.sum_cons, List.length_cons, ih]; push_cast; grind
theorem sqs_shift (c : Int) {xs : List Int} : ((xs.map (· + c)).map fun x => x * x).sum = (xs.map fun x => x * x).sum + 2 * c * xs.sum + xs.length * (c * c) := by
  induction xs with
  | nil => simp
  | cons x xs ih =>
    simp only [List.map_cons, List.sum_cons, List.length_cons, ih]
    push_cast
    grind
theorem uneven_shift (c : Int) {xs : List Int} : unevenZ (xs.map (· + c)) = unevenZ xs := by
  unfold unevenZ
  rw [sqs_shift, sum_shift, List.length_map]
  generalize (xs.length : Int) = n
  generalize (xs.map fun x => x * x).sum = a
  grind
theorem dot_shift (c : Int) : ∀ {xs ys : List Int}, xs.length = ys.length → dotZ (xs.map (· + c)) (ys.map (· + c)) = dotZ xs ys + c * xs.sum + c * ys.sum + xs.length * (c * c)
  | [], [], _ => by simp [dotZ]
  | x :: xs, y :: ys, h => by
    have ih := dot_shift c (xs := xs) (ys := ys) (by simpa using h)
    unfold dotZ at *
    simp only [List.map_cons, List.zip_cons_cons, List.sum_cons, List.length_cons, ih]
    push_cast
    grind
theorem both_shift (c : Int) {xs ys : List Int} (h : xs.length = ys.length) : bothZ (xs.map (· + c)) (ys.map (· + c)) = bothZ xs ys := by
  unfold bothZ
  rw [dot_shift c h, sum_shift, sum_shift, List.length_map, ← h]
  generalize (xs.length : Int) = n
  grind
theorem diff_shift (c : Int) : ∀ {xs ys : List Int}, diffZ (xs.map (· + c)) (ys.map (· + c)) = diffZ xs ys
  | [], _ => by simp [diffZ]
  | _ :: _, [] => by simp [diffZ]
  | x :: xs, y :: ys => by
    have ih := diff_shift c (xs := xs) (ys := ys)
    unfold diffZ at *
    simp only [List.map_cons, List.zip_cons_cons, ih]
    congr 1
    omega
theorem far_shift (c : Int) {kd : Kd} {xs ys : List Int} (h : xs.length = ys.length) : farZ kd (xs.map (· + c)) (ys.map (· + c)) = farZ kd xs ys := by
  cases kd with
  | pl => simp only [farZ, diff_shift, List.length_map]
  | mo => simp only [farZ, diff_shift, List.length_map]
  | sh => simp only [farZ, uneven_shift, both_shift c h]
theorem sum_scale (c : Int) {xs : List Int} : (xs.map (c * ·)).sum = c * xs.sum := by
  induction xs with
  | nil => simp
  | cons x xs ih => simp only [List.map_cons, List.sum_cons, ih]; grind
theorem sqs_scale (c : Int) {xs : List Int} : ((xs.map (c * ·)).map fun x => x * x).sum = c * c * (xs.map fun x => x * x).sum := by
  induction xs with
  | nil => simp
  | cons x xs ih => simp only [List.map_cons, List.sum_cons, ih]; grind
theorem uneven_scale (c : Int) {xs : List Int} : unevenZ (xs.map (c * ·)) = c * c * unevenZ xs := by
  unfold unevenZ
  rw [sqs_scale, sum_scale, List.length_map]
  generalize (xs.map fun x => x * x).sum = a
  grind
theorem dot_scale (c : Int) : ∀ {xs ys : List Int}, dotZ (xs.map (c * ·)) (ys.map (c * ·)) = c * c * dotZ xs ys
  | [], _ => by simp [dotZ]
  | _ :: _, [] => by simp [dotZ]
  | x :: xs, y :: ys => by
    have ih := dot_scale c (xs := xs) (ys := ys)
    unfold dotZ at *
    simp only [List.map_cons, List.zip_cons_cons, List.sum_cons, ih]
    grind
theorem both_scale (c : Int) {xs ys : List Int} : bothZ (xs.map (c * ·)) (ys.map (c * ·)) = c * c * bothZ xs ys := by
  unfold bothZ
  rw [dot_scale, sum_scale, sum_scale, List.length_map]
  grind
theorem diff_scale (c : Int) : ∀ {xs ys : List Int}, diffZ (xs.map (c * ·)) (ys.map (c * ·)) = (diffZ xs ys).map (c * ·)
  | [], _ => by simp [diffZ]
  | _ :: _, [] => by simp [diffZ]
  | x :: xs, y :: ys => by
    have ih := diff_scale c (xs := xs) (ys := ys)
    unfold diffZ at *
    simp only [List.map_cons, List.zip_cons_cons, ih]
    congr 1
    grind
/-- a far of rows that are c times as great -/
def grow (kd : Kd) (c : Int) (f : Int × Int) : Int × Int := match kd with
  | .sh => f
  | _ => madeZ (c * c * f.1) f.2
theorem grow_made {c t b : Int} (h : 0 < b) : madeZ (c * c * t) b = madeZ (c * c * (madeZ t b).1) (madeZ t b).2 := by
  obtain ⟨g, g0, e1, e2⟩ := made_spec (t := t) h
  have hp := made_pos (t := t) h
  generalize madeZ t b = m at *
  refine made_eq_of h hp ?_
  subst e1
  subst e2
  grind
theorem far_scale {c : Int} (hc : c ≠ 0) {kd : Kd} {xs ys : List Int} (h0 : 0 < xs.length) : farZ kd (xs.map (c * ·)) (ys.map (c * ·)) = grow kd c (farZ kd xs ys) := by
  have hl : (0 : Int) < (xs.length : Int) := by omega
  have hc2 : 0 < c * c := by
    have := sq_nn c
    have : c * c ≠ 0 := Int.mul_ne_zero hc hc
    omega
  cases kd with
  | pl =>
    show madeZ ((diffZ (xs.map (c * ·)) (ys.map (c * ·))).map fun d => d * d).sum (xs.map (c * ·)).length = madeZ (c * c * (madeZ ((diffZ xs ys).map fun d => d * d).sum xs.length).1) (madeZ ((diffZ xs ys).map fun d => d * d).sum xs.length).2
    rw [← grow_made hl, diff_scale, sqs_scale, List.length_map]
  | mo =>
    show madeZ (unevenZ (diffZ (xs.map (c * ·)) (ys.map (c * ·)))) (((xs.map (c * ·)).length : Int) * (xs.map (c * ·)).length) = madeZ (c * c * (madeZ (unevenZ (diffZ xs ys)) ((xs.length : Int) * xs.length)).1) (madeZ (unevenZ (diffZ xs ys)) ((xs.length : Int) * xs.length)).2
    rw [← grow_made (Int.mul_pos hl hl), diff_scale, uneven_scale, List.length_map]
  | sh =>
    have z : ∀ U : Int, c * c * U = 0 ↔ U = 0 := by
      intro U
      constructor
      · intro h
        rcases Int.mul_eq_zero.mp h with h | h
        · omega
        · exact h
      · intro h; rw [h, Int.mul_zero]
    show (if unevenZ (xs.map (c * ·)) = 0 ∨ unevenZ (ys.map (c * ·)) = 0 then (if unevenZ (xs.map (c * ·)) = unevenZ (ys.map (c * ·)) then (0, 1) else (1, 1)) else madeZ (unevenZ (xs.map (c * ·)) * unevenZ (ys.map (c * ·)) - bothZ (xs.map (c * ·)) (ys.map (c * ·)) * (if bothZ (xs.map (c * ·)) (ys.map (c * ·)) < 0 then -bothZ (xs.map (c * ·)) (ys.map (c * ·)) else bothZ (xs.map (c * ·)) (ys.map (c * ·)))) (unevenZ (xs.map (c * ·)) * unevenZ (ys.map (c * ·))))
      = (if unevenZ xs = 0 ∨ unevenZ ys = 0 then (if unevenZ xs = unevenZ ys then (0, 1) else (1, 1)) else madeZ (unevenZ xs * unevenZ ys - bothZ xs ys * (if bothZ xs ys < 0 then -bothZ xs ys else bothZ xs ys)) (unevenZ xs * unevenZ ys))
    rw [uneven_scale, uneven_scale, both_scale]
    simp only [z]
    by_cases h1 : unevenZ xs = 0 ∨ unevenZ ys = 0
    · rw [if_pos h1, if_pos h1]
      have : (c * c * unevenZ xs = c * c * unevenZ ys) ↔ unevenZ xs = unevenZ ys := ⟨fun h => Int.eq_of_mul_eq_mul_left (by omega) h, fun h => by rw [h]⟩
      simp only [this]
    · rw [if_neg h1, if_neg h1]
      have hu := uneven_pos fun h => h1 (.inl h)
      have hv := uneven_pos fun h => h1 (.inr h)
      have hs : (c * c * bothZ xs ys < 0) ↔ bothZ xs ys < 0 := by
        constructor
        · intro h
          by_cases hb : bothZ xs ys < 0
          · exact hb
          · have := Int.mul_nonneg (Int.le_of_lt hc2) (show 0 ≤ bothZ xs ys by omega)
            omega
        · intro h
          exact Int.mul_neg_of_pos_of_neg hc2 h
      simp only [hs]
      refine made_eq_of (Int.mul_pos (Int.mul_pos hc2 hu) (Int.mul_pos hc2 hv)) (Int.mul_pos hu hv) ?_
      generalize unevenZ xs = U
      generalize unevenZ ys = V
      generalize bothZ xs ys = B
      split <;> grind
theorem grow_less {kd : Kd} {c : Int} (hc : c ≠ 0) {f g : Int × Int} (hf : 0 < f.2) (hg : 0 < g.2) : lessZ (grow kd c f) (grow kd c g) = lessZ f g := by
  have hc2 : 0 < c * c := by
    have := sq_nn c
    have : c * c ≠ 0 := Int.mul_ne_zero hc hc
    omega
  have key : lessZ (madeZ (c * c * f.1) f.2) (madeZ (c * c * g.1) g.2) = lessZ f g := by
    rw [less_made_r hg]
    have e : decide ((madeZ (c * c * f.1) f.2).1 * g.2 < c * c * g.1 * (madeZ (c * c * f.1) f.2).2) = lessZ (madeZ (c * c * f.1) f.2) (c * c * g.1, g.2) := rfl
    rw [e, less_made_l hf]
    unfold lessZ
    congr 1
    apply propext
    simp only
    rw [Int.mul_assoc (c * c), Int.mul_assoc (c * c)]
    exact Int.mul_lt_mul_left hc2
  cases kd with
  | sh => rfl
  | pl => exact key
  | mo => exact key
/-! ### stretches of rows that are changed -/
theorem stretches_map {f : Int → Int} {xs : List Int} {l : Nat} : stretchesZ (xs.map f) l = (stretchesZ xs l).map (List.map f) := by
  simp [stretchesZ, cutZ, List.map_drop, List.map_take, Function.comp_def]
theorem nth_map {f : Int → Int} {ss : List (List Int)} {p : Nat} : nthZ (ss.map (List.map f)) p = (nthZ ss p).map f := by
  unfold nthZ
  rw [List.getD_eq_getElem?_getD, List.getD_eq_getElem?_getD, List.getElem?_map]
  cases ss[p]? <;> rfl
theorem nth_rev {xs : List Int} {l p : Nat} (h : p < xs.length + 1 - l) (hl : 0 < l) : nthZ (stretchesZ xs.reverse l) p = (nthZ (stretchesZ xs l) (xs.length + 1 - l - 1 - p)).reverse := by
  rw [nth_stretch (by simpa using h), nth_stretch (by omega)]
  unfold cutZ
  rw [List.drop_reverse, List.take_reverse, List.drop_take]
  congr 2
  · simp; omega
  · simp; congr 1; omega
theorem nearTo_map {kd : Kd} {ss ss' : List (List Int)} {gap p : Nat} {φ : Int × Int → Int × Int} (hp : ∀ q, q < ss.length → 0 < (farAt kd ss p q).2) (he : ∀ q, q < ss.length → farAt kd ss' p q = φ (farAt kd ss p q)) (hl : ∀ f g : Int × Int, 0 < f.2 → 0 < g.2 → lessZ (φ f) (φ g) = lessZ f g) :
    ∀ n, n ≤ ss.length → nearTo kd ss' gap p n = (nearTo kd ss gap p n).map (fun x => (φ x.1, x.2)) ∧ ∀ x, nearTo kd ss gap p n = some x → 0 < x.1.2
  | 0, _ => ⟨rfl, by intro x h; cases h⟩
  | n + 1, hn => by
    obtain ⟨ih, ip⟩ := nearTo_map (gap := gap) hp he hl n (by omega)
    have hq := hp n (by omega)
    simp only [nearTo]
    rw [ih, he n (by omega)]
    split
    · cases e : nearTo kd ss gap p n with
      | none =>
        refine ⟨rfl, ?_⟩
        intro x hx
        simp only [stepZ, Option.some.injEq] at hx
        subst hx
        exact hq
      | some y =>
        have hy := ip y e
        simp only [Option.map_some, stepZ, hl _ _ hq hy]
        constructor
        · split <;> rfl
        · intro x hx
          split at hx
          · cases hx; exact hq
          · cases hx; exact hy
    · exact ⟨rfl, ip⟩
theorem min_set {π : Type} {L L' : List ((Int × Int) × π)} (hL : ∀ x ∈ L, Low x.1) (hL' : ∀ x ∈ L', Low x.1) (h : ∀ x ∈ L, ∃ y ∈ L', y.1 = x.1) (h' : ∀ y ∈ L', ∃ x ∈ L, x.1 = y.1) : (minOf L).map (·.1) = (minOf L').map (·.1) := by
  have p := fun x hx => (hL x hx).1
  have p' := fun x hx => (hL' x hx).1
  cases e : minOf L with
  | none =>
    have := (minOf_none p).mp e
    subst this
    cases e' : minOf L' with
    | none => rfl
    | some y =>
      obtain ⟨x, hx, _⟩ := h' y (minOf_some p' e').mem
      cases hx
  | some x =>
    have m := minOf_some p e
    cases e' : minOf L' with
    | none =>
      have := (minOf_none p').mp e'
      subst this
      obtain ⟨y, hy, _⟩ := h x m.mem
      cases hy
    | some y =>
      have m' := minOf_some p' e'
      obtain ⟨y1, hy1, ey⟩ := h x m.mem
      obtain ⟨x1, hx1, ex⟩ := h' y m'.mem
      have a := m'.le hy1
      have b := m.le hx1
      rw [ey] at a
      rw [ex] at b
      simp only [Option.map_some]
      rw [low_same (hL x m.mem) (hL' y m'.mem) a b]
theorem candN_mem {kd : Kd} {ss : List (List Int)} {gap p n : Nat} {x : (Int × Int) × Nat} : x ∈ candN kd ss gap p n ↔ x.2 < n ∧ gap ≤ (x.2 - p) + (p - x.2) ∧ x.1 = farAt kd ss p x.2 := by
  unfold candN
  rw [List.mem_filterMap]
  constructor
  · rintro ⟨q, hq, e⟩
    split at e
    · next hg => cases e; exact ⟨List.mem_range.mp hq, hg, rfl⟩
    · cases e
  · rintro ⟨h1, h2, h3⟩
    refine ⟨x.2, List.mem_range.mpr h1, ?_⟩
    rw [if_pos h2, ← h3]
theorem near_cand {kd : Kd} {ss : List (List Int)} {gap p : Nat} : nearZ kd ss gap p = minOf (candN kd ss gap p ss.length) := nearTo_min
theorem candN_low {kd : Kd} {ss : List (List Int)} {gap p n : Nat} (hs : ∀ s ∈ ss, 0 < s.length) (hp : p < ss.length) : ∀ x ∈ candN kd ss gap p n, Low x.1 := by
  intro x hx
  rw [(candN_mem.mp hx).2.2]
  exact farAt_low hs hp
/-- the far of a row of the table, without the place -/
def farO : Option ((Int × Int) × Nat) → D
  | none => .non
  | some x => frD x.1
def farP : Option (Int × Int) → D
  | none => .non
  | some x => frD x
theorem farO_map {b : Option ((Int × Int) × Nat)} : farO b = farP (b.map (·.1)) := by cases b <;> rfl
theorem near_rev {k : Nat} {kd : Kd} {xs : List Int} {gap l p : Nat} (hx : Row k xs) (hl : 0 < l) (hp : p < xs.length + 1 - l) : farO (nearZ kd (stretchesZ xs.reverse l) gap p) = farO (nearZ kd (stretchesZ xs l) gap (xs.length + 1 - l - 1 - p)) := by
  have hs := stretches_fine hx hl
  have hs' := stretches_fine (row_rev hx) hl
  have n1 : (stretchesZ xs l).length = xs.length + 1 - l := stretches_len
  have n2 : (stretchesZ xs.reverse l).length = xs.length + 1 - l := by rw [stretches_len, List.length_reverse]
  have hf : ∀ q, q < xs.length + 1 - l → farAt kd (stretchesZ xs.reverse l) p q = farAt kd (stretchesZ xs l) (xs.length + 1 - l - 1 - p) (xs.length + 1 - l - 1 - q) := by
    intro q hq
    unfold farAt
    rw [nth_rev hp hl, nth_rev hq hl]
    obtain ⟨w, hw⟩ := stretches_even (xs := xs) (l := l)
    exact far_rev (by rw [hw _ (getD_mem (by omega)), hw _ (getD_mem (by omega))])
  rw [farO_map, farO_map, near_cand, near_cand, n1, n2]
  congr 1
  refine min_set (candN_low (fun s h => (hs'.1 s h).2) (by omega)) (candN_low (fun s h => (hs.1 s h).2) (by omega)) ?_ ?_
  · intro x hx
    obtain ⟨h1, h2, h3⟩ := candN_mem.mp hx
    refine ⟨(x.1, xs.length + 1 - l - 1 - x.2), candN_mem.mpr ⟨by simp only; omega, by simp only; omega, ?_⟩, rfl⟩
    rw [h3, hf _ h1]
  · intro x hx
    obtain ⟨h1, h2, h3⟩ := candN_mem.mp hx
    refine ⟨(x.1, xs.length + 1 - l - 1 - x.2), candN_mem.mpr ⟨by simp only; omega, by simp only; omega, ?_⟩, rfl⟩
    simp only
    rw [hf _ (by omega), h3]
    congr 1
    omega
theorem table_rev {k : Nat} {kd : Kd} {xs : List Int} {gap l : Nat} (hx : Row k xs) (hl : 0 < l) : (tableZ kd xs.reverse gap l).map farO = ((tableZ kd xs gap l).map farO).reverse := by
  have n1 : (stretchesZ xs l).length = xs.length + 1 - l := stretches_len
  have n2 : (stretchesZ xs.reverse l).length = xs.length + 1 - l := by rw [stretches_len, List.length_reverse]
  apply List.ext_getElem
  · simp [tableZ_len]
  · intro i h1 h2
    have hi : i < xs.length + 1 - l := by simpa [tableZ_len] using h1
    simp only [tableZ, n1, n2, List.getElem_map, List.getElem_reverse, List.getElem_range, List.length_map, List.length_range]
    exact near_rev hx hl hi
theorem near_wide {kd : Kd} {ss : List (List Int)} {gap gap' p : Nat} (hs : ∀ s ∈ ss, 0 < s.length) (hp : p < ss.length) (hg : gap ≤ gap') : (nearZ kd ss gap p = none → nearZ kd ss gap' p = none) ∧ ∀ x y, nearZ kd ss gap p = some x → nearZ kd ss gap' p = some y → lessZ y.1 x.1 = false := by
  have p1 := fun x hx => (candN_low (kd := kd) (gap := gap) (n := ss.length) hs hp x hx).1
  have p2 := fun x hx => (candN_low (kd := kd) (gap := gap') (n := ss.length) hs hp x hx).1
  have sub : ∀ x ∈ candN kd ss gap' p ss.length, x ∈ candN kd ss gap p ss.length := by
    intro x hx
    obtain ⟨h1, h2, h3⟩ := candN_mem.mp hx
    exact candN_mem.mpr ⟨h1, by omega, h3⟩
  rw [near_cand, near_cand]
  constructor
  · intro h
    have e := (minOf_none p1).mp h
    refine (minOf_none p2).mpr ?_
    cases e2 : candN kd ss gap' p ss.length with
    | nil => rfl
    | cons x L =>
      have := sub x (by rw [e2]; simp)
      rw [e] at this
      cases this
  · intro x y h1 h2
    exact (minOf_some p1 h1).le (sub y (minOf_some p2 h2).mem)
theorem table_map {k : Nat} {kd : Kd} {f : Int → Int} {φ : Int × Int → Int × Int} {xs : List Int} {gap l : Nat} (hx : Row k xs) (hl : 0 < l) (he : ∀ as bs : List Int, as.length = bs.length → 0 < as.length → farZ kd (as.map f) (bs.map f) = φ (farZ kd as bs))
    (hle : ∀ a b : Int × Int, 0 < a.2 → 0 < b.2 → lessZ (φ a) (φ b) = lessZ a b) : tableZ kd (xs.map f) gap l = (tableZ kd xs gap l).map (Option.map fun x => (φ x.1, x.2)) := by
  have hs := stretches_fine hx hl
  unfold tableZ
  rw [List.map_map, stretches_map, List.length_map]
  apply List.map_congr_left
  intro p hp
  have hp := List.mem_range.mp hp
  obtain ⟨w, hw⟩ := stretches_even (xs := xs) (l := l)
  simp only [Function.comp_apply, nearZ, List.length_map]
  refine (nearTo_map (φ := φ) (fun q hq => (farAt_low (fun s h => (hs.1 s h).2) hp).1) ?_ hle _ (Nat.le_refl _)).1
  intro q hq
  unfold farAt
  rw [nth_map, nth_map]
  exact he _ _ (by rw [hw _ (getD_mem hp), hw _ (getD_mem hq)]) (hs.1 _ (getD_mem hp)).2
theorem table_shift {k : Nat} {kd : Kd} {xs : List Int} {gap l : Nat} (c : Int) (hx : Row k xs) (hl : 0 < l) : tableZ kd (xs.map (· + c)) gap l = tableZ kd xs gap l := by
  rw [table_map (φ := id) hx hl (fun as bs h _ => far_shift c h) (fun _ _ _ _ => rfl)]
  simp
theorem table_scale {k : Nat} {kd : Kd} {xs : List Int} {gap l : Nat} {c : Int} (hc : c ≠ 0) (hx : Row k xs) (hl : 0 < l) : tableZ kd (xs.map (c * ·)) gap l = (tableZ kd xs gap l).map (Option.map fun x => (grow kd c x.1, x.2)) :=
  table_map hx hl (fun as bs h h0 => far_scale hc h0) (fun a b ha hb => grow_less hc ha hb)
end Rw
end PRwTurn
section PRwSpan
set_option autoImplicit false
set_option linter.all false
set_option maxRecDepth 100000
/-! RwSpan: the nearest two and the loneliest of rows that are turned about, shifted, scaled. -/
namespace Rw
abbrev Bst := (Int × Int) × (Nat × Nat)
def fo (b : Option Bst) : Option (Int × Int) := b.map (·.1)
/-- both, from the table alone -/
def pairT (T : List (Option ((Int × Int) × Nat))) : Option Bst := minOf (candL T (List.range T.length))
def loneT (T : List (Option ((Int × Int) × Nat))) : Option Bst := loneZ T (List.range T.length)
theorem pair_T {k : Nat} {kd : Kd} {xs : List Int} {gap l : Nat} (hx : Row k xs) (hl : 0 < l) (g0 : 1 ≤ gap) : pairZ kd (stretchesZ xs l) gap (List.range (stretchesZ xs l).length) = pairT (tableZ kd xs gap l) := by
  have hs := stretches_fine hx hl
  have hn : (tableZ kd xs gap l).length = (stretchesZ xs l).length := by rw [tableZ_len, stretches_len]
  unfold pairT
  rw [hn, candL_table, pair_table (fun s h => (hs.1 s h).2) stretches_even g0]
theorem max_set {π : Type} {L L' : List ((Int × Int) × π)} (hL : ∀ x ∈ L, Low x.1) (hL' : ∀ x ∈ L', Low x.1) (h : ∀ x ∈ L, ∃ y ∈ L', y.1 = x.1) (h' : ∀ y ∈ L', ∃ x ∈ L, x.1 = y.1) : (L.foldl maxStep none).map (·.1) = (L'.foldl maxStep none).map (·.1) := by
  have e1 : minOf (L.map negX) = (L.foldl maxStep none).map negX := maxOf_neg (s := none)
  have e2 : minOf (L'.map negX) = (L'.foldl maxStep none).map negX := maxOf_neg (s := none)
  have lo : ∀ f : Int × Int, Low f → Low (-f.1, f.2) := fun f hf => ⟨hf.1, by show Int.gcd (-f.1) f.2 = 1; rw [Int.neg_gcd]; exact hf.2⟩
  have key := min_set (L := L.map negX) (L' := L'.map negX) (by
    intro x hx
    obtain ⟨y, hy, rfl⟩ := List.mem_map.mp hx
    exact lo _ (hL y hy)) (by
    intro x hx
    obtain ⟨y, hy, rfl⟩ := List.mem_map.mp hx
    exact lo _ (hL' y hy)) (by
    intro x hx
    obtain ⟨y, hy, rfl⟩ := List.mem_map.mp hx
    obtain ⟨z, hz, e⟩ := h y hy
    exact ⟨negX z, List.mem_map_of_mem hz, by simp [negX, e]⟩) (by
    intro x hx
    obtain ⟨y, hy, rfl⟩ := List.mem_map.mp hx
    obtain ⟨z, hz, e⟩ := h' y hy
    exact ⟨negX z, List.mem_map_of_mem hz, by simp [negX, e]⟩)
  rw [e1, e2] at key
  cases a : L.foldl maxStep none with
  | none =>
    cases b : L'.foldl maxStep none with
    | none => rfl
    | some y => rw [a, b] at key; cases key
  | some x =>
    cases b : L'.foldl maxStep none with
    | none => rw [a, b] at key; cases key
    | some y =>
      rw [a, b] at key
      simp only [Option.map_some, negX, Option.some.injEq, Prod.mk.injEq] at key ⊢
      exact Prod.ext (by omega) key.2
def LowT (T : List (Option ((Int × Int) × Nat))) : Prop := ∀ p f r, rowAt T p = some (f, r) → Low f
theorem low_T {k : Nat} {kd : Kd} {xs : List Int} {gap l : Nat} (hx : Row k xs) (hl : 0 < l) : LowT (tableZ kd xs gap l) := fun p f r h => tab_low hx hl h
theorem candT_low {T : List (Option ((Int × Int) × Nat))} (h : LowT T) {fr : List Nat} : ∀ x ∈ candL T fr, Low x.1 := fun x hx => h _ _ _ (candL_mem.mp hx).2
theorem farO_inj {a b : Option ((Int × Int) × Nat)} {f : Int × Int} {r : Nat} (h : farO a = farO b) (ha : a = some (f, r)) : ∃ r', b = some (f, r') := by
  subst ha
  cases b with
  | none => simp [farO, frD] at h
  | some y =>
    obtain ⟨⟨c, d⟩, r'⟩ := y
    simp [farO, frD] at h
    exact ⟨r', by rw [← h.1, ← h.2]⟩
/-- tables whose fars are turned about hold the same fars -/
theorem cand_rev {T T' : List (Option ((Int × Int) × Nat))} (h : T'.map farO = (T.map farO).reverse) : ∀ x ∈ candL T' (List.range T'.length), ∃ y ∈ candL T (List.range T.length), y.1 = x.1 := by
  intro x hx
  have hl : T'.length = T.length := by
    have := congrArg List.length h
    simpa using this
  obtain ⟨h1, h2⟩ := candL_mem.mp hx
  have h1 := List.mem_range.mp h1
  have e : farO (rowAt T' x.2.1) = farO (rowAt T (T.length - 1 - x.2.1)) := by
    have := congrArg (fun l => l[x.2.1]?) h
    simp only [List.getElem?_map] at this
    rw [List.getElem?_reverse (by simpa using (by omega : x.2.1 < T.length))] at this
    simp only [List.getElem?_map, List.length_map] at this
    unfold rowAt
    rw [List.getD_eq_getElem?_getD, List.getD_eq_getElem?_getD]
    rw [List.getElem?_eq_getElem h1, List.getElem?_eq_getElem (by omega)] at this ⊢
    simpa using this
  obtain ⟨r', hr⟩ := farO_inj e h2
  exact ⟨(x.1, T.length - 1 - x.2.1, r'), candL_mem.mpr ⟨List.mem_range.mpr (by simp only; omega), hr⟩, rfl⟩
theorem both_rev {T T' : List (Option ((Int × Int) × Nat))} (hT : LowT T) (hT' : LowT T') (h : T'.map farO = (T.map farO).reverse) : fo (pairT T') = fo (pairT T) ∧ fo (loneT T') = fo (loneT T) := by
  have h' : T.map farO = (T'.map farO).reverse := by rw [h, List.reverse_reverse]
  constructor
  · exact min_set (candT_low hT') (candT_low hT) (cand_rev h) (fun y hy => cand_rev h' y hy)
  · unfold loneT
    rw [loneZ_fold, loneZ_fold]
    exact max_set (candT_low hT') (candT_low hT) (cand_rev h) (fun y hy => cand_rev h' y hy)
theorem step_map {π : Type} {φ : Int × Int → Int × Int} (hle : ∀ a b : Int × Int, 0 < a.2 → 0 < b.2 → lessZ (φ a) (φ b) = lessZ a b) {L : List ((Int × Int) × π)} : ∀ {s : Option ((Int × Int) × π)}, (∀ x, s = some x → 0 < x.1.2) → (∀ x ∈ L, 0 < x.1.2) →
    (L.map fun x => (φ x.1, x.2)).foldl minStep (s.map fun x => (φ x.1, x.2)) = (L.foldl minStep s).map (fun x => (φ x.1, x.2)) ∧ (L.map fun x => (φ x.1, x.2)).foldl maxStep (s.map fun x => (φ x.1, x.2)) = (L.foldl maxStep s).map (fun x => (φ x.1, x.2)) := by
  induction L with
  | nil => intro s _ _; exact ⟨rfl, rfl⟩
  | cons y L ih =>
    intro s hs hL
    have hy := hL y (by simp)
    have hL' : ∀ x ∈ L, 0 < x.1.2 := fun x hx => hL x (by simp [hx])
    have p1 : ∀ x, minStep s y = some x → 0 < x.1.2 := minStep_pos hs hy
    have p2 : ∀ x, maxStep s y = some x → 0 < x.1.2 := by
      intro x hx
      cases s with
      | none => cases hx; exact hy
      | some g =>
        simp only [maxStep] at hx
        split at hx
        · cases hx; exact hy
        · cases hx; exact hs _ rfl
    have i1 := (ih p1 hL').1
    have i2 := (ih p2 hL').2
    simp only [List.map_cons, List.foldl_cons]
    refine ⟨?_, ?_⟩
    · rw [← i1]
      congr 1
      cases s with
      | none => rfl
      | some g =>
        simp only [Option.map_some, minStep, hle _ _ hy (hs g rfl)]
        split <;> rfl
    · rw [← i2]
      congr 1
      cases s with
      | none => rfl
      | some g =>
        simp only [Option.map_some, maxStep, hle _ _ (hs g rfl) hy]
        split <;> rfl
theorem cand_map {φ : Int × Int → Int × Int} {T : List (Option ((Int × Int) × Nat))} {fr : List Nat} : candL (T.map (Option.map fun x => (φ x.1, x.2))) fr = (candL T fr).map fun x => (φ x.1, x.2) := by
  unfold candL
  rw [List.map_filterMap]
  congr 1
  funext p
  have : rowAt (T.map (Option.map fun x : (Int × Int) × Nat => (φ x.1, x.2))) p = (rowAt T p).map fun x => (φ x.1, x.2) := by
    unfold rowAt
    rw [List.getD_eq_getElem?_getD, List.getD_eq_getElem?_getD, List.getElem?_map]
    cases T[p]? <;> rfl
  rw [this]
  cases rowAt T p <;> rfl
theorem both_map {φ : Int × Int → Int × Int} (hle : ∀ a b : Int × Int, 0 < a.2 → 0 < b.2 → lessZ (φ a) (φ b) = lessZ a b) {T : List (Option ((Int × Int) × Nat))} (hT : LowT T) :
    fo (pairT (T.map (Option.map fun x => (φ x.1, x.2)))) = (fo (pairT T)).map φ ∧ fo (loneT (T.map (Option.map fun x => (φ x.1, x.2)))) = (fo (loneT T)).map φ := by
  have hp : ∀ x ∈ candL T (List.range T.length), 0 < x.1.2 := fun x hx => (candT_low hT x hx).1
  have s := step_map hle (L := candL T (List.range T.length)) (s := none) (by intro x h; cases h) hp
  unfold pairT loneT fo minOf
  rw [loneZ_fold, loneZ_fold, List.length_map, cand_map]
  refine ⟨?_, ?_⟩
  · have := s.1
    simp only [Option.map_none] at this
    rw [this, Option.map_map, Option.map_map]
    rfl
  · have := s.2
    simp only [Option.map_none] at this
    rw [this, Option.map_map, Option.map_map]
    rfl
theorem grow_neg {kd : Kd} {f : Int × Int} (h : Low f) : grow kd (-1) f = f := by
  have e : madeZ ((-1) * (-1) * f.1) f.2 = f := by
    refine low_same (made_low h.1) h ?_ ?_
    · rw [less_made_l h.1]; simp
    · rw [less_made_r h.1]; simp
  cases kd with
  | sh => rfl
  | pl => exact e
  | mo => exact e
/-- a far as told, times a number -/
def vD (by' : Int) : Option (Int × Int) → D
  | none => .non
  | some f => frD (madeZ (f.1 * by') f.2)
theorem made_one {f : Int × Int} (h : Low f) : madeZ (f.1 * 1) f.2 = f := by
  refine low_same (made_low h.1) h ?_ ?_
  · rw [less_made_l h.1]; simp
  · rw [less_made_r h.1]; simp
def byZ (kd : Kd) (c : Int) : Int := match kd with
  | .sh => 1
  | _ => c * c
theorem vD_grow {kd : Kd} {c : Int} {b : Option (Int × Int)} (h : ∀ f, b = some f → Low f) : vD 1 (b.map (grow kd c)) = vD (byZ kd c) b := by
  cases b with
  | none => rfl
  | some f =>
    have hf := h f rfl
    simp only [Option.map_some, vD]
    cases kd with
    | sh => simp [grow, byZ]
    | pl =>
      have : Low (grow .pl c f) := made_low hf.1
      rw [made_one this]
      simp [grow, Int.mul_comm, byZ]
    | mo =>
      have : Low (grow .mo c f) := made_low hf.1
      rw [made_one this]
      simp [grow, Int.mul_comm, byZ]
theorem cut_succ {xs : List Int} {l p : Nat} (h : p + l < xs.length) : ∃ z, cutZ xs (l + 1) p = cutZ xs l p ++ [z] := by
  unfold cutZ
  rw [List.take_succ]
  have : (xs.drop p)[l]? = some ((xs.drop p)[l]'(by simp; omega)) := List.getElem?_eq_getElem _
  rw [this]
  exact ⟨_, rfl⟩
theorem sqs_grow {xs : List Int} {l p q : Nat} (hp : p + l < xs.length) (hq : q + l < xs.length) : ((diffZ (cutZ xs l p) (cutZ xs l q)).map fun d => d * d).sum ≤ ((diffZ (cutZ xs (l + 1) p) (cutZ xs (l + 1) q)).map fun d => d * d).sum := by
  obtain ⟨a, ea⟩ := cut_succ hp
  obtain ⟨b, eb⟩ := cut_succ hq
  have hl : (cutZ xs l p).length = (cutZ xs l q).length := by simp [cutZ]; omega
  rw [ea, eb]
  unfold diffZ
  rw [List.zip_append hl]
  simp
  have := sq_nn (a - b)
  omega
theorem pair_longer {xs : List Int} {gap l k : Nat} (hx : Row k xs) (hl : 0 < l) {x : Bst} (h : pairZ .pl (stretchesZ xs (l + 1)) gap (List.range (stretchesZ xs (l + 1)).length) = some x) :
    ∃ y, pairZ .pl (stretchesZ xs l) gap (List.range (stretchesZ xs l).length) = some y ∧ (l : Int) * y.1.1 * x.1.2 ≤ ((l : Int) + 1) * x.1.1 * y.1.2 ∧ 0 < y.1.2 := by
  have s1 := stretches_fine hx (show 0 < l + 1 by omega)
  have s0 := stretches_fine hx hl
  have n1 : (stretchesZ xs (l + 1)).length = xs.length + 1 - (l + 1) := stretches_len
  have n0 : (stretchesZ xs l).length = xs.length + 1 - l := stretches_len
  have pos0 := candP_pos (kd := .pl) (gap := gap) (fun s h => (s0.1 s h).2) (fr := List.range (stretchesZ xs l).length) (fun p hp => List.mem_range.mp hp)
  obtain ⟨h1, h2, h3, h4⟩ := candP_mem.mp (minOf_some (candP_pos (fun s h => (s1.1 s h).2) (fun p hp => List.mem_range.mp hp)) h).mem
  have h1 := List.mem_range.mp h1
  have h2 := List.mem_range.mp h2
  have hc : (farAt .pl (stretchesZ xs l) x.2.1 x.2.2, x.2.1, x.2.2) ∈ candP .pl (stretchesZ xs l) gap (List.range (stretchesZ xs l).length) :=
    candP_mem.mpr ⟨List.mem_range.mpr (by simp only; omega), List.mem_range.mpr (by simp only; omega), h3, rfl⟩
  cases e : pairZ .pl (stretchesZ xs l) gap (List.range (stretchesZ xs l).length) with
  | none =>
    rw [(minOf_none pos0).mp e] at hc
    cases hc
  | some y =>
    have m := minOf_some pos0 e
    have le := m.le hc
    have yp := pos0 y m.mem
    refine ⟨y, rfl, ?_, yp⟩
    simp only [farAt] at le h4
    rw [nth_stretch (by omega), nth_stretch (by omega)] at le h4
    have l1 : (cutZ xs (l + 1) x.2.1).length = l + 1 := by simp [cutZ]; omega
    have l0 : (cutZ xs l x.2.1).length = l := by simp [cutZ]; omega
    simp only [farZ, l1] at h4
    simp only [farZ, l0] at le
    have sg := sqs_grow (xs := xs) (l := l) (p := x.2.1) (q := x.2.2) (by omega) (by omega)
    generalize ((diffZ (cutZ xs l x.2.1) (cutZ xs l x.2.2)).map fun d => d * d).sum = S at *
    generalize ((diffZ (cutZ xs (l + 1) x.2.1) (cutZ xs (l + 1) x.2.2)).map fun d => d * d).sum = S' at *
    have b1 : (0 : Int) < ((l + 1 : Nat) : Int) := by omega
    rw [less_made_l (by omega)] at le
    simp only [decide_eq_false_iff_not] at le
    obtain ⟨g, g0, e1, e2⟩ := made_spec (t := S') b1
    have xp := made_pos (t := S') b1
    rw [h4]
    generalize madeZ S' ((l + 1 : Nat) : Int) = f at *
    have c1 : S' * f.2 = f.1 * ((l + 1 : Nat) : Int) := by rw [e2, e1]; grind
    have c2 : (l : Int) * y.1.1 ≤ S * y.1.2 := by rw [Int.mul_comm]; omega
    have c3 := Int.mul_le_mul_of_nonneg_right c2 (Int.le_of_lt xp)
    have c4 : S * y.1.2 * f.2 ≤ S' * y.1.2 * f.2 := Int.mul_le_mul_of_nonneg_right (Int.mul_le_mul_of_nonneg_right sg (Int.le_of_lt yp)) (Int.le_of_lt xp)
    have c5 : S' * y.1.2 * f.2 = ((l : Int) + 1) * f.1 * y.1.2 := by
      have : S' * y.1.2 * f.2 = S' * f.2 * y.1.2 := by grind
      rw [this, c1]
      push_cast
      grind
    omega
@[simp ↓] theorem ok_leT {a b c d : Int} {M : DSt} {P : Dv × DSt → Prop} : Ok (oLeT (.d (.tup [.int a, .int b])) (.d (.tup [.int c, .int d])) M) P ↔ P (.d (.bl (if a = c then decide (b ≤ d) else decide (a ≤ c))), M) := by
  show Ok (some _) P ↔ _
  simp
end Rw
end PRwSpan
section PRwAff
set_option autoImplicit false
set_option linter.all false
set_option maxRecDepth 100000
/-! RwAff: far where one side alone is shifted or scaled. -/
namespace Rw
theorem diff_two (c d : Int) : ∀ {xs ys : List Int}, diffZ (xs.map (· + c)) (ys.map (· + d)) = (diffZ xs ys).map (· + (c - d))
  | [], _ => by simp [diffZ]
  | _ :: _, [] => by simp [diffZ]
  | x :: xs, y :: ys => by
    have ih := diff_two c d (xs := xs) (ys := ys)
    unfold diffZ at *
    simp only [List.map_cons, List.zip_cons_cons, ih]
    congr 1
    omega
/-- moved: each side shifted by a number of its own -/
theorem far_mo_two (c d : Int) {xs ys : List Int} : farZ .mo (xs.map (· + c)) (ys.map (· + d)) = farZ .mo xs ys := by
  simp only [farZ, diff_two, uneven_shift, List.length_map]
theorem dot_aff (c d : Int) : ∀ {xs ys : List Int}, xs.length = ys.length → dotZ (xs.map fun x => c * x + d) ys = c * dotZ xs ys + d * ys.sum
  | [], [], _ => by simp [dotZ]
  | x :: xs, y :: ys, h => by
    have ih := dot_aff c d (xs := xs) (ys := ys) (by simpa using h)
    unfold dotZ at *
    simp only [List.map_cons, List.zip_cons_cons, List.sum_cons, ih]
    grind
theorem sum_aff (c d : Int) {xs : List Int} : (xs.map fun x => c * x + d).sum = c * xs.sum + xs.length * d := by
  induction xs with
  | nil => simp
  | cons x xs ih => simp only [List.map_cons, List.sum_cons, List.length_cons, ih]; push_cast; grind
theorem both_aff (c d : Int) {xs ys : List Int} (h : xs.length = ys.length) : bothZ (xs.map fun x => c * x + d) ys = c * bothZ xs ys := by
  unfold bothZ
  rw [dot_aff c d h, sum_aff, List.length_map]
  generalize (xs.length : Int) = n
  grind
theorem uneven_aff (c d : Int) {xs : List Int} : unevenZ (xs.map fun x => c * x + d) = c * c * unevenZ xs := by
  have : (xs.map fun x => c * x + d) = (xs.map (c * ·)).map (· + d) := by simp [Function.comp_def]
  rw [this, uneven_shift, uneven_scale]
/-- shape: one side c times as great (c above nought), and shifted -/
theorem far_sh_aff {c d : Int} (hc : 0 < c) {xs ys : List Int} (h : xs.length = ys.length) : farZ .sh (xs.map fun x => c * x + d) ys = farZ .sh xs ys := by
  have hc2 : 0 < c * c := Int.mul_pos hc hc
  show (if unevenZ (xs.map fun x => c * x + d) = 0 ∨ unevenZ ys = 0 then (if unevenZ (xs.map fun x => c * x + d) = unevenZ ys then (0, 1) else (1, 1)) else madeZ (unevenZ (xs.map fun x => c * x + d) * unevenZ ys - bothZ (xs.map fun x => c * x + d) ys * (if bothZ (xs.map fun x => c * x + d) ys < 0 then -bothZ (xs.map fun x => c * x + d) ys else bothZ (xs.map fun x => c * x + d) ys)) (unevenZ (xs.map fun x => c * x + d) * unevenZ ys))
    = (if unevenZ xs = 0 ∨ unevenZ ys = 0 then (if unevenZ xs = unevenZ ys then (0, 1) else (1, 1)) else madeZ (unevenZ xs * unevenZ ys - bothZ xs ys * (if bothZ xs ys < 0 then -bothZ xs ys else bothZ xs ys)) (unevenZ xs * unevenZ ys))
  rw [uneven_aff, both_aff c d h]
  have hu := uneven_nn xs
  have hv := uneven_nn ys
  have z : c * c * unevenZ xs = 0 ↔ unevenZ xs = 0 := by
    constructor
    · intro h
      rcases Int.mul_eq_zero.mp h with h | h
      · omega
      · exact h
    · intro h; rw [h, Int.mul_zero]
  generalize unevenZ xs = U at *
  generalize unevenZ ys = V at *
  generalize bothZ xs ys = B at *
  simp only [z]
  by_cases h1 : U = 0 ∨ V = 0
  · rw [if_pos h1, if_pos h1]
    have : (c * c * U = V) ↔ U = V := by
      constructor
      · intro e
        rcases h1 with h1 | h1
        · rw [h1, Int.mul_zero] at e; omega
        · rw [h1] at e; rw [h1]; exact z.mp e
      · intro e
        rcases h1 with h1 | h1
        · rw [h1, Int.mul_zero]; omega
        · have : U = 0 := by omega
          rw [this, Int.mul_zero]; omega
    simp only [this]
  · rw [if_neg h1, if_neg h1]
    have hU : 0 < U := by omega
    have hV : 0 < V := by omega
    have hs : (c * B < 0) ↔ B < 0 := by
      constructor
      · intro h
        by_cases hb : B < 0
        · exact hb
        · have := Int.mul_nonneg (Int.le_of_lt hc) (show 0 ≤ B by omega)
          omega
      · intro h
        exact Int.mul_neg_of_pos_of_neg hc h
    simp only [hs]
    refine made_eq_of (Int.mul_pos (Int.mul_pos hc2 hU) hV) (Int.mul_pos hU hV) ?_
    split <;> grind
end Rw
end PRwAff
section PRwSemX
set_option autoImplicit false
set_option linter.all false
/-! RwSemX: runs that end in an exception, as pure functions: the class, the slots, the store. -/
namespace Rw
open PySem (Str)
noncomputable section
abbrev DX := DEnv → DSt → Option (String × DEnv × DSt)
abbrev FX := List Dv → DSt → Option (String × DSt)
def xNo : DX := fun _ _ => none
def xAlt (a b : DX) : DX := fun ρ M => match a ρ M with
  | some r => some r
  | none => b ρ M
/-- first s, then b raises -/
def xSeq (s : DS) (b : DX) : DX := fun ρ M => match s ρ M with
  | some (.nx ρ1 M1) => b ρ1 M1
  | _ => none
def xIf (c : DT) (a b : DX) : DX := fun ρ M => match c ρ M with
  | some (true, M1) => a ρ M1
  | some (false, M1) => b ρ M1
  | none => none
def xCall (f : FX) (as : DA) : DX := fun ρ M => match as ρ M with
  | some (vs, M1) => match f vs M1 with
    | some (c, M2) => some (c, ρ, M2)
    | none => none
  | none => none
def xRaise (c : String) : DX := fun ρ M => some (c, ρ, M)
def fnX (n : Nat) (b : DX) : FX := fun as M => match b (startD n as) M with
  | some (c, _, M1) => some (c, M1.take M.length)
  | none => none
/-- try: d, which raises as x; except, one of cs: h -/
def dTry (cs : List String) (d : DS) (x : DX) (h : DS) : DS := fun ρ M => match x ρ M with
  | some (c, ρ1, M1) => grd (c ∈ cs) (h ρ1 M1)
  | none => d ρ M
/-- .. except .. as i: j = i -/
def dTryAs (cs : List String) (d : DS) (x : DX) (i j : Nat) : DS := fun ρ M => match x ρ M with
  | some (c, ρ1, M1) => grd (c ∈ cs) (some (.nx (((ρ1.set i (some (.d (.ty c)))).set j (some (.d (.ty c)))).set i none) M1))
  | none => d ρ M
/-- xs.index(y), xs.count(y): flat things -/
def mIndex : Dv → List Dv → DSt → Option (Dv × DSt) := fun v as M => match as, lv M v with
  | [.d y], some xs => grd (y.flat = true ∧ xs.all D.flat = true) (match xs.findIdx? fun b => D.eqv b y with
    | some j => some (.d (.int (j : Nat)), M)
    | none => none)
  | _, _ => none
def mCount : Dv → List Dv → DSt → Option (Dv × DSt) := fun v as M => match as, lv M v with
  | [.d y], some xs => grd (y.flat = true ∧ xs.all D.flat = true) (some (.d (.int (xs.countP fun b => D.eqv b y : Nat)), M))
  | _, _ => none
def strsD : List D → Option (List Str)
  | [] => some []
  | .str s :: r => (strsD r).map (s :: ·)
  | _ :: _ => none
/-- a.join(xs) -/
def oJoin (a : Str) : O1 := fun v M => match lv M v with
  | some xs => match strsD xs with
    | some ys => grd ((ys.map (·.length)).sum + ys.length * a.length ≤ big) (some (.d (.str (Str.join a ys)), M))
    | none => none
  | none => none
/-- isinstance(v, a class of errors): yes for the classes cs, no for the others of all -/
def oIsX (all cs : List String) : O1 := fun v M => match v with
  | .d .non => some (.d (.bl false), M)
  | .d (.ty c) => grd (c ∈ all) (some (.d (.bl (cs.contains c)), M))
  | _ => none
end
end Rw
end PRwSemX
section PRwOkX
set_option linter.all false
/-! RwOkX: rules for runs that raise. -/
namespace Rw
section
variable {ρ ρ1 : DEnv} {M M1 : DSt} {c : DT} {x y : DX} {b : Bool} {as : DA} {vs : List Dv} {f : FX} {s : DS} {cs : List String} {d h : DS} {P : Out → Prop} {k : String} {i j : Nat}
theorem xif_eq (h : Ok (c ρ M) fun p => p = (b, M1)) : xIf c x y ρ M = if b then x ρ M1 else y ρ M1 := by
  obtain ⟨p, e, rfl⟩ := h
  unfold xIf
  rw [e]
  cases b <;> rfl
theorem xcall_eq (h : Ok (as ρ M) fun p => p = (vs, M1)) : xCall f as ρ M = (f vs M1).map fun r => (r.1, ρ, r.2) := by
  obtain ⟨p, e, rfl⟩ := h
  unfold xCall
  rw [e]
  simp only
  cases f vs M1 <;> rfl
theorem xseq_eq (h : Ok (s ρ M) fun o => o = .nx ρ1 M1) : xSeq s x ρ M = x ρ1 M1 := by
  obtain ⟨p, e, rfl⟩ := h
  unfold xSeq
  rw [e]
theorem xalt_some {r : String × DEnv × DSt} (h : x ρ M = some r) : xAlt x y ρ M = some r := by
  unfold xAlt
  rw [h]
theorem xalt_none (h : x ρ M = none) : xAlt x y ρ M = y ρ M := by
  unfold xAlt
  rw [h]
theorem fnX_eq {n : Nat} {ws : List Dv} : fnX n x ws M = (x (startD n ws) M).map fun r => (r.1, r.2.2.take M.length) := by
  unfold fnX
  cases x (startD n ws) M <;> rfl
theorem ok_try_x (e : x ρ M = some (k, ρ1, M1)) (hk : k ∈ cs) : Ok (dTry cs d x h ρ M) P ↔ Ok (h ρ1 M1) P := by
  unfold dTry
  rw [e]
  simp only [grd_ok hk]
theorem ok_try_n (e : x ρ M = none) : Ok (dTry cs d x h ρ M) P ↔ Ok (d ρ M) P := by
  unfold dTry
  rw [e]
theorem ok_tryAs_x (e : x ρ M = some (k, ρ1, M1)) (hk : k ∈ cs) : Ok (dTryAs cs d x i j ρ M) P ↔ P (.nx (((ρ1.set i (some (.d (.ty k)))).set j (some (.d (.ty k)))).set i none) M1) := by
  unfold dTryAs
  rw [e]
  simp only [grd_ok hk, ok_some]
theorem ok_tryAs_n (e : x ρ M = none) : Ok (dTryAs cs d x i j ρ M) P ↔ Ok (d ρ M) P := by
  unfold dTryAs
  rw [e]
@[simp ↓] theorem ok_count {y : D} {xs : List D} {Q : Dv × DSt → Prop} : Ok (mCount (.d (.lst xs)) [.d y] M) Q ↔ (y.flat = true ∧ xs.all D.flat = true) ∧ Q (.d (.int (xs.countP fun b => D.eqv b y : Nat)), M) := by simp [mCount, lv]
theorem ok_countC {y : D} {n : Nat} {xs : List D} {Q : Dv × DSt → Prop} (h : M[n]? = some (some xs)) : Ok (mCount (.c n) [.d y] M) Q ↔ (y.flat = true ∧ xs.all D.flat = true) ∧ Q (.d (.int (xs.countP fun b => D.eqv b y : Nat)), M) := by simp [mCount, lv, h]
theorem ok_indexC {y : D} {n j : Nat} {xs : List D} {Q : Dv × DSt → Prop} (h : M[n]? = some (some xs)) (hf : y.flat = true ∧ xs.all D.flat = true) (hj : (xs.findIdx? fun b => D.eqv b y) = some j) : Ok (mIndex (.c n) [.d y] M) Q ↔ Q (.d (.int (j : Nat)), M) := by
  have hl : lv M (.c n) = some xs := by simp [lv, h]
  unfold mIndex
  rw [hl]
  simp only [grd_ok hf, hj, ok_some]
theorem ok_join {a : PySem.Str} {xs : List D} {ys : List PySem.Str} {Q : Dv × DSt → Prop} (h : strsD xs = some ys) (hb : (ys.map (·.length)).sum + ys.length * a.length ≤ big) : Ok (oJoin a (.d (.lst xs)) M) Q ↔ Q (.d (.str (PySem.Str.join a ys)), M) := by
  simp only [oJoin, lv, h, grd_ok hb, ok_some]
@[simp ↓] theorem ok_isX_non {all : List String} {Q : Dv × DSt → Prop} : Ok (oIsX all cs (.d .non) M) Q ↔ Q (.d (.bl false), M) := by simp [oIsX]
@[simp ↓] theorem ok_isX_ty {all : List String} {Q : Dv × DSt → Prop} : Ok (oIsX all cs (.d (.ty k)) M) Q ↔ k ∈ all ∧ Q (.d (.bl (cs.contains k)), M) := by simp [oIsX]
end
theorem step_ne {t : DT} {a b : DX} {e : DE} {ρ : DEnv} {M : DSt} (h : Ok (t ρ M) fun p => p = (false, M)) : xAlt (xIf t a xNo) (xSeq (dIf t (dRet e) dPass) b) ρ M = b ρ M := by
  rw [xalt_none (by rw [xif_eq h]; rfl), xseq_eq (ρ1 := ρ) (M1 := M)]
  obtain ⟨p, h1, rfl⟩ := h
  exact ⟨.nx ρ M, by unfold dIf; rw [h1]; rfl, rfl⟩
theorem step_eq {t : DT} {a b : DX} {e : DE} {ρ : DEnv} {M : DSt} (h : Ok (t ρ M) fun p => p = (true, M)) : xAlt (xIf t a xNo) (xSeq (dIf t (dRet e) dPass) b) ρ M = a ρ M := by
  have h2 : xSeq (dIf t (dRet e) dPass) b ρ M = none := by
    obtain ⟨p, h1, rfl⟩ := h
    unfold xSeq dIf
    rw [h1]
    simp only [dRet]
    cases e ρ M with
    | none => rfl
    | some q => rfl
  unfold xAlt
  rw [xif_eq h, h2]
  simp only [if_true]
  cases a ρ M <;> rfl
@[simp ↓] theorem ok_frzD {b : Nat} {x : D} {M : DSt} {P : Dv × DSt → Prop} : Ok (frz b (.d x, M)) P ↔ P (.d x, M) := by simp [frz]
/-- new, or data -/
def Fresh (M : DSt) (p : Dv × DSt) : Prop := (∃ x, p = (.d x, M)) ∨ ∃ xs, p = (.c M.length, M ++ [some xs])
theorem ok_fresh {M : DSt} {p : Dv × DSt} (h : Fresh M p) : Ok (frz M.length p) fun q => q.2 = M := by
  rcases h with ⟨x, rfl⟩ | ⟨xs, rfl⟩
  · simp
  · rw [ok_frz rfl]
theorem ok_compL_nil {chk : DSt → Prop} {step : D → DSt → Option (Option D × DSt)} {M : DSt} {P : List D × DSt → Prop} : Ok (compL chk step [] M) P ↔ chk M ∧ P ([], M) := by
  unfold compL
  rw [ok_grd, ok_some]
/-- a list that is there, one by one, each giving something and changing nothing -/
theorem compL_step {chk : DSt → Prop} {step : D → DSt → Option (Option D × DSt)} {M : DSt} {P : List D × DSt → Prop} {x y : D} {xs : List D} (hc : chk M) (h : Ok (step x M) fun p => p = (some y, M)) (k : Ok (compL chk step xs M) fun p => P (y :: p.1, p.2)) : Ok (compL chk step (x :: xs) M) P := by
  obtain ⟨p, e, rfl⟩ := h
  obtain ⟨q, e2, k⟩ := k
  refine ⟨_, ?_, k⟩
  unfold compL
  rw [grd_ok hc]
  simp only [e, e2]
theorem ok_neCD {M : DSt} {m : Nat} {xs : List D} {P : Dv × DSt → Prop} (h' : M[m]? = some (some xs)) (hx : (D.lst xs).shp 9 = true) : Ok (oNe (.c m) (.d (.lst xs)) M) P ↔ P (.d (.bl false), M) := by
  have := eqv_refl 9 _ hx
  simp [oNe, dv, h', hx, this]
end Rw
end PRwOkX
section PRwExc
set_option Elab.async false
set_option linter.all false
set_option maxRecDepth 100000
set_option maxHeartbeats 2000000
/-! RwExc: runs that end in an exception. -/
namespace Rw
open PySem L2 PySem.Spec PyProof.Rows
open Evl (Ex)
/-- what is wished of an exception -/
def XP (K : PySem.W.Frag) (F : Fz) (κ : List Addr) (G : Hp) (W : WX) (c : String) (ρ' : DEnv) (M' : DSt) : Prop :=
  ∀ κ' G' σ' H' cls, Le κ G κ' G' → Sm K F κ' G' M' H' → Se K κ' G' σ' ρ' → ClsK K c cls → W cls none σ' H'
theorem XP.weak {K : PySem.W.Frag} {F : Fz} {κ κ1 : List Addr} {G G1 : Hp} {W : WX} {c : String} {ρ' : DEnv} {M' : DSt} (l : Le κ G κ1 G1) (k : XP K F κ G W c ρ' M') : XP K F κ1 G1 W c ρ' M' :=
  fun κ' G' σ' H' cls l' S E h => k κ' G' σ' H' cls (l.trans l') S E h
structure PDX (X : Cx) (W : WX) (ss : List Stmt) (x : DX) : Prop where
  ex : ∀ {F κ G σ ρ M H c ρ' M'} (D : Ends), Sm X.K F κ G M H → Se X.K κ G σ ρ → x ρ M = some (c, ρ', M') → XP X.K F κ G W c ρ' M' → ∃ t, PSs X ss t ∧ t D σ H
structure PDX1 (X : Cx) (W : WX) (s : Stmt) (x : DX) : Prop where
  ex : ∀ {F κ G σ ρ M H c ρ' M'} (D : Ends), Sm X.K F κ G M H → Se X.K κ G σ ρ → x ρ M = some (c, ρ', M') → XP X.K F κ G W c ρ' M' → ∃ t, PS X s t ∧ t D σ H
structure PEX (X : Cx) (W : WX) (e : Expr) (x : DX) : Prop where
  ex : ∃ t, PE X e t ∧ ∀ {F κ G σ ρ M H c ρ' M'} (Q : VK), Sm X.K F κ G M H → Se X.K κ G σ ρ → x ρ M = some (c, ρ', M') → XP X.K F κ G W c ρ' M' → t σ H Q
section
variable {X : Cx} {W : WX} {st : Stmt} {rest : List Stmt} {s : DS} {x y : DX} {e : Expr} {pos : Pos}
theorem pss_any {ss : List Stmt} : PSs X ss (fun D σ H => ∃ t, PSs X ss t ∧ t D σ H) := ⟨fun pins s σ H D I ⟨t, ht, hw⟩ => ht.run pins s σ H D I hw⟩
theorem pss_some : ∀ ss : List Stmt, ∃ t, PSs X ss t
  | [] => ⟨_, pss_nil⟩
  | _ :: r => let ⟨_, h⟩ := pss_some r; ⟨_, pss_cons ps_never h⟩
theorem x_no : PDX X W rest xNo := ⟨fun D S E h k => by cases h⟩
theorem x_alt (hx : PDX X W rest x) (hy : PDX X W rest y) : PDX X W rest (xAlt x y) := ⟨fun D S E h k => by
  unfold xAlt at h
  split at h
  · rename_i r e
    cases h
    exact hx.ex D S E e k
  · exact hy.ex D S E h k⟩
theorem x_here (hx : PDX1 X W st x) : PDX X W (st :: rest) x := ⟨fun D S E h k => by
  obtain ⟨u, hu⟩ := pss_some (X := X) rest
  obtain ⟨t, ht, hw⟩ := hx.ex { D with nx := u D } S E h k
  exact ⟨_, pss_cons ht hu, hw⟩⟩
theorem x_cons (hs : PDS X st s) (hx : PDX X W rest x) : PDX X W (st :: rest) (xSeq s x) := ⟨fun {F κ G σ ρ M H c ρ' M'} D S E h k => by
  unfold xSeq at h
  split at h
  · rename_i ρ1 M1 e1
    obtain ⟨t, ht, hw⟩ := hs.ex
    refine ⟨_, pss_cons ht pss_any, ?_⟩
    refine hw.run (D := { D with nx := fun σ H => ∃ t, PSs X rest t ∧ t D σ H }) S E e1 ?_
    intro κ1 G1 σ1 H1 l1 S1 E1
    exact hx.ex D S1 E1 h (k.weak l1)
  · cases h⟩
theorem x_if {c : Expr} {ss ts : List Stmt} {tc : DT} {pos : Pos} (hc : PDT X c tc) (hx : PDX X W ss x) (hy : PDX X W ts y) : PDX1 X W (.If c ss ts pos) (xIf tc x y) := ⟨fun {F κ G σ ρ M H c ρ' M'} D S E h k => by
  unfold xIf at h
  obtain ⟨t, ht, hw⟩ := hc.ex
  refine ⟨_, ps_if ht pss_any pss_any, ?_⟩
  split at h
  · rename_i M1 e1
    refine hw.run S E e1 fun κ1 G1 H1 l1 S1 => ?_
    show (if true = true then _ else _)
    rw [if_pos rfl]
    exact hx.ex D S1 (E.mono l1) h (k.weak l1)
  · rename_i M1 e1
    refine hw.run S E e1 fun κ1 G1 H1 l1 S1 => ?_
    show (if false = true then _ else _)
    rw [if_neg Bool.false_ne_true]
    exact hy.ex D S1 (E.mono l1) h (k.weak l1)
  · cases h⟩
theorem x_expr (he : PEX X W e x) (hs : swapsWith e none pos.line X.env = pure false := by rfl) : PDX1 X W (.Expr e pos) x := ⟨fun D S E h k => by
  obtain ⟨t, ht, hw⟩ := he.ex
  exact ⟨_, ps_expr ht hs, hw _ S E h k⟩⟩
theorem x_ret (he : PEX X W e x) : PDX1 X W (.Return (some e) pos) x := ⟨fun D S E h k => by
  obtain ⟨t, ht, hw⟩ := he.ex
  exact ⟨_, ps_ret ht, hw _ S E h k⟩⟩
theorem x_set (i : Nat) {v : Str} {pos' : Pos} (hN : X.N.Nodup) (he : PEX X W e x) (hi : X.N[i]? = some v := by rfl) (hx : Loc X.env.scope v := by first | exact Or.inl rfl | exact Or.inr rfl) (hs : swapsWith e (some (.Name v pos')) pos.line X.env = pure false := by rfl) (hf : X.fn v = true ∨ X.env.scope.names.lookup v = some .local := by first | exact .inl rfl | exact .inr rfl) :
    PDX1 X W (.Assign [.Name v pos'] e pos) x := ⟨fun D S E h k => by
  obtain ⟨t, ht, hw⟩ := he.ex
  exact ⟨_, ps_set hN hi hx ht hs hf, hw _ S E h k⟩⟩
end
section
variable {X : Cx} {W : WX} {x : DX} {pos : Pos}
/-- what is walked raises -/
theorem x_for {tg iter : Expr} {tgt : Tgt} {body : List Stmt} (he : PEX X W iter x) (hg : PDG X tg tgt) (hp : PassesOwn (model X.prog X.w) X.A X.env X.xe := by exact PassesOwn.leaving) (hc : X.calm = true := by rfl) (hs : ∀ x, foldedSetIterable iter X.env x = pure x := by intro _; rfl) : PDX1 X W (.For tg iter body [] pos) x := ⟨fun D S E h k => by
  obtain ⟨t, ht, hw⟩ := he.ex
  obtain ⟨u, hu⟩ := pss_some (X := X) body
  exact ⟨_, ps_for hp hc (pi_list ht) hg.ex hu hs, hw _ S E h k⟩⟩
end
/-- an own class of errors, as it stands behind the top -/
structure OwnX (K : PySem.W.Frag) (mg : Str → Option Value) (c : String) (C : Addr) : Prop where
  ns : ClsK K c (.ref C)
  gC : mg (Str.ofString c) = some (.ref C)
  xC : PySem.W.excIn K C [.type "ValueError", .type "Exception", .type "BaseException", .type "object"] "ValueError.__new__" = true
  kC : PySem.W.keepIn K (.ref C) = true
  bC : PySem.W.subIn K (.ref C) (.type "BaseException") = some true
  tC : PySem.W.typeIn K (.ref C) = some (.type "type")
  dC : PySem.W.hasDictIn K C = true
section
variable {X : Cx} {W : WX} {pos p p2 : Pos}
theorem x_raise {c : String} {C : Addr} {v m : Str} {j : Nat} {pos' : Pos} (O : OwnX X.K X.mg c C) (tk : Takes X W) (hv : v = Str.ofString c := by rfl) (hg : Gl X v := by exact rfl) (hc : X.calm = true := by rfl) (hdb : (v == ("__debug__" : Str)) = false := by decide) :
    PDX1 X W (.Raise (some (.Call (.Name v p) [.Constant (.str m) j p2] [] pos)) none pos') (xRaise c) := ⟨fun {F κ G σ ρ M H c ρ' M'} D S E h k => by
  cases h
  subst hv
  exact ⟨_, ps_raise hc tk (pmk_own PySem.F.excBase_ValueError O.xC O.gC O.kC (raises_own O.bC O.tC) hg hdb), k κ G σ H _ (Le.refl _ _) S E O.ns⟩⟩
end
/-- a def's promise: it raises as f -/
def spX (K : PySem.W.Frag) (f : FX) (n : Nat) : Sp := fun vs H _ E => ∃ F κ G M as c M', Sm K F κ G M H ∧ Rxs K κ G vs as ∧ as.length = n ∧ f as M = some (c, M') ∧
  ∀ κ' G' H' cls, Le κ G κ' G' → Sm K F κ' G' M' H' → ClsK K c cls → E cls none H'
structure HasX (P : Program) (w : World) (K : PySem.W.Frag) (mg : Str → Option Value) (base : Heap) (x : Str) (k n : Nat) (fx : FX) : Prop where
  ex : ∃ (f : Addr) (fd : FuncData) (ps : List Str), FnOk P w K mg base (L2.CX P w) k f fd ps (spX K fx n) ∧ mg x = some (.ref f) ∧ PySem.W.keepIn K (.ref f) = true ∧ Binds K fd ps []
section
variable {X : Cx} {W : WX} {e : Expr} {es : List Expr} {das : DA} {p pos : Pos} {x : Str} {k n : Nat} {fx : FX}
theorem x_call (Hs : HasX X.prog X.w X.K X.mg X.base x k n fx) (hr : Room k X.A) (tk : Takes X W) (ha : PDA X (e :: es) das n) (hg : Gl X x := by rfl) (hdb : (x == ("__debug__" : Str)) = false := by decide) (he : starEach (e :: es) X.env = (false, eval e X.env) :: starEach es X.env := by rfl) (hpl : (backTo pos (starEach es X.env)).any (·.1) = false := by rfl) :
    PEX X W (.Call (.Name x p) (e :: es) [] pos) (xCall fx das) := by
  obtain ⟨f, fd, ps, F, hm, hk, hb⟩ := Hs.ex
  obtain ⟨t, h1, h2⟩ := ha.ex
  refine ⟨_, pe_callS F hr hg hm hk hb (fun σ => passAt tk σ) h1 hdb he hpl, ?_⟩
  intro F κ G σ ρ M H c ρ' M' Q S E h k
  unfold xCall at h
  split at h
  · rename_i vs M1 e1
    split at h
    · rename_i c1 M2 e2
      cases h
      refine h2.run S E e1 fun κ1 G1 us H1 l1 S1 r1 => ?_
      exact ⟨F, κ1, G1, M1, vs, c, M', S1, r1, ha.len _ _ _ _ e1, e2, fun κ' G' H' cls l S' hc => k κ' G' σ H' cls (l1.trans l) S' (E.mono (l1.trans l)) hc⟩
    · cases h
  · cases h
end
section
variable {X : Cx} {W : WX} {e : Expr} {p pos : Pos} {x : Str} {k n : Nat} {df : DF} {dx : DX}
/-- a call whose one argument raises -/
theorem x_arg (Hs : Has X.prog X.w X.K X.mg X.base x k 1 df) (hr : Room k X.A) (ha : PEX X W e dx) (hg : Gl X x := by rfl) (hdb : (x == ("__debug__" : Str)) = false := by decide) (he : starEach [e] X.env = (false, eval e X.env) :: starEach [] X.env := by rfl) (hpl : (backTo pos (starEach [] X.env)).any (·.1) = false := by rfl) :
    PEX X W (.Call (.Name x p) [e] [] pos) dx := by
  obtain ⟨f, fd, ps, F, hm, hk, hb⟩ := Hs.ex
  obtain ⟨t, h1, h2⟩ := ha.ex
  refine ⟨_, pe_callS F hr hg hm hk hb (E := fun _ => E0) (fun σ => (fun _ _ _ _ _ _ h => h.elim)) (pa_cons h1 pa_nil he) hdb he hpl, ?_⟩
  intro F' κ G σ ρ M H c ρ' M' Q S E h kk
  exact h2 _ S E h kk
end
/-- THE RULE for a def that raises -/
theorem fn_okX {P : Program} {w : World} {K : PySem.W.Frag} {mg : Str → Option Value} {base : Heap} {x qual : Str} {st : Stmt} {f : Addr} {fd : FuncData} {N ps : List Str} {k : Nat} {dx : DX} (F : Fun K x qual st f fd) (S : FnScope N ps (defScope st))
    (hb : ∀ (cdv : Value) (A : Around) (outer : List Env) (s : Shared) (H : Hp) (E : XK), Room k (A.deeper (envOfC qual (defScope st) s.heap.objs.size f cdv)) → Takes (cxOf (L2.CX P w) P w K mg base N qual (defScope st) f cdv A outer s H E) (fun cls d _ H => E cls d H) → PDX (cxOf (L2.CX P w) P w K mg base N qual (defScope st) f cdv A outer s H E) (fun cls d _ H => E cls d H) (defBody st) dx) :
    FnOk P w K mg base (L2.CX P w) (k + 1) f fd ps (spX K (fnX N.length dx) ps.length) := by
  refine F.okX S (fun vs H Q E h => ?_) (fun cdv A outer s H vs Q E hr h => ?_)
  · obtain ⟨F', κ, G, M, as, c, M', _, r, hl, _⟩ := h
    rw [r.length, hl]
  · obtain ⟨F', κ, G, M, as, c, M', S0, r, hl, hf, k0⟩ := h
    unfold fnX at hf
    split at hf
    · rename_i c1 ρ1 M1 e
      cases hf
      refine (hb cdv A outer s H E hr (takes_of rfl rfl rfl rfl)).ex _ S0 (start_se r) e ?_
      intro κ' G' σ' H' cls l S' E' hc
      have e4 : κ'.take M.length = κ := by
        obtain ⟨t, rfl⟩ := l.pre
        rw [← S0.len, List.take_left]
      have S2 := S'.take M.length
      rw [e4] at S2
      exact k0 κ G' H' cls ⟨List.prefix_refl _, l.ex⟩ S2 hc
    · cases hf
/-! ### try -/
theorem exm_by {K : PySem.W.Frag} {mg : Str → Option Value} {c h : String} {C D : Addr} (O : OwnX K mg c C) (Q : OwnX K mg h D) (s : PySem.W.subIn K (.ref C) (.ref D) = some true) : ∀ cls, ClsK K c cls → PySem.W.exmOne K cls (.ref D) = some true := fun cls e => by
  have e2 := O.ns.symm.trans e
  cases e2
  exact PySem.W.exm_ref Q.bC Q.dC Q.tC s
theorem he_nil {p : String → Prop} : ∀ c ∈ ([] : List String), p c := fun _ h => nomatch h
theorem he_cons {p : String → Prop} {c : String} {cs : List String} (h : p c) (hs : ∀ c ∈ cs, p c) : ∀ d ∈ c :: cs, p d := fun d hd => by
  rcases List.mem_cons.mp hd with e | e
  · rw [e]
    exact h
  · exact hs d e
section
variable {X : Cx} {x : Str} {C : Addr} {body suite : List Stmt} {b₀ : Stmt} {np pos pos' : Pos} {d h : DS} {dx : DX} {cs : List String}
theorem s_try (hc : Names X x (.ref C)) (hd : ∀ (pn : List (Addr × Obj)) (xe : Value → Shared → Prop), PDB (X.tr pn xe) body d)
    (hx : ∀ (W : WX) (pn : List (Addr × Obj)) (xe : Value → Shared → Prop), Takes (X.tr pn xe) W → PDX (X.tr pn xe) W body dx)
    (hh : ∀ (a : Addr) (pn : List (Addr × Obj)), PDB (X.suite a pn) (b₀ :: suite) h)
    (he : ∀ c ∈ cs, ∀ cls, ClsK X.K c cls → PySem.W.exmOne X.K cls (.ref C) = some true) (hs : X.stack = X.env :: X.outer := by rfl) (hf : X.env.frame = some X.env.locals := by rfl) :
    PDS X (.Try body [.ExceptHandler (some (.Name x np)) none (b₀ :: suite) pos'] [] [] pos) (dTry cs d dx h) := by
  refine ⟨_, ps_try_only (tb := fun W D σ H => ∀ pn xe, Takes (X.tr pn xe) W → ∃ t, PSs (X.tr pn xe) body t ∧ t D σ H) (ts := fun a _ _ D σ H => ∀ pn, ∃ t, PSs (X.suite a pn) (b₀ :: suite) t ∧ t D σ H) (Wout := fun _ _ _ _ => False) hs hf hc takes0
    (fun W pn xe tk _ => ⟨fun pins s σ H D I hw => ?_⟩) (fun a oe cls dd pn _ _ => ⟨fun pins s σ H D I hw => ?_⟩), ⟨fun {F κ G σ ρ M H D o} S E h1 k => ?_⟩⟩
  · obtain ⟨t, ht, hw⟩ := hw pn xe tk
    exact ht.run pins s σ H D I hw
  · obtain ⟨t, ht, hw⟩ := hw ((a, oe) :: pn)
    exact ht.run pins s σ H D I hw
  · intro pn xe tk
    unfold dTry at h1
    split at h1
    · rename_i c ρ1 M1 e1
      obtain ⟨hm, h1⟩ := grd_some h1
      refine (hx _ pn xe tk).ex D S E e1 ?_
      intro κ' G' σ' H' cls l S' E' hcl
      refine ⟨true, he c hm cls hcl, fun _ a _ pn => ?_, fun q => nomatch q⟩
      obtain ⟨t, ht, hw⟩ := (hh a pn).ex
      exact ⟨t, ht, hw.run S' E' h1 (k.weak l)⟩
    · obtain ⟨t, ht, hw⟩ := (hd pn xe).ex
      exact ⟨t, ht, hw.run S E h1 k⟩
end
end Rw
end PRwExc
section PRwKeep
set_option Elab.async false
set_option linter.all false
set_option maxRecDepth 100000
set_option maxHeartbeats 2000000
/-! RwKeep: an exception that is caught, given a name and looked at behind the try. -/
namespace Rw
open PySem L2 PySem.Spec PyProof.Rows
open Evl (Ex)
theorem exK_ok {P : Program} {w : World} {H : Hp} {g : Heap} {a : Addr} {cls : Value} {ob : Obj} {fl : Array Value} (e : g.get? a = some ob) (z : Zc cls none ob) (q : ob.data = .fields fl) : ObjOk P w H g a (ExK cls a) :=
  ⟨⟨ob, fl, e, z, q⟩, ⟨ob, e⟩, fun _ _ ⟨u, v, r, t⟩ k => ⟨u, v, k u r, t⟩⟩
section
variable {X : Cx} {pins : List (Addr × Obj)} {σ : L2.St} {H : Hp} {s : Shared} {a : Addr}
/-- an object that nobody knew is known from now on -/
theorem adopt {o : HO} (I : Inv X pins σ H s) (na : H a = none) (n0 : X.s_0.heap.get? a = none) (nL : a ≠ X.env.locals) (nC : ∀ v, ¬ s.heap.IsCell a v)
    (nP : ∀ p ∈ X.pn ++ pins, p.1 ≠ a) (new : ObjOk X.prog X.w (upd H a o) s.heap a o) : Inv X pins σ (upd H a o) s := by
  have ne : ∀ {b : Addr} {u : HO}, H b = some u → b ≠ a := fun {b u} e z => by
    subst z
    rw [na] at e
    cases e
  refine ⟨I.ok, I.os, I.bare, ⟨I.base.keep, I.base.slot, ?_, I.base.there, ?_, ?_, ?_⟩, I.loc, I.cell, ?_, ?_, ?_, HOk.laidN I.hok (fun _ _ q => q) na new, I.len⟩
  · intro b u e n q
    have hb : b ≠ a := fun z => by
      subst z
      rw [n0] at e
      cases e
    rw [upd_ne hb]
    exact I.base.free b u e n q
  · intro b xs e
    have q := I.base.tups b xs e
    rw [upd_ne (ne q)]
    exact q
  · intro b u v e
    have q := I.base.frzs b u v e
    rw [upd_ne (ne q)]
    exact q
  · intro b ps e
    obtain ⟨m, q⟩ := I.base.tbls b ps e
    exact ⟨m, by rw [upd_ne (ne q)]; exact q⟩
  · rw [upd_ne (Ne.symm nL)]
    exact I.free
  · intro x c e
    have hb : c ≠ a := fun z => by
      subst z
      obtain ⟨v, q⟩ := I.cell x c e
      exact nC v q
    rw [upd_ne hb]
    exact I.freeC x c e
  · intro p hp
    obtain ⟨e1, e2, e3⟩ := I.pin p hp
    exact ⟨e1, by rw [upd_ne (nP p hp)]; exact e2, e3⟩
end
/-- what 'except c as i: j = i' wishes -/
def wKeep (K : PySem.W.Frag) (c : Value) (i j : Nat) (D : Ends) : WX := fun cls d σ H => PySem.W.exmOne K cls c = some true ∧ d = none ∧
  ∀ a, H a = none → D.nx (((σ.set i (some (.ref a))).set j (some (.ref a))).set i none) (upd H a (ExK cls a))
section
variable {X : Cx} {x n m : Str} {c : Value} {i j : Nat} {body : List Stmt} {np pm pn' pa pos pos' : Pos} {tb : WX → TS}
theorem ps_keep (hs : X.stack = X.env :: X.outer) (hf : X.env.frame = some X.env.locals) (hex : X.ex = []) (hN : X.N.Nodup) (hi : X.N[i]? = some n) (hj : X.N[j]? = some m) (hln : X.env.kindOf n = some .local) (hlm : X.env.kindOf m = some .local) (hc : Names X x c)
    (hdb : (n == ("__debug__" : Str)) = false) (hcd : (n == ("__classdict__" : Str)) = false)
    (hsw : ∀ a pq, swapsWith (.Name n pn') (some (.Name m pm)) pa.line (X.suite a pq).env = pure false)
    (hb : ∀ (W : WX) (pq : List (Addr × Obj)) (xe : Value → Shared → Prop), Takes (X.tr pq xe) W → PSs (X.tr pq xe) body (tb W)) :
    PS X (.Try body [.ExceptHandler (some (.Name x np)) (some n) [.Assign [.Name m pm] (.Name n pn') pa] pos'] [] [] pos) (fun D σ H => tb (wKeep X.K c i j D) D σ H) := ⟨by
  intro pins s σ H D I hw
  have ok := I.ok
  have frm : X.A.frames = some (X.env :: X.outer) := ok.frames.trans (congrArg some hs)
  let E1 : Value → Shared → Prop := fun e s1 => wpAny (model X.prog X.w) X.A (noteFrame e X.env)
    (fun _ s2 => wpAny (model X.prog X.w) X.A (setFlight e none)
      (fun _ s3 => wpAny (model X.prog X.w) X.A (handleBy e X.env [.ExceptHandler (some (.Name x np)) (some n) [.Assign [.Name m pm] (.Name n pn') pa] pos'])
        (SP X pins D) X.xe s3) X.xe s2) X.xe s1
  have tk : Takes (X.tr (X.pn ++ pins) E1) (wKeep X.K c i j D) := by
    rintro u s1 ⟨a, B, sI, pins', σ1, H1, cls, d, rfl, J0, nb, up, sky, na, os, ag, hm, rfl, hk⟩
    have J : Inv X pins σ1 H1 sI := J0.ofTry ok
    have sk : Sky B (X.env :: X.outer) a (Zc cls none) X.env.locals s1.heap := hs ▸ sky
    refine Sky.land Zc.steady frm hf sk fun h3 f3 u3 => ?_
    have J3 : Inv X pins σ1 H1 { s1 with heap := h3 } := J.landed nb f3.1 (up.trans u3) os ag
    obtain ⟨oe, vs, g3, z3, d3⟩ := f3.there
    have nfr : a ∉ frs (X.env :: X.outer) := fun hmm => by
      obtain ⟨_, o', e', hnf⟩ := f3.2.2.1.mem hmm
      rw [g3] at e'
      cases e'
      exact hnf _ d3
    have nI : sI.heap.get? a = none := by
      cases e : sI.heap.get? a with
      | none => rfl
      | some o =>
        have q := nb a o e (by
          show a ∉ frs X.stack
          rw [hs]
          exact nfr)
        have z : B.get? a = none := f3.2.1
        rw [z] at q
        cases q
    have nL : a ≠ X.env.locals := fun z => nfr (List.mem_filterMap.mpr ⟨X.env, List.mem_cons_self, by rw [hf, z]⟩)
    have nF : a ∉ X.fs := fun hmm => by
      obtain ⟨v, hv, q⟩ := List.mem_filterMap.mp hmm
      exact nfr (List.mem_filterMap.mpr ⟨v, List.mem_cons_of_mem _ hv, q⟩)
    have n0 : X.s_0.heap.get? a = none := by
      cases e : X.s_0.heap.get? a with
      | none => rfl
      | some o =>
        obtain ⟨o', q⟩ := J.base.there a o e (by rw [hex]; exact fun z => nomatch z)
        rw [nI] at q
        cases q
    have nP : ∀ p ∈ X.pn ++ pins, p.1 ≠ a := fun p hp z => by
      have q := (J.pin p hp).1
      rw [z, nI] at q
      cases q
    have S3 := J3.suite g3 d3 na nL nF
    refine wpAny_handleBy_cons (codeAny_handlers_test ?_) (by intro q; cases q)
    have ty : PySem.W.Looks (model X.prog X.w) h3 (typeOf (.ref a)) cls := fun A Q E s k q => wpAny_typeOf_ref (k _ _ g3) (by rw [z3.1]; exact q)
    have mt := PySem.W.exm_one (M := model X.prog X.w) J3.kIn ty hm
    have look : ∀ {Q : Value → Shared → Prop} {E : Value → Shared → Prop}, Q c { s1 with heap := h3 } →
        wpAny (model X.prog X.w) (X.A.mark (some (.ref a))) (eval (.Name x np) X.env) Q E { s1 with heap := h3 } := fun {Q E} q => by
      rcases hc with ⟨hg, hdbg, hmg | ⟨hmg, hv, hnn⟩⟩
      · exact ld_glob (X := X.suite a _) S3 hg hmg q hdbg
      · exact ld_blt (X := X.suite a _) S3 hg hmg hv q hnn hdbg
    refine look (mt.here ?_)
    refine codeAny_handlers_suite_as ?_
    refine HandSPX.lands_againZ f3 fun h4 f4 u4 => ?_
    have J4 : Inv X pins σ1 H1 { s1 with heap := h4 } := J.landed nb f4.1 ((up.trans u3).trans u4) os ag
    obtain ⟨o4, v4, g4, z4, d4⟩ := f4.there
    have S4 := J4.suite g4 d4 na nL nF
    refine store_ok (X := X.suite a _) (v := .ref a) S4 hN hi (.inl hln) rfl (fun s5 S5 => ?_) (.inr hln)
    have lt : i < σ1.length := by
      rw [J.len]
      exact (List.getElem?_eq_some_iff.mp hi).1
    have run := (pss_one (ps_set (X := X.suite a ((a, o4) :: (X.pn ++ pins))) (i := j) (pos := pa) (pos' := pm) hN hj (.inl hlm) (pe_var (i := i) (pos := pn') hi (.inl hln) hdb hcd) (hsw a _) (.inr hlm))).run [] s5 _ H1
      { nx := fun σ6 H6 => σ6 = (σ1.set i (some (.ref a))).set j (some (.ref a)) ∧ H6 = H1, rt := fun _ _ => False, bk := fun _ _ => False, ct := fun _ _ => False } S5 ⟨.ref a, List.getElem?_set_self lt, rfl, rfl⟩
    refine wpAny_mono run (fun f s6 hsp => ?_) (fun _ _ z => z.elim)
    cases f with
    | next =>
      obtain ⟨σ6, H6, S6, rfl, rfl⟩ := hsp
      have pin := S6.pin (a, o4) (List.mem_append_left _ List.mem_cons_self)
      have J6 := adopt (o := ExK cls a) (S6.unsuite ok) na n0 nL (fun v q => by
        obtain ⟨o, ho, hd⟩ := q
        rw [pin.1] at ho
        cases ho
        exact pin.2.2.2.2 v hd) nP (exK_ok pin.1 z4 d4)
      exact gone_ok J6 hN hi hln fun s7 J7 => ⟨_, _, J7, hk a na⟩
    | brk =>
      obtain ⟨_, _, _, q⟩ := hsp
      exact q.elim
    | cont =>
      obtain ⟨_, _, _, q⟩ := hsp
      exact q.elim
    | ret u =>
      obtain ⟨_, _, _, _, _, q⟩ := hsp
      exact q.elim
  refine wpAny_Try_except (wpAny_mono ((hb _ (X.pn ++ pins) E1 tk).run [] s σ H D (I.toTry _) hw) (fun f s1 hsp => ?_) fun e s1 he => he)
  cases f with
  | next =>
    obtain ⟨σ', H', J', q⟩ := hsp
    exact wpAny_execs_nil ⟨_, _, J'.ofTry ok, q⟩
  | brk =>
    obtain ⟨σ', H', J', q⟩ := hsp
    exact ⟨_, _, J'.ofTry ok, q⟩
  | cont =>
    obtain ⟨σ', H', J', q⟩ := hsp
    exact ⟨_, _, J'.ofTry ok, q⟩
  | ret u =>
    obtain ⟨v, σ', H', J', r, q⟩ := hsp
    exact ⟨_, _, _, J'.ofTry ok, r, q⟩⟩
end
theorem Se.gone {K : PySem.W.Frag} {κ : List Addr} {G : Hp} {σ : L2.St} {ρ : DEnv} (h : Se K κ G σ ρ) (i : Nat) : Se K κ G (σ.set i none) (ρ.set i none) := h.wipe2 [i]
section
variable {X : Cx} {x n m : Str} {C : Addr} {body : List Stmt} {np pm pn' pa pos pos' : Pos} {d : DS} {dx : DX} {cs : List String}
/-- try: .. except C as i: j = i -/
theorem s_tryAs (i j : Nat) (hN : X.N.Nodup) (hc : Names X x (.ref C)) (hd : ∀ (pq : List (Addr × Obj)) (xe : Value → Shared → Prop), PDB (X.tr pq xe) body d)
    (hx : ∀ (W : WX) (pq : List (Addr × Obj)) (xe : Value → Shared → Prop), Takes (X.tr pq xe) W → PDX (X.tr pq xe) W body dx)
    (he : ∀ c ∈ cs, ∀ cls, ClsK X.K c cls → PySem.W.exmOne X.K cls (.ref C) = some true) (hty : ∀ c ∈ cs, c ∉ tyNs := by decide) (hi : X.N[i]? = some n := by rfl) (hj : X.N[j]? = some m := by rfl)
    (hln : X.env.kindOf n = some .local := by rfl) (hlm : X.env.kindOf m = some .local := by rfl) (hdb : (n == ("__debug__" : Str)) = false := by decide) (hcd : (n == ("__classdict__" : Str)) = false := by decide)
    (hsw : ∀ a pq, swapsWith (.Name n pn') (some (.Name m pm)) pa.line (X.suite a pq).env = pure false := by intro _ _; rfl)
    (hs : X.stack = X.env :: X.outer := by rfl) (hf : X.env.frame = some X.env.locals := by rfl) (hex : X.ex = [] := by rfl) :
    PDS X (.Try body [.ExceptHandler (some (.Name x np)) (some n) [.Assign [.Name m pm] (.Name n pn') pa] pos'] [] [] pos) (dTryAs cs d dx i j) := by
  refine ⟨_, ps_keep (tb := fun W D σ H => ∀ pq xe, Takes (X.tr pq xe) W → ∃ t, PSs (X.tr pq xe) body t ∧ t D σ H) hs hf hex hN hi hj hln hlm hc hdb hcd hsw (fun W pq xe tk => ⟨fun pins s σ H D I hw => ?_⟩), ⟨fun {F κ G σ ρ M H D o} S E h1 k => ?_⟩⟩
  · obtain ⟨t, ht, hw⟩ := hw pq xe tk
    exact ht.run pins s σ H D I hw
  · intro pq xe tk
    unfold dTryAs at h1
    split at h1
    · rename_i c ρ1 M1 e1
      obtain ⟨hm, h1⟩ := grd_some h1
      cases h1
      refine (hx _ pq xe tk).ex D S E e1 ?_
      intro κ' G' σ' H' cls l S' E' hcl
      refine ⟨he c hm cls hcl, rfl, fun a na => ?_⟩
      have g := (S'.fresh na).1
      have l2 : Le κ' G' κ' (upd G' a (ExK cls a)) := Le.newG g
      have r : Rx X.K κ' (upd G' a (ExK cls a)) (.ref a) (.d (.ty c)) := Rv.exc upd_same hcl (hty c hm)
      exact k κ' _ _ _ (l.trans l2) (S'.newG _ na) ((((E'.mono l2).set r i).set r j).gone i)
    · obtain ⟨t, ht, hw⟩ := (hd pq xe).ex
      exact ⟨t, ht, hw.run S E h1 k⟩
end
/-! ### isinstance of what was caught -/
def rIsX (K : PySem.W.Frag) : List V → Hp → VK → Prop := fun xs H Q => rIsi K xs H Q ∨ ∃ (a D : Addr) (c : V) (u : Value) (b : Bool), xs = [.ref a, c] ∧ ClsV c u ∧ H a = some (ExK (.ref D) a) ∧ ExcC K D ∧ PySem.W.kitOne K (.ref D) u = some b ∧ Q (.bl b) H
def rIsXT (K : PySem.W.Frag) : List V → Hp → VK → Prop := fun xs H Q => rIsiT K xs H Q ∨ ∃ (a D tp : Addr) (cs : List V) (us : List Value) (b : Bool), xs = [.ref a, .ref tp] ∧ H tp = some (.tup cs) ∧ Paired ClsV cs us ∧ H a = some (ExK (.ref D) a) ∧ ExcC K D ∧ PySem.W.kitAny K (.ref D) us = some b ∧ Q (.bl b) H
theorem exK_at {P : Program} {w : World} {H : Hp} {g : Heap} {a D : Addr} (h : HOk P w H g) (e : H a = some (ExK (.ref D) a)) : ∃ ob, PySem.W.InstAt g a ob D none := by
  obtain ⟨⟨ob, fl, h1, ⟨h2, h3⟩, h4⟩, _⟩ := (show ObjOk P w H g a (ExK (.ref D) a) from h a _ e)
  obtain ⟨oc, od, oda, osl⟩ := ob
  dsimp only at h2 h3 h4
  subst h2 h3 h4
  exact ⟨_, h1, rfl, rfl, trivial⟩
section
variable {X : Cx}
theorem call_isX : CallR X (.builtin "isinstance") (rIsX X.K) := by
  intro pins s σ H xs us Q I r h
  rcases h with h | ⟨a, D, c, u, b, rfl, k, ha, ec, e, q⟩
  · exact call_isi pins s σ H xs us Q I r h
  · obtain ⟨u1, u2, rfl, r1, r2⟩ := vals2 r
    have e2 := k.eq r2
    subst e2
    cases (show u1 = Value.ref a from r1)
    obtain ⟨ob, J⟩ := exK_at I.hok ha
    exact PySem.W.kia_one (PySem.W.handS_kitx_exc ec.hg ec.hk ec.hs ec.hd ec.ha ec.hn ec.ht ec.hm) I.kIn J e (fun z => nomatch z) fun tk => ⟨.bl b, H, I.tok tk, rfl, q⟩
theorem call_isXT : CallR X (.builtin "isinstance") (rIsXT X.K) := by
  intro pins s σ H xs us Q I r h
  rcases h with h | ⟨a, D, tp, cs, ws, b, rfl, hT, k, ha, ec, e, q⟩
  · exact call_isiT pins s σ H xs us Q I r h
  · obtain ⟨u1, u2, rfl, r1, r2⟩ := vals2 r
    cases (show u1 = Value.ref a from r1)
    cases (show u2 = Value.ref tp from r2)
    obtain ⟨ob, J⟩ := exK_at I.hok ha
    obtain ⟨_, its, rv, o, h1, h2, nn, h3⟩ := (show ObjOk X.prog X.w H s.heap tp (.tup cs) from I.hok tp _ hT)
    have e3 := ClsV.all k rv
    subst e3
    obtain ⟨oc, od, dt, sl⟩ := o
    simp only at h2 h3
    subst h2 h3
    exact PySem.W.kia_tup (PySem.W.handS_kitx_exc ec.hg ec.hk ec.hs ec.hd ec.ha ec.hn ec.ht ec.hm) I.kIn J h1 e (fun z => nomatch z) fun tk => ⟨.bl b, H, I.tok tk, rfl, q⟩
end
/-- what isinstance answers of the class u: of None, and of errors of the classes all -/
structure IsF (K : PySem.W.Frag) (u : Value) (all cs : List String) : Prop where
  non : PySem.W.kitOne K (.type "NoneType") u = some false
  own : ∀ c ∈ all, ∃ D, ClsK K c (.ref D) ∧ ExcC K D ∧ PySem.W.kitOne K (.ref D) u = some (cs.contains c)
structure IsFT (K : PySem.W.Frag) (us : List Value) (all cs : List String) : Prop where
  non : PySem.W.kitAny K (.type "NoneType") us = some false
  own : ∀ c ∈ all, ∃ D, ClsK K c (.ref D) ∧ ExcC K D ∧ PySem.W.kitAny K (.ref D) us = some (cs.contains c)
section
variable {X : Cx} {e : Expr} {pos p p2 : Pos} {de : DE} {all cs : List String}
theorem d_isX {u : Value} {c : V} {v : Str} (hm : X.mg "isinstance" = none) (he : PD X e de) (hc : ClsV c u) (hp : PE X (.Name v p2) (tC c)) (Fs : IsF X.K u all cs) (hall : ∀ c ∈ all, c ∉ tyNs := by decide) (hg : Gl X "isinstance" := by rfl)
    (h1 : starEach [e, .Name v p2] X.env = (false, eval e X.env) :: starEach [.Name v p2] X.env := by rfl) (h2 : starEach [.Name v p2] X.env = (false, eval (.Name v p2) X.env) :: starEach [] X.env := by rfl) (hpl : (backTo pos (starEach [.Name v p2] X.env)).any (·.1) = false := by rfl) :
    PD X (.Call (.Name "isinstance" p) [e, .Name v p2] [] pos) (e1 (oIsX all cs) de) := by
  obtain ⟨t, a1, a2⟩ := he.ex
  refine ⟨_, pe_callB (x := "isinstance") call_isX hg hm (by decide +kernel) (pa_cons a1 (pa_cons hp pa_nil h2) h1) (by decide) (by decide) h1 hpl, ⟨fun {F κ G σ ρ M H Q z M'} S E h k => ?_⟩⟩
  unfold e1 at h
  split at h
  · rename_i y M1 ey
    refine a2.run S E ey fun κ1 G1 w H1 l1 S1 r1 => ?_
    have k1 := k.weak l1
    unfold oIsX at h
    split at h
    · cases h
      cases r1
      exact .inl ⟨.non, c, _, u, false, rfl, hc, .base .non, Fs.non, k1.here S1 (Rv.bl _)⟩
    · rename_i cn
      obtain ⟨hin, h⟩ := grd_some h
      cases h
      obtain ⟨D, q1, q2, q3⟩ := Fs.own _ hin
      cases r1 with
      | ty _ h0 => exact absurd h0 (hall _ hin)
      | exc g1 g2 g3 =>
        have z := g2.symm.trans q1
        cases z
        exact .inr ⟨_, D, c, u, _, rfl, hc, S1.ex _ _ g1, q2, q3, k1.here S1 (Rv.bl _)⟩
    · cases h
  · cases h
/-- names of classes, side by side -/
structure PCs (X : Cx) (es : List Expr) (cs : List V) (us : List Value) : Prop where
  ex : ∃ t, PA X es t ∧ ∀ σ H Q, Q cs H → t σ H Q
  pr : Paired ClsV cs us
theorem pc_nil : PCs X [] [] [] := ⟨⟨_, pa_nil, fun _ _ _ q => q⟩, .nil⟩
theorem pc_cons {v : Str} {es : List Expr} {c : V} {u : Value} {ws : List V} {us : List Value} (hp : PE X (.Name v p2) (tC c)) (hc : ClsV c u) (h : PCs X es ws us) (hs : starEach (.Name v p2 :: es) X.env = (false, eval (.Name v p2) X.env) :: starEach es X.env := by rfl) : PCs X (.Name v p2 :: es) (c :: ws) (u :: us) := by
  obtain ⟨t, a1, a2⟩ := h.ex
  exact ⟨⟨_, pa_cons hp a1 hs, fun σ H Q q => a2 σ H _ q⟩, .cons hc h.pr⟩
theorem d_isXT {es : List Expr} {kk : Nat} {ws : List V} {us : List Value} (hm : X.mg "isinstance" = none) (he : PD X e de) (hc : PCs X es ws us) (Fs : IsFT X.K us all cs) (hl : ws.length ≤ 100 := by simp) (hall : ∀ c ∈ all, c ∉ tyNs := by decide) (hg : Gl X "isinstance" := by rfl)
    (h1 : starEach [e, .Tuple es kk p2] X.env = (false, eval e X.env) :: starEach [.Tuple es kk p2] X.env := by rfl) (h2 : starEach [.Tuple es kk p2] X.env = (false, eval (.Tuple es kk p2) X.env) :: starEach [] X.env := by rfl) (hpl : (backTo pos (starEach [.Tuple es kk p2] X.env)).any (·.1) = false := by rfl) :
    PD X (.Call (.Name "isinstance" p) [e, .Tuple es kk p2] [] pos) (e1 (oIsX all cs) de) := by
  obtain ⟨t, a1, a2⟩ := he.ex
  obtain ⟨t2, b1, b2⟩ := hc.ex
  refine ⟨_, pe_callB (x := "isinstance") call_isXT hg hm (by decide +kernel) (pa_cons a1 (pa_cons (pe_tup b1) pa_nil h2) h1) (by decide) (by decide) h1 hpl, ⟨fun {F κ G σ ρ M H Q z M'} S E h k => ?_⟩⟩
  unfold e1 at h
  split at h
  · rename_i y M1 ey
    refine a2.run S E ey fun κ1 G1 w H1 l1 S1 r1 => ?_
    have k1 := k.weak l1
    refine b2 σ H1 _ ⟨sz_big (Nat.le_trans hl (by decide)), fun q hq => ?_⟩
    have g := (S1.fresh hq).1
    have l2 : Le κ1 G1 κ1 (upd G1 q (.tup ws)) := Le.newG g
    have S2 := S1.newG (.tup ws) hq
    have k2 := k1.weak l2
    unfold oIsX at h
    split at h
    · cases h
      cases r1
      exact .inl ⟨.non, q, ws, _, us, false, rfl, upd_same, hc.pr, .base .non, Fs.non, k2.here S2 (Rv.bl _)⟩
    · rename_i cn
      obtain ⟨hin, h⟩ := grd_some h
      cases h
      obtain ⟨D, q1, q2, q3⟩ := Fs.own _ hin
      cases r1 with
      | ty _ h0 => exact absurd h0 (hall _ hin)
      | exc g1 g2 g3 =>
        have z := g2.symm.trans q1
        cases z
        exact .inr ⟨_, D, q, ws, us, _, rfl, upd_same, hc.pr, upd_some hq (S1.ex _ _ g1), q2, q3, k2.here S2 (Rv.bl _)⟩
    · cases h
  · cases h
theorem pe_own {c : String} {C : Addr} {v : Str} (O : OwnX X.K X.mg c C) (hv : v = Str.ofString c := by rfl) (hg : Gl X v := by exact rfl) (hd : (v == ("__debug__" : Str)) = false := by decide) : PE X (.Name v p2) (tC (.ref C)) := by
  subst hv
  exact pe_glob hg O.gC rfl hd
theorem pe_ve {v : Str} {n : String} (hm : X.mg v = none) (hv : bootBuiltins v = some (.type n) := by decide +kernel) (hg : Gl X v := by exact rfl) (hn : v ≠ "__name__" := by decide) (hd : (v == ("__debug__" : Str)) = false := by decide) : PE X (.Name v p2) (tC (.ty n)) := pe_bltn (v := .ty n) hg hm hv rfl hn hd
end
/-- a class of errors, all told -/
structure OwnI (K : PySem.W.Frag) (mg : Str → Option Value) (c : String) (C : Addr) : Prop where
  o : OwnX K mg c C
  x : ExcC K C
theorem isf_nil {K : PySem.W.Frag} {u : Value} {cs : List String} : ∀ c ∈ ([] : List String), ∃ D, ClsK K c (.ref D) ∧ ExcC K D ∧ PySem.W.kitOne K (.ref D) u = some (cs.contains c) := fun _ h => nomatch h
theorem isf_cons {K : PySem.W.Frag} {mg : Str → Option Value} {u : Value} {cs all : List String} {c : String} {C : Addr} {b : Bool} (I : OwnI K mg c C) (h : PySem.W.kitOne K (.ref C) u = some b) (r : ∀ c ∈ all, ∃ D, ClsK K c (.ref D) ∧ ExcC K D ∧ PySem.W.kitOne K (.ref D) u = some (cs.contains c)) (hb : b = cs.contains c := by decide) :
    ∀ d ∈ c :: all, ∃ D, ClsK K d (.ref D) ∧ ExcC K D ∧ PySem.W.kitOne K (.ref D) u = some (cs.contains d) := fun d hd => by
  rcases List.mem_cons.mp hd with e | e
  · rw [e]
    exact ⟨C, I.o.ns, I.x, hb ▸ h⟩
  · exact r d e
theorem isft_nil {K : PySem.W.Frag} {us : List Value} {cs : List String} : ∀ c ∈ ([] : List String), ∃ D, ClsK K c (.ref D) ∧ ExcC K D ∧ PySem.W.kitAny K (.ref D) us = some (cs.contains c) := fun _ h => nomatch h
theorem isft_cons {K : PySem.W.Frag} {mg : Str → Option Value} {us : List Value} {cs all : List String} {c : String} {C : Addr} {b : Bool} (I : OwnI K mg c C) (h : PySem.W.kitAny K (.ref C) us = some b) (r : ∀ c ∈ all, ∃ D, ClsK K c (.ref D) ∧ ExcC K D ∧ PySem.W.kitAny K (.ref D) us = some (cs.contains c)) (hb : b = cs.contains c := by decide) :
    ∀ d ∈ c :: all, ∃ D, ClsK K d (.ref D) ∧ ExcC K D ∧ PySem.W.kitAny K (.ref D) us = some (cs.contains d) := fun d hd => by
  rcases List.mem_cons.mp hd with e | e
  · rw [e]
    exact ⟨C, I.o.ns, I.x, hb ▸ h⟩
  · exact r d e
/-- several classes, from one by one -/
theorem kA_cons {K : PySem.W.Frag} {t c : Value} {r : List Value} {a b : Bool} (h : PySem.W.kitOne K t c = some a) (hr : PySem.W.kitAny K t r = some b) : PySem.W.kitAny K t (c :: r) = some (a || b) := by
  unfold PySem.W.kitAny
  rw [h]
  cases a
  · simpa using hr
  · rfl
theorem kA_nil {K : PySem.W.Frag} {t : Value} : PySem.W.kitAny K t [] = some false := rfl
end Rw
end PRwKeep
section PRwMeth
set_option Elab.async false
set_option linter.all false
set_option maxRecDepth 100000
set_option maxHeartbeats 2000000
/-! RwMeth: methods that only read: index, count, join. -/
namespace Rw
open PySem L2 PySem.Spec PyProof.Rows
open Evl (Ex)
section
variable {K : PySem.W.Frag}
theorem sim_bmR {r : V → List V → Hp → VK → Prop} {f : Dv → List Dv → DSt → Option (Dv × DSt)} {to : TE} {o : DE} {ta : TA} {a : DA} (hr : SimRM K "list" r f) (hl : ∀ v as M z, f v as M = some z → ∃ xs, lv M v = some xs)
    (hs : ∀ v as M z, f v as M = some z → z.2 = M) (ho : SimE K to o) (hp : ∀ ρ M vs M', a ρ M = some (vs, M') → M' = M) (ha : SimA K ta a) : SimE K (tBM K "list" r to ta) (eM f o a) := ⟨fun {F κ G σ ρ M H Q z M'} S E h k => by
  unfold eM at h
  split at h
  · rename_i x M1 e
    split at h
    · rename_i xs M2 e2
      obtain ⟨ys, hy⟩ := hl _ _ _ _ h
      have em := hp _ _ _ _ e2
      subst em
      refine ho.run S E e fun κ1 G1 u H1 l1 S1 r1 => ⟨?_, ?_⟩
      · obtain ⟨b, us, rfl, q, _⟩ := lv_at S1 r1 hy
        exact .inl ⟨rfl, us, q⟩
      · exact ha.run S1 (E.mono l1) e2 fun κ2 G2 us H2 l2 S2 r2 => hr S2 (r1.mono l2) r2 h (k.weak (l1.trans l2))
    · cases h
  · cases h⟩
def rCnt (K : PySem.W.Frag) : V → List V → Hp → VK → Prop := fun x xs H Q => ∃ (a : Addr) (ys : List V) (y : V), x = V.ref a ∧ xs = [y] ∧ SqL K H a ys ∧ flatV y = true ∧ ys.all flatV = true ∧ Q (.int ((ys.countP fun z => eqV z y : Nat) : Int)) H
theorem count_eqU {y : V} : ∀ {ys : List V} {us : List Value}, Vals ys us → ys.all flatV = true → us.countP (eqU y) = ys.countP fun z => eqV z y
  | _, _, .nil, _ => rfl
  | z :: ys, u :: us, .cons r t, f => by
    rw [List.all_cons, Bool.and_eq_true] at f
    rw [List.countP_cons, List.countP_cons, eqU_of r f.1, count_eqU t f.2]
theorem mt_cnt {X : Cx} : MtR X "list.count" (rCnt X.K) := by
  intro pins s σ H x xs v us Q I rx rxs h
  obtain ⟨a, ys, y, rfl, rfl, hs, fy, fys, q⟩ := h
  cases rx
  obtain ⟨uy, rfl, ry⟩ := rxs.one
  obtain ⟨its, rv, ⟨⟨cls, dd, data, sl⟩, n, ho, hc, hdn, hd⟩, hlen⟩ := I.list hs
  simp only at hc hd
  subst hc hd
  refine call_meets PySem.F.slot_list_count ⟨_, ho, rfl⟩ PySem.F.entry_list_count (PySem.F.args_list_count_2 _ _)
    (SeqAt.list_countAt a its.toArray n dd sl uy (eqU y)) ⟨ho, fun u' hu' => mem_eqAt ry fy rv fys u' (by simpa using hu'), ?_⟩
  have ec : its.toArray.toList.countP (eqU y) = ys.countP fun z => eqV z y := count_eqU rv fys
  refine ⟨.int ((ys.countP fun z => eqV z y : Nat) : Int), H, I.tok _, ⟨s.toks, ?_⟩, q⟩
  show Value.int ((its.toArray.toList.countP (eqU y) : Nat) : Int) s.toks = _
  rw [ec]
theorem countD_of {G : Hp} {v : V} {y : D} (q : Rv K G v y) (h' : y.flat = true) : ∀ {us : List V} {xs : List D}, Rvs K G us xs → xs.all D.flat = true → (us.countP fun z => eqV z v) = xs.countP fun b => D.eqv b y
  | _, _, .nil, _ => rfl
  | _, _, .cons a r, h => by
    simp only [List.all_cons, Bool.and_eq_true] at h
    rw [List.countP_cons, List.countP_cons, eqV_of a q h.1 h', countD_of q h' r h.2]
theorem sm_count : SimRM K "list" (rCnt K) mCount := fun {F κ G M H Q x xs z M' u us} S r rs h k => by
  unfold mCount at h
  split at h
  · rename_i y ys e
    obtain ⟨⟨h1, h2⟩, h⟩ := grd_some h
    cases h
    obtain ⟨v, rfl, rv⟩ := rxs1 rs
    obtain ⟨b, vs, rfl, q, p⟩ := lv_at S r e
    refine ⟨b, vs, v, rfl, rfl, q, flat_of rv h1, flats_of p h2, ?_⟩
    rw [countD_of rv h1 p h2]
    exact k.here S (Rv.int _)
  · cases h
theorem sm_index : SimRM K "list" (rIndex K) mIndex := fun {F κ G M H Q x xs z M' u us} S r rs h k => by
  unfold mIndex at h
  split at h
  · rename_i y ys e
    obtain ⟨⟨h1, h2⟩, h⟩ := grd_some h
    split at h
    · rename_i j ej
      cases h
      obtain ⟨v, rfl, rv⟩ := rxs1 rs
      obtain ⟨b, vs, rfl, q, p⟩ := lv_at S r e
      obtain ⟨hj, hp, hno⟩ := List.findIdx?_eq_some_iff_getElem.mp ej
      obtain ⟨w, hw, rw'⟩ := p.get (List.getElem?_eq_getElem hj)
      have fl : ∀ d ∈ ys, d.flat = true := by
        rw [List.all_eq_true] at h2
        exact h2
      refine ⟨b, vs, v, j, w, rfl, rfl, q, flat_of rv h1, flats_of p h2, hw, ?_, fun m z' hm hz => ?_, k.here S (Rv.int _)⟩
      · rw [eqV_of rw' rv (fl _ (List.getElem_mem hj)) h1]
        exact hp
      · obtain ⟨d, hd, rd⟩ := p.get' hz
        obtain ⟨hml, hme⟩ := List.getElem?_eq_some_iff.mp hd
        rw [eqV_of rd rv (by rw [← hme]; exact fl _ (List.getElem_mem hml)) h1, ← hme]
        simpa using hno m hm
    · cases h
  · cases h
theorem ml_count : ∀ v as M z, mCount v as M = some z → ∃ xs, lv M v = some xs := fun v as M z h => by
  unfold mCount at h
  split at h
  · rename_i e
    exact ⟨_, e⟩
  · cases h
theorem ml_index : ∀ v as M z, mIndex v as M = some z → ∃ xs, lv M v = some xs := fun v as M z h => by
  unfold mIndex at h
  split at h
  · rename_i e
    exact ⟨_, e⟩
  · cases h
theorem ms_count : ∀ v as M z, mCount v as M = some z → z.2 = M := fun v as M z h => by
  unfold mCount at h
  split at h
  · obtain ⟨_, h⟩ := grd_some h
    cases h
    rfl
  · cases h
theorem ms_index : ∀ v as M z, mIndex v as M = some z → z.2 = M := fun v as M z h => by
  unfold mIndex at h
  split at h
  · obtain ⟨_, h⟩ := grd_some h
    split at h
    · cases h
      rfl
    · cases h
  · cases h
end
section
variable {X : Cx} {a e : Expr} {apos pos : Pos} {da : DE} {x : D} {n : Nat}
theorem pure1 {x : D} : ∀ ρ M vs M', aCons (eC x) aNil ρ M = some (vs, M') → M' = M := fun ρ M vs M' h => by
  cases h
  rfl
theorem d_count (ho : PD X a da) (hb : PDA X [e] (aCons (eC x) aNil) n) (hbase : attributeBase a "count" X.env (eval a X.env) = eval a X.env := by rfl)
    (hfew : ((backTo pos (starEach [e] X.env)).all (fun x => !x.1) && (backToKw pos (keywordEach [] X.env)).all (fun x => x.1.isSome)
      && decide ([e].length + ([] : List Keyword).length + (if ([] : List Keyword).isEmpty then 0 else 1) < 30)) = true := by rfl)
    (hline : (apos.endLine == pos.line) = true := by rfl) (hs : starEach [e] X.env = (false, eval e X.env) :: starEach [] X.env := by rfl) (hplain : (backTo pos (starEach [] X.env)).any (·.1) = false := by rfl) : PD X (.Call (.Attribute a "count" apos) [e] [] pos) (eM mCount da (aCons (eC x) aNil)) := by
  obtain ⟨t, h1, h2⟩ := ho.ex
  obtain ⟨u, h3, h4⟩ := hb.ex
  exact ⟨_, pe_bm PySem.F.plainAttrs_list PySem.F.slot_list_count PySem.F.type_list_count mt_cnt h1 h3 hbase hfew hline hs hplain, sim_bmR sm_count ml_count ms_count h2 pure1 h4⟩
theorem d_index (ho : PD X a da) (hb : PDA X [e] (aCons (eC x) aNil) n) (hbase : attributeBase a "index" X.env (eval a X.env) = eval a X.env := by rfl)
    (hfew : ((backTo pos (starEach [e] X.env)).all (fun x => !x.1) && (backToKw pos (keywordEach [] X.env)).all (fun x => x.1.isSome)
      && decide ([e].length + ([] : List Keyword).length + (if ([] : List Keyword).isEmpty then 0 else 1) < 30)) = true := by rfl)
    (hline : (apos.endLine == pos.line) = true := by rfl) (hs : starEach [e] X.env = (false, eval e X.env) :: starEach [] X.env := by rfl) (hplain : (backTo pos (starEach [] X.env)).any (·.1) = false := by rfl) : PD X (.Call (.Attribute a "index" apos) [e] [] pos) (eM mIndex da (aCons (eC x) aNil)) := by
  obtain ⟨t, h1, h2⟩ := ho.ex
  obtain ⟨u, h3, h4⟩ := hb.ex
  exact ⟨_, pe_bm PySem.F.plainAttrs_list PySem.F.slot_list_index PySem.F.type_list_index mt_index h1 h3 hbase hfew hline hs hplain, sim_bmR sm_index ml_index ms_index h2 pure1 h4⟩
end
theorem strs_of {K : PySem.W.Frag} {G : Hp} : ∀ {xs : List V} {ds : List D} {ns : List Str}, Rvs K G xs ds → strsD ds = some ns → xs = ns.map V.str
  | _, _, _, .nil, e => by simp [strsD] at e; subst e; rfl
  | _, _, ns, .cons h r, e => by
    rename_i v vs d ds
    cases d <;> simp only [strsD] at e <;> try (cases e)
    rename_i i
    cases e2 : strsD ds with
    | none => rw [e2] at e; cases e
    | some ms =>
      rw [e2] at e
      cases e
      cases h
      rw [strs_of r e2]
      rfl
theorem d_join {X : Cx} {e : Expr} {de : DE} {s : Str} {j : Nat} {p apos pos : Pos} (he : PD X e de) (hs : starEach [e] X.env = [(false, eval e X.env)] := by rfl) (hbase : attributeBase (.Constant (.str s) j p) "join" X.env (eval (.Constant (.str s) j p) X.env) = eval (.Constant (.str s) j p) X.env := by rfl) (hline : (apos.endLine == pos.line) = true := by rfl) :
    PD X (.Call (.Attribute (.Constant (.str s) j p) "join" apos) [e] [] pos) (e1 (oJoin s) de) := by
  obtain ⟨t, h1, h2⟩ := he.ex
  refine ⟨_, pe_join pe_str h1 hs hbase hline, ⟨fun {F κ G σ ρ M H Q z M'} S E h k => ?_⟩⟩
  unfold e1 at h
  split at h
  · rename_i x M1 e1
    unfold oJoin at h
    split at h
    · rename_i xs ex
      split at h
      · rename_i ys ey
        obtain ⟨hb, h⟩ := grd_some h
        cases h
        refine ⟨⟨s, rfl⟩, h2.run S E e1 fun κ1 G1 u H1 l1 S1 r1 => ?_⟩
        obtain ⟨b, us, rfl, q, p'⟩ := lv_at S1 r1 ex
        refine ⟨s, b, ys, rfl, rfl, .inl ?_, Nat.le_trans hb (by decide), ?_⟩
        · rw [← strs_of p' ey]
          exact q
        · have ej : Txt.join s ys = Str.join s ys := PySem.StrLaws.glued_eq_join s ys
          rw [ej]
          exact k κ1 G1 _ H1 l1 S1 (Rv.str _)
      · cases h
    · cases h
  · cases h
end Rw
end PRwMeth
section PRwSemY
set_option autoImplicit false
set_option linter.all false
/-! RwSemY: a chain of three comparisons; a loop whose body raises. -/
namespace Rw
open PySem (Str)
noncomputable section
/-- a chain of three comparisons -/
def eChain3 (f g h : O2) (a b c d : DE) : DE := fun ρ M => match a ρ M with
  | some (x, M1) => match b ρ M1 with
    | some (y, M2) => match f x y M2 with
      | some (.d (.bl true), M3) => match c ρ M3 with
        | some (z, M4) => match g y z M4 with
          | some (.d (.bl true), M5) => match d ρ M5 with
            | some (w, M6) => h z w M6
            | none => none
          | some (.d (.bl false), M5) => some (.d (.bl false), M5)
          | _ => none
        | none => none
      | some (.d (.bl false), M3) => some (.d (.bl false), M3)
      | _ => none
    | none => none
  | none => none
/-- len(set(xs)), whole numbers -/
def dupStep (acc : List Int) (x : Int) : List Int := if acc.any (· == x) then acc else acc ++ [x]
def distZ (ns : List Int) : Nat := (ns.foldl dupStep []).length
def oDist : O1 := fun v M => match lv M v with
  | some xs => match intsD xs with
    | some ns => grd (ns.length ≤ 4000) (some (.d (.int (distZ ns : Nat)), M))
    | none => none
  | none => none
/-- x in xs, things of any depth -/
def oInD (neg : Bool) : O2 := fun x y M => match dv M x, dv M y with
  | some a, some (.lst ys) => grd (a.shp 8 = true ∧ (D.lst ys).shp 9 = true) (some (.d (.bl (xor neg (ys.any fun b => D.eqv b a))), M))
  | _, _ => none
/-- a loop that raises within its body -/
def xForL (chk : DSt → Prop) (step : D → DEnv → DSt → Option Out) (xs : D → DX) : List D → DX
  | [], _, _ => none
  | x :: r, ρ, M => grd (chk M) (match xs x ρ M with
    | some q => some q
    | none => match step x ρ M with
      | some (.nx ρ1 M1) => xForL chk step xs r ρ1 M1
      | some (.ct ρ1 M1) => xForL chk step xs r ρ1 M1
      | _ => none)
def xForStep (tg : Tgt) (b : DX) (x : D) : DX := fun ρ M => match tg.put (.d x) ρ with
  | some ρ1 => b ρ1 M
  | none => none
def xFor (it : DI) (tg : Tgt) (s : DS) (b : DX) : DX := fun ρ M => match it ρ M with
  | some (xs, src, M1) => xForL (stand src M1) (forStep tg s) (xForStep tg b) xs ρ M1
  | none => none
end
end Rw
end PRwSemY
section PRwOkY
set_option linter.all false
set_option maxHeartbeats 1000000
namespace Rw
section
variable {ρ : DEnv} {M : DSt} {P : Dv × DSt → Prop}
@[simp ↓] theorem ok_chain3 {f g h : O2} {a b c d : DE} : Ok (eChain3 f g h a b c d ρ M) P ↔ Ok (a ρ M) fun p => Ok (b ρ p.2) fun q => Ok (f p.1 q.1 q.2) fun r => Ok (asB r.1) fun k => if k = true then Ok (c ρ r.2) fun s => Ok (g q.1 s.1 s.2) fun r2 => Ok (asB r2.1) fun k2 => if k2 = true then Ok (d ρ r2.2) fun t => Ok (h s.1 t.1 t.2) P else P (.d (.bl false), r2.2) else P (.d (.bl false), r.2) := by
  unfold eChain3
  cases a ρ M with
  | none => simp
  | some p =>
    obtain ⟨x, M1⟩ := p
    simp only [ok_some]
    cases b ρ M1 with
    | none => simp
    | some q =>
      obtain ⟨y, M2⟩ := q
      simp only [ok_some]
      cases f x y M2 with
      | none => simp
      | some r =>
        obtain ⟨v, M3⟩ := r
        simp only [ok_some]
        cases v with
        | d v =>
          cases v with
          | bl k =>
            cases k with
            | false => simp [asB]
            | true =>
              simp only [asB, ok_some, if_true]
              cases c ρ M3 with
              | none => simp
              | some s =>
                obtain ⟨z, M4⟩ := s
                simp only [ok_some]
                cases g y z M4 with
                | none => simp
                | some r2 =>
                  obtain ⟨v2, M5⟩ := r2
                  simp only [ok_some]
                  cases v2 with
                  | d v2 =>
                    cases v2 with
                    | bl k2 =>
                      cases k2 with
                      | false => simp [asB]
                      | true =>
                        simp only [asB, ok_some, if_true]
                        cases d ρ M5 <;> simp
                    | _ => simp [asB]
                  | _ => simp [asB]
          | _ => simp [asB]
        | _ => simp [asB]
end
end Rw
end PRwOkY
section PRwLink
set_option Elab.async false
set_option linter.all false
set_option maxRecDepth 100000
set_option maxHeartbeats 2000000
/-! RwLink: a chain of three comparisons; a loop whose body raises. -/
namespace Rw
open PySem L2 PySem.Spec PyProof.Rows
open Evl (Ex)
def tChain3 (r r' r'' : R2) (ta tb tc td : TE) : TE := fun σ H Q => ta σ H fun x H1 => tb σ H1 fun y H2 => r x y H2 fun z H3 => ∃ k, z = .bl k ∧
  (if k = true then tc σ H3 fun w H4 => r' y w H4 fun z2 H5 => ∃ k2, z2 = .bl k2 ∧ (if k2 = true then td σ H5 fun u H6 => r'' w u H6 Q else Q (.bl false) H5) else Q (.bl false) H3)
section
variable {X : Cx} {a b c d : Expr} {ta tb tc td : TE} {pos : Pos}
theorem pt_chain3 {op op' op'' : CmpOp} {r r' r'' : R2} (ho : OpR X (compareOp op) r) (ho' : OpR X (compareOp op') r') (ho'' : OpR X (compareOp op'') r'') (ha : PE X a ta) (hb : PE X b tb) (hc : PE X c tc) (hd : PE X d td)
    (hm : lastMarks [op, op', op''] [b, c, d] = false := by with_unfolding_all rfl) : PT X (.Compare a [op, op', op''] [b, c, d] pos) (tTest (tChain3 r r' r'' ta tb tc td)) := by
  refine ⟨fun pins s σ H Q I h => ?_⟩
  refine isTrue_chain (thn (ha.run pins s σ H _ I h) fun v s1 ⟨x, H1, I1, r1, q1⟩ => test_link (thn (hb.run pins s1 σ H1 _ I1 q1) fun u s2 ⟨y, H2, I2, r2, q2⟩ =>
    thn (ho pins s2 σ H2 x y v u _ I2 r1 r2 q2) fun d s3 ⟨z, H3, I3, r3, k, e, q3⟩ => ?_)) hm
  subst e
  cases r3
  refine wpAny_truthy_bool ?_
  cases k with
  | false =>
    obtain ⟨k', e', q'⟩ := q3
    cases e'
    exact ite_ff ⟨H3, I3, q'⟩
  | true =>
    refine ite_tt (test_link (thn (hc.run pins s3 σ H3 _ I3 q3) fun w' s4 ⟨z', H4, I4, r4, q4⟩ => thn (ho' pins s4 σ H4 y z' u w' _ I4 r2 r4 q4) fun d' s5 ⟨z2, H5, I5, r5, k2, e2, q5⟩ => ?_))
    subst e2
    cases r5
    refine wpAny_truthy_bool ?_
    cases k2 with
    | false =>
      obtain ⟨k', e', q'⟩ := q5
      cases e'
      exact ite_ff ⟨H5, I5, q'⟩
    | true =>
      refine ite_tt (test_last (thn (hd.run pins s5 σ H5 _ I5 q5) fun w'' s6 ⟨z'', H6, I6, r6, q6⟩ => thn (ho'' pins s6 σ H6 z' z'' w' w'' _ I6 r4 r6 q6) fun d'' s7 ⟨z3, H7, I7, r7, k3, e3, q7⟩ => ?_))
      subst e3
      cases r7
      exact wpAny_truthy_bool ⟨H7, I7, q7⟩
end
section
variable {K : PySem.W.Frag}
theorem sim_chain3 {r r' r'' : R2} {f g h' : O2} {ta tb tc td : TE} {a b c d : DE} (hr : SimR2 K r f) (hr' : SimR2 K r' g) (hr'' : SimR2 K r'' h') (ha : SimE K ta a) (hb : SimE K tb b) (hc : SimE K tc c) (hd : SimE K td d) : SimE K (tChain3 r r' r'' ta tb tc td) (eChain3 f g h' a b c d) := ⟨fun {F κ G σ ρ M H Q z M'} S E h k => by
  unfold eChain3 at h
  split at h
  · rename_i x M1 e
    split at h
    · rename_i y M2 e2
      refine ha.run S E e fun κ1 G1 u H1 l1 S1 r1 => hb.run S1 (E.mono l1) e2 fun κ2 G2 v H2 l2 S2 r2 => ?_
      split at h
      · rename_i M3 e3
        split at h
        · rename_i zz M4 e4
          refine hr S2 (r1.mono l2) r2 e3 fun κ3 G3 w H3 l3 S3 r3 => ⟨true, ?_, ?_⟩
          · cases r3; rfl
          · show (if true = true then _ else _)
            rw [if_pos rfl]
            have E3 := ((E.mono l1).mono l2).mono l3
            refine hc.run S3 E3 e4 fun κ4 G4 w4 H4 l4 S4 r4 => ?_
            split at h
            · rename_i M5 e5
              split at h
              · rename_i w6 M6 e6
                refine hr' S4 ((r2.mono l3).mono l4) r4 e5 fun κ5 G5 w5 H5 l5 S5 r5 => ⟨true, ?_, ?_⟩
                · cases r5; rfl
                · show (if true = true then _ else _)
                  rw [if_pos rfl]
                  exact hd.run S5 ((E3.mono l4).mono l5) e6 fun κ6 G6 w6 H6 l6 S6 r6 => hr'' S6 ((r4.mono l5).mono l6) r6 h (k.weak (((((l1.trans l2).trans l3).trans l4).trans l5).trans l6))
              · cases h
            · rename_i M5 e5
              cases h
              refine hr' S4 ((r2.mono l3).mono l4) r4 e5 fun κ5 G5 w5 H5 l5 S5 r5 => ⟨false, ?_, ?_⟩
              · cases r5; rfl
              · show (if false = true then _ else _)
                rw [if_neg Bool.false_ne_true]
                exact k κ5 G5 (.bl false) H5 ((((l1.trans l2).trans l3).trans l4).trans l5) S5 (Rv.bl false)
            · cases h
        · cases h
      · rename_i M3 e3
        cases h
        refine hr S2 (r1.mono l2) r2 e3 fun κ3 G3 w H3 l3 S3 r3 => ⟨false, ?_, ?_⟩
        · cases r3; rfl
        · show (if false = true then _ else _)
          rw [if_neg Bool.false_ne_true]
          exact k κ3 G3 (.bl false) H3 ((l1.trans l2).trans l3) S3 (Rv.bl false)
      · cases h
    · cases h
  · cases h⟩
end
section
variable {X : Cx} {a b c d : Expr} {da db dc dd : DE} {pos : Pos}
theorem t_chain3 {op op' op'' : CmpOp} {f g h : O2} (hc : CmpR X op f) (hc' : CmpR X op' g) (hc'' : CmpR X op'' h) (ha : PD X a da) (hb : PD X b db) (he : PD X c dc) (hd : PD X d dd) (hm : lastMarks [op, op', op''] [b, c, d] = false := by rfl) :
    PDT X (.Compare a [op, op', op''] [b, c, d] pos) (tVal (eChain3 f g h da db dc dd)) := by
  obtain ⟨r, h0, h9⟩ := hc.ex
  obtain ⟨r', h0', h9'⟩ := hc'.ex
  obtain ⟨r'', h0'', h9''⟩ := hc''.ex
  obtain ⟨t, h1, h2⟩ := ha.ex
  obtain ⟨u, h3, h4⟩ := hb.ex
  obtain ⟨v, h5, h6⟩ := he.ex
  obtain ⟨w, h7, h8⟩ := hd.ex
  exact ⟨_, pt_chain3 h0 h0' h0'' h1 h3 h5 h7 hm, sim_tTest (sim_chain3 h9 h9' h9'' h2 h4 h6 h8)⟩
end
section
variable {X : Cx} {W : WX} {s : DS} {x : DX} {pos : Pos}
/-- what is walked with numbers raises -/
theorem x_forE {a : Expr} {tgt : Tgt} {body : List Stmt} {elts : List Expr} {kk : Nat} {tpos p pos' : Pos} (hm : X.mg "enumerate" = none) (he : PEX X W a x) (hg : PDG X (.Tuple elts kk tpos) tgt) (hgl : Gl X "enumerate" := by rfl) (hse : starEach [a] X.env = [(false, eval a X.env)] := by rfl) (hp : PassesOwn (model X.prog X.w) X.A X.env X.xe := by exact PassesOwn.leaving) (hc : X.calm = true := by rfl) (hs : ∀ x, foldedSetIterable (.Call (.Name "enumerate" p) [a] [] pos') X.env x = pure x := by intro _; rfl) : PDX1 X W (.For (.Tuple elts kk tpos) (.Call (.Name "enumerate" p) [a] [] pos') body [] pos) x := ⟨fun D S E h k => by
  obtain ⟨t, ht, hw⟩ := he.ex
  obtain ⟨u, hu⟩ := pss_some (X := X) body
  exact ⟨_, ps_for hp hc (pi_enum hgl hm (pa_cons ht pa_nil hse) hse) hg.ex hu hs, hw _ S E h k⟩⟩
/-- a body that raises -/
theorem x_forB {tg iter : Expr} {tgt : Tgt} {it : DI} {body : List Stmt} (hi : PDI X tg iter it) (hg : PDG X tg tgt) (hb : PDB X body s) (hx : PDX X W body x) (hp : PassesOwn (model X.prog X.w) X.A X.env X.xe := by exact PassesOwn.leaving) (hc : X.calm = true := by rfl) (hs : ∀ x, foldedSetIterable iter X.env x = pure x := by intro _; rfl) : PDX1 X W (.For tg iter body [] pos) (xFor it tgt s x) := ⟨fun {F κ G σ ρ M H c ρ' M'} D S E h k => by
  obtain ⟨wi, a1, hi2⟩ := hi.ex
  obtain ⟨tb, c1, hs2⟩ := hb.ex
  refine ⟨_, ps_for hp hc a1 hg.ex (pss_any (ss := body)) hs, ?_⟩
  unfold xFor at h
  split at h
  · rename_i xs src M0 e
    refine hi2.run S E e fun κ1 G1 H1 J Gd Y l1 S1 W' hG hY => ?_
    refine for_it (g := tgt.tg X.K) (tb := fun D σ H => ∃ t, PSs X body t ∧ t D σ H) (D := D) W' (fun i σ H => ∃ κ2 G2 ρ2 M3, Le κ1 G1 κ2 G2 ∧ Sm X.K F κ2 G2 M3 H ∧ Se X.K κ2 G2 σ ρ2 ∧ i ≤ xs.length ∧ xForL (stand src M0) (forStep tgt s) (xForStep tgt x) (xs.drop i) ρ2 M3 = some (c, ρ', M')) ?_ ?_ ?_ ?_
    · exact ⟨κ1, G1, ρ, M0, Le.refl _ _, S1, E.mono l1, Nat.zero_le _, h⟩
    · rintro i σ H hi ⟨κ2, G2, ρ2, M3, l2, S2, E2, _, h2⟩
      refine hG F κ2 G2 M3 H l2 S2 ?_
      cases hx : xs.drop i with
      | nil => rw [hx] at h2; unfold xForL at h2; cases h2
      | cons y r => rw [hx] at h2; unfold xForL at h2; exact (grd_some h2).1
    · rintro i x' σ H H' hi ⟨κ2, G2, ρ2, M3, l2, S2, E2, _, h2⟩ hy
      have hx' : xs.drop i = xs[i] :: xs.drop (i + 1) := List.drop_eq_getElem_cons hi
      rw [hx'] at h2
      unfold xForL at h2
      obtain ⟨st, h2⟩ := grd_some h2
      obtain ⟨G3, d, x3, S3, ed, rd⟩ := hY i F κ2 G2 M3 H x' H' hi l2 S2 st hy
      have ed2 : xs[i] = d := by
        rw [List.getElem?_eq_getElem hi] at ed
        exact Option.some.inj ed
      rw [ed2] at h2
      have l3 : Le κ1 G1 κ2 G3 := l2.trans ⟨List.prefix_refl _, x3⟩
      cases ep : tgt.put (.d d) ρ2 with
      | none =>
        simp only [xForStep, forStep, ep] at h2
        cases h2
      | some ρ1 =>
        simp only [xForStep, forStep, ep] at h2
        refine put_ok S3 tgt (x := .d d) rd (E2.mono ⟨List.prefix_refl _, x3⟩) ep fun σ2 E3 _ => ?_
        cases eq : x ρ1 M3 with
        | some q =>
          simp only [eq] at h2
          cases h2
          exact hx.ex _ S3 E3 eq (k.weak (l1.trans l3))
        | none =>
          simp only [eq] at h2
          cases es : s ρ1 M3 with
          | none => simp only [es] at h2; cases h2
          | some q =>
            simp only [es] at h2
            refine ⟨tb, c1, hs2.run S3 E3 es ?_⟩
            cases q with
            | nx ρ4 M4 => exact fun κ' G' σ' H' l S' E' => ⟨κ', G', ρ4, M4, l3.trans l, S', E', by omega, h2⟩
            | ct ρ4 M4 => exact fun κ' G' σ' H' l S' E' => ⟨κ', G', ρ4, M4, l3.trans l, S', E', by omega, h2⟩
            | bk ρ4 M4 => cases h2
            | rt v M4 => cases h2
    · rintro σ H ⟨κ2, G2, ρ2, M3, l2, S2, E2, _, h2⟩
      rw [List.drop_length] at h2
      unfold xForL at h2
      cases h2
  · cases h⟩
end
end Rw
end PRwLink
section PRwSet
set_option Elab.async false
set_option linter.all false
set_option maxRecDepth 100000
set_option maxHeartbeats 2000000
/-! RwSet: len(set(xs)) of whole numbers. -/
namespace Rw
open PySem L2 PySem.Spec PyProof.Rows
open Evl (Ex)
theorem foldDup (ns : List Int) : firstMet (fun i => ns.getD i 0) ns.length = ns.foldl dupStep [] := by
  have e : (List.range ns.length).map (fun i => ns.getD i 0) = ns := by
    apply List.ext_getElem
    · simp
    · intro i h1 h2
      simp [List.getD_eq_getElem?_getD, List.getElem?_eq_getElem h2]
  unfold firstMet
  rw [e]
  rfl
def tLenSetG (K : PySem.W.Frag) (ta : TE) : TE := fun σ H Q => ta σ H fun x H1 => ∃ (l : Addr) (ns : List Int), x = .ref l ∧ SqL K H1 l (ns.map V.int) ∧ ns.length ≤ 4000 ∧ Q (.int (distZ ns : Nat)) H1
theorem pe_lenSetG {X : Cx} {a : Expr} {ta : TE} {p p2 q pos : Pos} (hg : Gl X "len") (hm : X.mg "len" = none) (hg2 : Gl X "set") (hm2 : X.mg "set" = none) (ha : PE X a ta) (hc : X.calm = true := by rfl)
    (na : starEach [a] X.env = (false, eval a X.env) :: starEach [] X.env := by rfl) : PE X (.Call (.Name "len" p) [.Call (.Name "set" p2) [a] [] q] [] pos) (tLenSetG X.K ta) := by
  refine ⟨fun pins s σ H Q I h => ?_⟩
  refine Call_ (ld_blt I hg hm boot_len ?_)
  refine PyProof.Rows.callWith_builtin1 (PyProof.Rows.args_cons ?_ rfl) rfl rfl
  refine Call_ (ld_blt I hg2 hm2 boot_set ?_)
  refine PyProof.Rows.callWith_type1 (PyProof.Rows.args_cons (thn (ha.run pins s σ H _ I h) fun v s1 ⟨x, H1, I1, r1, q1⟩ => PyProof.Rows.args_nil ?_) na) na rfl
  obtain ⟨l, ns, rfl, hq, hl, q1⟩ := q1
  cases r1
  obtain ⟨its, r, pl, hz⟩ := I1.list hq
  have hlen : its.toArray.size = ns.length := by rw [List.size_toArray, ← r.length, List.length_map]
  refine call_set_list (I1.ok.hd hc) pl.isList (by simpa using RZ.intsAre_vals r) (by rw [hlen]; unfold scanBound; omega) fun h' tk hS hk => ?_
  refine PyProof.Rows.args_nil ?_
  rw [hlen, foldDup] at hS
  obtain ⟨o, es, ep, t, ho, hex, hd, _, _, _, hf, hn⟩ := hS
  have I2 : Inv X pins σ H1 { s1 with heap := h', toks := tk } := I1.kept fun b o e => hk b o (Heap.lt_size e) e
  have hle := firstMet_length_le (fun i => ns.getD i 0) ns.length
  rw [foldDup] at hle
  exact call_len_set ho hex hd hf (by rw [hn] <;> omega) ⟨.int (distZ ns : Nat), H1, I2.tok _, ⟨_, by rw [hn]; rfl⟩, q1⟩
theorem sim_dist {K : PySem.W.Frag} {ta : TE} {a : DE} (ha : SimE K ta a) : SimE K (tLenSetG K ta) (e1 oDist a) := ⟨fun {F κ G σ ρ M H Q z M'} S E h k => by
  unfold e1 at h
  split at h
  · rename_i x M1 e
    unfold oDist at h
    split at h
    · rename_i xs ex
      split at h
      · rename_i ns en
        obtain ⟨hp, h⟩ := grd_some h
        cases h
        refine ha.run S E e fun κ1 G1 u H1 l1 S1 r1 => ?_
        obtain ⟨p, vs, rfl, hs, rr⟩ := lv_at S1 r1 ex
        rw [rr.ints_of en] at hs
        exact ⟨p, ns, rfl, hs, hp, (k.weak l1).here S1 (Rv.int _)⟩
      · cases h
    · cases h
  · cases h⟩
theorem d_dist {X : Cx} {a : Expr} {da : DE} {p p2 q pos : Pos} (hm : X.mg "len" = none) (hm2 : X.mg "set" = none) (ha : PD X a da) (hg : Gl X "len" := by rfl) (hg2 : Gl X "set" := by rfl) (hc : X.calm = true := by rfl)
    (na : starEach [a] X.env = (false, eval a X.env) :: starEach [] X.env := by rfl) : PD X (.Call (.Name "len" p) [.Call (.Name "set" p2) [a] [] q] [] pos) (e1 oDist da) := by
  obtain ⟨t, h1, h2⟩ := ha.ex
  exact ⟨_, pe_lenSetG hg hm hg2 hm2 h1 hc na, sim_dist h2⟩
end Rw
end PRwSet
section PRwDeep
set_option Elab.async false
set_option linter.all false
set_option maxRecDepth 100000
set_option maxHeartbeats 2000000
/-! RwDeep: x in xs, things of any depth. -/
namespace Rw
open PySem L2 PySem.Spec PyProof.Rows
open Evl (Ex)
theorem any_toPys {a : D} (ha : a.shp 8 = true) : ∀ {ys : List D}, ys.all (D.shp 8) = true → ((D.toPys ys).any fun z => PyData.eqv z a.toPy) = ys.any fun b => D.eqv b a
  | [], _ => rfl
  | y :: ys, h => by
    rw [List.all_cons, Bool.and_eq_true] at h
    show (PyData.eqv y.toPy a.toPy || (D.toPys ys).any _) = (D.eqv y a || ys.any _)
    rw [eqv_of 8 y a h.1 ha, any_toPys ha h.2]
section
variable {K : PySem.W.Frag}
theorem sr_inD : SimR2 K (rInD K) (oInD false) := fun {F κ G M H Q x y z M' u v} S rx ry h k => by
  unfold oInD at h
  split at h
  · rename_i a ys e1 e2
    obtain ⟨⟨h1, h2⟩, h⟩ := grd_some h
    cases h
    refine ⟨a.toPy, D.toPys ys, dp_dv S rx e1 (n := 7) h1, dp_dv S ry e2 (n := 8) h2, shaped_of h1 (by decide), shaped_of h2 (by decide), ?_⟩
    rw [any_toPys h1 h2]
    have := k.here S (Rv.bl (xor false (ys.any fun b => D.eqv b a)))
    simpa using this
  · cases h
theorem sr_notInD : SimR2 K (rNotInD K) (oInD true) := fun {F κ G M H Q x y z M' u v} S rx ry h k => by
  unfold oInD at h
  split at h
  · rename_i a ys e1 e2
    obtain ⟨⟨h1, h2⟩, h⟩ := grd_some h
    cases h
    refine ⟨a.toPy, D.toPys ys, dp_dv S rx e1 (n := 7) h1, dp_dv S ry e2 (n := 8) h2, shaped_of h1 (by decide), shaped_of h2 (by decide), ?_⟩
    rw [any_toPys h1 h2]
    have := k.here S (Rv.bl (xor true (ys.any fun b => D.eqv b a)))
    simpa using this
  · cases h
end
section
variable {X : Cx}
theorem k_inD {k : Nat} (hr : Room k X.A) : CmpR X .In (oInD false) := ⟨_, op_inD (by have := hr.un; omega), sr_inD⟩
theorem k_notinD {k : Nat} (hr : Room k X.A) : CmpR X .NotIn (oInD true) := ⟨_, op_notInD (by have := hr.un; omega), sr_notInD⟩
end
end Rw
end PRwDeep
section PRwSemZ
set_option autoImplicit false
set_option linter.all false
/-! RwSemZ: is of truths, the order of tuples of whole numbers. -/
namespace Rw
open PySem (Str)
noncomputable section
/-- x is b, truths -/
def oIsB : O2 := fun x y M => match x, y with
  | .d (.bl a), .d (.bl b) => some (.d (.bl (decide (a = b))), M)
  | _, _ => none
def oNotB : O2 := fun x y M => match x, y with
  | .d (.bl a), .d (.bl b) => some (.d (.bl (!decide (a = b))), M)
  | _, _ => none
def lexZ : List Int → List Int → Bool
  | [], [] => false
  | [], _ :: _ => true
  | _ :: _, [] => false
  | x :: xs, y :: ys => if x = y then lexZ xs ys else decide (x < y)
def oLtT : O2 := fun x y M => match x, y with
  | .d (.tup xs), .d (.tup ys) => match intsD xs, intsD ys with
    | some ns, some ms => some (.d (.bl (lexZ ns ms)), M)
    | _, _ => none
  | _, _ => none
def oGtT : O2 := fun x y M => match x, y with
  | .d (.tup xs), .d (.tup ys) => match intsD xs, intsD ys with
    | some ns, some ms => some (.d (.bl (lexZ ms ns)), M)
    | _, _ => none
  | _, _ => none
/-- the list in a slot is data from now on -/
def gFrz (i : Nat) : DS := fun ρ M => match ρ[i]? with
  | some (some (.c n)) => match (M[n]?).join with
    | some xs => some (.nx (ρ.set i (some (.d (.lst xs)))) (M.set n none))
    | none => none
  | _ => none
end
end Rw
end PRwSemZ
section PRwOkZ
set_option linter.all false
set_option maxHeartbeats 1000000
namespace Rw
section
variable {M : DSt} {P : Dv × DSt → Prop}
@[simp ↓] theorem ok_isB {a b : Bool} : Ok (oIsB (.d (.bl a)) (.d (.bl b)) M) P ↔ P (.d (.bl (decide (a = b))), M) := by simp [oIsB]
@[simp ↓] theorem ok_notB {a b : Bool} : Ok (oNotB (.d (.bl a)) (.d (.bl b)) M) P ↔ P (.d (.bl (!decide (a = b))), M) := by simp [oNotB]
/-- two places, in order -/
def pairLt (a b c d : Int) : Bool := if a = c then decide (b < d) else decide (a < c)
theorem lexZ2 (a b c d : Int) : lexZ [a, b] [c, d] = pairLt a b c d := by
  unfold pairLt
  by_cases h : a = c
  · by_cases h2 : b = d <;> simp [lexZ, h, h2]
  · simp [lexZ, h]
@[simp ↓] theorem ok_ltT {a b c d : Int} : Ok (oLtT (.d (.tup [.int a, .int b])) (.d (.tup [.int c, .int d])) M) P ↔ P (.d (.bl (pairLt a b c d)), M) := by simp [oLtT, intsD, lexZ2]
@[simp ↓] theorem ok_gtT {a b c d : Int} : Ok (oGtT (.d (.tup [.int a, .int b])) (.d (.tup [.int c, .int d])) M) P ↔ P (.d (.bl (pairLt c d a b)), M) := by simp [oGtT, intsD, lexZ2]
theorem ok_gFrz {i n : Nat} {ρ : DEnv} {M : DSt} {xs : List D} {P : Out → Prop} (h : ρ[i]? = some (some (.c n))) (hc : M[n]? = some (some xs)) : Ok (gFrz i ρ M) P ↔ P (.nx (ρ.set i (some (.d (.lst xs)))) (M.set n none)) := by
  simp [gFrz, h, hc]
end
end Rw
end PRwOkZ
section PRwMisc
set_option Elab.async false
set_option linter.all false
set_option maxRecDepth 100000
set_option maxHeartbeats 2000000
/-! RwMisc: is of truths, the order of tuples of whole numbers. -/
namespace Rw
open PySem L2 PySem.Spec PyProof.Rows
open Evl (Ex)
theorem lexZ_eq : ∀ (ns ms : List Int), HT.lexLt ns ms = lexZ ns ms
  | [], [] => rfl
  | [], _ :: _ => rfl
  | _ :: _, [] => rfl
  | x :: xs, y :: ys => by
    rw [HT.lexLt_cons, lexZ, lexZ_eq xs ys]
theorem lexAt_shift {e r : Nat → Bool} {z : Bool} : ∀ (k i : Nat), Ob.lexAt e r z (i + 1) k = Ob.lexAt (fun j => e (j + 1)) (fun j => r (j + 1)) z i k
  | 0, _ => rfl
  | k + 1, i => by
    rw [Ob.lexAt_succ, Ob.lexAt_succ, lexAt_shift k (i + 1)]
theorem lexAt_gt : ∀ (ns ms : List Int), Ob.lexAt (fun j => decide (ns.getD j 0 = ms.getD j 0)) (fun j => decide (ms.getD j 0 < ns.getD j 0)) (decide (ns.length > ms.length)) 0 (min ns.length ms.length) = lexZ ms ns
  | [], [] => rfl
  | [], y :: ys => by simp [Ob.lexAt, lexZ]
  | x :: xs, [] => by simp [Ob.lexAt, lexZ]
  | x :: xs, y :: ys => by
    have ih := lexAt_gt xs ys
    rw [show min (x :: xs).length (y :: ys).length = min xs.length ys.length + 1 by simp, Ob.lexAt_succ, lexAt_shift]
    have hz : (decide ((x :: xs).length > (y :: ys).length)) = decide (xs.length > ys.length) := by simp
    rw [hz]
    simp only [List.getD_cons_zero, List.getD_cons_succ, decide_eq_true_eq]
    rw [ih, lexZ]
    by_cases h : x = y
    · simp [h]
    · have h2 : ¬ y = x := fun z => h z.symm
      simp [h, h2]
def rGtT (K : PySem.W.Frag) : R2 := fun x y H Q => ∃ (a b : Addr) (ns ms : List Int), x = .ref a ∧ y = .ref b ∧ SqT K H a (ns.map V.int) ∧ SqT K H b (ms.map V.int) ∧ Q (.bl (lexZ ms ns)) H
theorem op_gtT {X : Cx} (hu : X.A.units < cLine) : OpR X (compareOp .Gt) (rGtT X.K) := by
  rintro pins s σ H x y v u Q I rx ry ⟨a, b, ns, ms, rfl, rfl, ha, hb, q⟩
  cases rx; cases ry
  obtain ⟨us, r1, p1, _⟩ := I.tuple ha
  obtain ⟨ws, r2, p2, _⟩ := I.tuple hb
  have i1 : IntsAre us ns := Vals.ints r1
  have i2 : IntsAre ws ms := Vals.ints r2
  have n1 : us.toArray.size = ns.length := by rw [List.size_toArray, i1.length]
  have n2 : ws.toArray.size = ms.length := by rw [List.size_toArray, i2.length]
  have g1 : ∀ j (h : j < us.toArray.size), ∃ t, us.toArray[j] = .int (ns.getD j 0) t := fun j h => IntsAre.int_at i1 _ _ (by simp at h; simp [h])
  have g2 : ∀ j (h : j < ws.toArray.size), ∃ t, ws.toArray[j] = .int (ms.getD j 0) t := fun j h => IntsAre.int_at i2 _ _ (by simp at h; simp [h])
  have R := Ob.RcOp.tuples_gt (A := X.A) (s := s) (e := fun j => decide (ns.getD j 0 = ms.getD j 0)) (r := fun j => decide (ms.getD j 0 < ns.getD j 0)) p1 p2 hu
    (fun j h1 h2 => by
      obtain ⟨t, et⟩ := g1 j h1
      obtain ⟨t', et'⟩ := g2 j h2
      have z : decide (ns.getD j 0 = ms.getD j 0) = (ns.getD j 0 == ms.getD j 0) := by rw [Bool.beq_eq_decide_eq]
      rw [et, et']
      show SeqAt.EqAt _ _ _ _ (decide (ns.getD j 0 = ms.getD j 0))
      rw [z]
      exact SeqAt.EqAt.int_int _ _ _ _)
    (fun j h1 h2 _ => by
      obtain ⟨t, et⟩ := g1 j h1
      obtain ⟨t', et'⟩ := g2 j h2
      rw [et, et']
      exact Ob.RcOp.gt_int _ _ _ _)
  rw [n1, n2, lexAt_gt] at R
  exact R X.prog X.w X.xe (EP X pins σ Q) ⟨.bl _, H, I, rfl, q⟩
section
variable {K : PySem.W.Frag}
theorem sr_isB : SimR2 K (fun x y H Q => ∃ a b, x = .bl a ∧ y = .bl b ∧ Q (.bl (decide (a = b))) H) oIsB := fun {F κ G M H Q x y z M' u v} S rx ry h k => by
  unfold oIsB at h
  split at h
  · cases h
    exact ⟨_, _, rx_bl rx, rx_bl ry, k.here S (Rv.bl _)⟩
  · cases h
theorem sr_notB : SimR2 K (fun x y H Q => ∃ a b, x = .bl a ∧ y = .bl b ∧ Q (.bl (!decide (a = b))) H) oNotB := fun {F κ G M H Q x y z M' u v} S rx ry h k => by
  unfold oNotB at h
  split at h
  · cases h
    exact ⟨_, _, rx_bl rx, rx_bl ry, k.here S (Rv.bl _)⟩
  · cases h
theorem sr_ltT : SimR2 K (rLtT K) oLtT := fun {F κ G M H Q x y z M' u v} S rx ry h k => by
  unfold oLtT at h
  split at h
  · rename_i xs ys
    split at h
    · rename_i ns ms e1 e2
      cases h
      cases rx with
      | tup sx vx =>
        cases ry with
        | tup sy vy =>
          have q1 := Rvs.ints_of vx e1
          have q2 := Rvs.ints_of vy e2
          subst q1
          subst q2
          refine ⟨_, _, ns, ms, rfl, rfl, Evl.ex_t S.ex sx, Evl.ex_t S.ex sy, ?_⟩
          rw [lexZ_eq]
          exact k.here S (Rv.bl _)
    · cases h
  · cases h
theorem sr_gtT : SimR2 K (rGtT K) oGtT := fun {F κ G M H Q x y z M' u v} S rx ry h k => by
  unfold oGtT at h
  split at h
  · rename_i xs ys
    split at h
    · rename_i ns ms e1 e2
      cases h
      cases rx with
      | tup sx vx =>
        cases ry with
        | tup sy vy =>
          have q1 := Rvs.ints_of vx e1
          have q2 := Rvs.ints_of vy e2
          subst q1
          subst q2
          exact ⟨_, _, ns, ms, rfl, rfl, Evl.ex_t S.ex sx, Evl.ex_t S.ex sy, k.here S (Rv.bl _)⟩
    · cases h
  · cases h
end
section
variable {X : Cx}
theorem k_isB : CmpR X .Is oIsB := ⟨_, op_is_bl, sr_isB⟩
theorem k_notB : CmpR X .IsNot oNotB := ⟨_, op_isnot_bl, sr_notB⟩
theorem k_ltT {k : Nat} (hr : Room k X.A) : CmpR X .Lt oLtT := ⟨_, op_ltT (Nat.lt_of_le_of_lt (Nat.le_add_right _ 64) hr.units), sr_ltT⟩
theorem k_gtT {k : Nat} (hr : Room k X.A) : CmpR X .Gt oGtT := ⟨_, op_gtT (Nat.lt_of_le_of_lt (Nat.le_add_right _ 64) hr.units), sr_gtT⟩
end
theorem ss_frz {K : PySem.W.Frag} {t : TS} {s : DS} {i : Nat} (h : SimS K t s) : SimS K t (dSeq (gFrz i) s) := ⟨fun {F κ G σ ρ M H D o} S E e k => by
  unfold dSeq gFrz at e
  cases e1 : ρ[i]? with
  | none => simp only [e1] at e; cases e
  | some x =>
    cases x with
    | none => simp only [e1] at e; cases e
    | some v =>
      cases v with
      | d y => simp only [e1] at e; cases e
      | r y => simp only [e1] at e; cases e
      | o _ _ _ => simp only [e1] at e; cases e
      | c n =>
        simp only [e1] at e
        cases e2 : (M[n]?).join with
        | none => simp only [e2] at e; cases e
        | some xs =>
          simp only [e2] at e
          obtain ⟨v, hv, a, rfl, ha⟩ := E.at_ i _ e1
          obtain ⟨G', x1, S', r⟩ := S.freeze e2 ha
          have l : Le κ G κ G' := ⟨List.prefix_refl _, x1⟩
          have E2 : Se K κ G' σ (ρ.set i (some (.d (.lst xs)))) := by
            refine ⟨by simp [E.len], fun j y ey => ?_⟩
            by_cases hj : i = j
            · subst hj
              rw [List.getElem?_set_self (List.getElem?_eq_some_iff.mp e1).1] at ey
              cases ey
              exact ⟨_, hv, r⟩
            · rw [List.getElem?_set_ne hj] at ey
              exact (E.mono l).at_ j y ey
          exact h.run S' E2 e (k.weak l)⟩
theorem b_frz {X : Cx} {ss : List Stmt} {d : DS} (i : Nat) (h : PDB X ss d) : PDB X ss (dSeq (gFrz i) d) := by
  obtain ⟨t, h1, h2⟩ := h.ex
  exact ⟨t, h1, ss_frz h2⟩
end Rw
end PRwMisc
section PRwSemV
set_option autoImplicit false
set_option linter.all false
/-! RwSemV: calls by the parameters' names, list.remove, least and sorted of rows of whole numbers. -/
namespace Rw
open PySem (Str)
noncomputable section
/-- what stands at these places -/
def prm {α : Type} (is : List Nat) (xs : List α) : List α := is.filterMap fun i => xs[i]?
/-- a call by the parameters' names: what is written in which order -/
def eCallK (is : List Nat) (f : DF) (as : DA) : DE := eA (fun vs M => f (prm is vs) M) as
/-- xs.remove(y) -/
def mRemove : Dv → List Dv → DSt → Option (Dv × DSt) := fun v as M => match v, as with
  | .c n, [.d y] => match (M[n]?).join with
    | some xs => grd (y.shp 8 = true ∧ (D.lst xs).shp 9 = true) (match xs.findIdx? fun b => D.eqv b y with
      | some j => some (.d .non, setC M n (xs.eraseIdx j))
      | none => none)
    | none => none
  | _, _ => none
/-- a tuple (t), or a list, of whole numbers -/
def rowT (t : Bool) : D → Option (List Int)
  | .tup xs => if t then intsD xs else none
  | .lst xs => if t then none else intsD xs
  | _ => none
def rowsT (t : Bool) : List D → Option (List (List Int))
  | [] => some []
  | x :: r => match rowT t x, rowsT t r with
    | some a, some b => some (a :: b)
    | _, _ => none
def bkD (t : Bool) (ns : List Int) : D := if t then .tup (ns.map D.int) else .lst (ns.map D.int)
def minL : List Int → List (List Int) → List Int
  | x, [] => x
  | x, y :: r => minL (if lexZ y x then y else x) r
/-- min(xs), tuples of whole numbers -/
def oMinT : OA := fun vs M => match vs with
  | [v] => match lv M v with
    | some xs => match rowsT true xs with
      | some (x :: r) => some (.d (bkD true (minL x r)), M)
      | _ => none
    | none => none
  | _ => none
/-- sorted(xs), tuples (t) or lists of whole numbers -/
def oSortT (t c : Bool) : OA := fun vs M => match vs with
  | [v] => match lv M v with
    | some xs => match rowsT t xs with
      | some nss => grd (nss.length ≤ 4000 ∧ (t = true → ∀ ns ∈ nss, ns ≠ [])) (mkL c ((nss.mergeSort fun a b => !lexZ b a).map (bkD t)) M)
      | none => none
    | none => none
  | _ => none
end
end Rw
end PRwSemV
section PRwOkV
set_option linter.all false
set_option maxHeartbeats 1000000
namespace Rw
section
variable {ρ : DEnv} {M : DSt} {P : Dv × DSt → Prop}
@[simp ↓] theorem ok_callK {is : List Nat} {f : DF} {as : DA} : Ok (eCallK is f as ρ M) P ↔ Ok (as ρ M) fun p => Ok (f (prm is p.1) p.2) P := by
  unfold eCallK
  exact ok_eA
theorem rowsT_map (t : Bool) : ∀ nss : List (List Int), rowsT t (nss.map (bkD t)) = some nss := by
  have hi : ∀ ns : List Int, intsD (ns.map D.int) = some ns := fun ns => by
    induction ns with
    | nil => rfl
    | cons x r ih => simp [intsD, ih]
  intro nss
  induction nss with
  | nil => rfl
  | cons n r ih =>
    have : rowT t (bkD t n) = some n := by cases t <;> simp [bkD, rowT, hi]
    simp [rowsT, this, ih]
end
end Rw
end PRwOkV
section PRwVar
set_option Elab.async false
set_option linter.all false
set_option maxRecDepth 100000
set_option maxHeartbeats 2000000
/-! RwVar: the layer keeps the constructs of RwSemV. -/
namespace Rw
open PySem L2 PySem.Spec PyProof.Rows
open Evl (Ex)
/-! ### calls by the parameters' names -/
section
variable {K : PySem.W.Frag} {κ : List Addr} {G : Hp}
theorem Rxs.at_ : ∀ {us : List V} {xs : List Dv} (i : Nat), Rxs K κ G us xs → (us[i]? = none ∧ xs[i]? = none) ∨ ∃ u x, us[i]? = some u ∧ xs[i]? = some x ∧ Rx K κ G u x
  | _, _, _, .nil => .inl (by simp)
  | _, _, 0, .cons h _ => .inr ⟨_, _, rfl, rfl, h⟩
  | _, _, i + 1, .cons _ r => by simpa using Rxs.at_ i r
theorem Rxs.prm {us : List V} {xs : List Dv} (r : Rxs K κ G us xs) : ∀ is : List Nat, Rxs K κ G (prm is us) (prm is xs)
  | [] => .nil
  | i :: is => by
    unfold Rw.prm
    rcases r.at_ i with ⟨a, b⟩ | ⟨u, x, a, b, h⟩
    · rw [List.filterMap_cons_none a, List.filterMap_cons_none b]
      exact Rxs.prm r is
    · rw [List.filterMap_cons_some a, List.filterMap_cons_some b]
      exact .cons h (Rxs.prm r is)
theorem vals_at : ∀ {us : List V} {xs : List Value} (i : Nat), Vals us xs → (us[i]? = none ∧ xs[i]? = none) ∨ ∃ u x, us[i]? = some u ∧ xs[i]? = some x ∧ RelV u x
  | _, _, _, .nil => .inl (by simp)
  | _, _, 0, .cons h _ => .inr ⟨_, _, rfl, rfl, h⟩
  | _, _, i + 1, .cons _ r => by simpa using vals_at i r
theorem vals_prm {us : List V} {xs : List Value} (r : Vals us xs) : ∀ is : List Nat, Vals (prm is us) (prm is xs)
  | [] => .nil
  | i :: is => by
    unfold Rw.prm
    rcases vals_at i r with ⟨a, b⟩ | ⟨u, x, a, b, h⟩
    · rw [List.filterMap_cons_none a, List.filterMap_cons_none b]
      exact vals_prm r is
    · rw [List.filterMap_cons_some a, List.filterMap_cons_some b]
      exact .cons h (vals_prm r is)
end
structure HasK (P : Program) (w : World) (K : PySem.W.Frag) (mg : Str → Option Value) (base : Heap) (x : Str) (k n : Nat) (ks : List Str) (is : List Nat) (df : DF) : Prop where
  ex : ∃ (f : Addr) (fd : FuncData) (ps : List Str), FnOk P w K mg base CX0 k f fd ps (spD K df n) ∧ mg x = some (.ref f) ∧ PySem.W.keepIn K (.ref f) = true ∧ KBn K fd ps 0 ks (fun _ ws => prm is ws) (fun _ zs => prm is zs)
  len : ∀ xs : List Dv, xs.length = ks.length → (prm is xs).length = n
theorem fun_kb {K : PySem.W.Frag} {x qual : Str} {st : Stmt} {f : Addr} {fd : FuncData} {ps : List Str} (ks : List Str) (is : List Nat) (F : Fun K x qual st f fd)
    (h : ∀ (kV doc pm : Value) (an : Option Addr) (cdv ct : Value) (ws : List Value), ws.length = ks.length → bindArgs (PySem.W.fnOf x qual (defArgs st) (defBody st) (defScope st) .none kV doc pm an cdv ct) ⟨[], ks.zip ws⟩ = pure (ps.zip (prm is ws))) : KBn K fd ps 0 ks (fun _ ws => prm is ws) (fun _ zs => prm is zs) := by
  obtain ⟨oc, od, kV, doc, pm, an, cdv, ct, osl, rfl, lk, hcd⟩ := F.ex
  refine ⟨fun s us ws X l1 l2 => ?_, fun _ r => vals_prm r is⟩
  cases us with
  | nil => exact .of_eq (h kV doc pm an cdv ct ws l2)
  | cons _ _ => cases l1
structure PDK (X : Cx) (kws : List Keyword) (das : DA) (n : Nat) : Prop where
  ex : ∃ t, PK X kws t ∧ SimA X.K t das
  len : ∀ ρ M vs M', das ρ M = some (vs, M') → vs.length = n
section
variable {X : Cx} {kws : List Keyword} {das : DA} {n m k : Nat} {e : Expr} {de : DE} {nm : Option Str} {kpos p pos : Pos} {x : Str} {ks : List Str} {is : List Nat} {df : DF}
theorem kw_nil : PDK X [] aNil 0 := ⟨⟨_, pk_nil, sim_nil⟩, al_nil⟩
theorem kw_cons (ha : PD X e de) (hr : PDK X kws das n) : PDK X (⟨nm, e, kpos⟩ :: kws) (aCons de das) (n + 1) := by
  obtain ⟨t, h1, h2⟩ := ha.ex
  obtain ⟨u, h3, h4⟩ := hr.ex
  exact ⟨⟨_, pk_cons h1 h3, sim_cons h2 h4⟩, al_cons hr.len⟩
theorem pe_callN0 {CX : CXT} {f : Addr} {fd : FuncData} {ps : List Str} {sp : Sp} {E : XK} {tk : TA} {g : List Value → List Value → List Value} {gV : List V → List V → List V} (F : FnOk X.prog X.w X.K X.mg X.base CX k f fd ps sp) (hr : Room k X.A) (hg : Gl X x) (hm : X.mg x = some (.ref f)) (hk : PySem.W.keepIn X.K (.ref f) = true) (hb : KBn X.K fd ps 0 ks g gV) (hx : Passes CX X E)
    (hkw : PK X kws tk) (hall : (backToKw pos (keywordEach kws X.env)).all (·.1.isSome) = true := by rfl) (hks : (backToKw pos (keywordEach kws X.env)).filterMap (·.1) = ks := by rfl)
    (hdb : (x == ("__debug__" : Str)) = false := by decide)
    (hpl : ((backTo pos (starEach [] X.env)).any (·.1) || (backToKw pos (keywordEach kws X.env)).any (·.1.isNone)) = false := by rfl) :
    PE X (.Call (.Name x p) [] kws pos) (fun σ H Q => tk σ H fun zs H2 => zs.length = ks.length ∧ sp (gV [] zs) H2 Q E) := by
  refine ⟨fun pins s σ H Q I h => ?_⟩
  refine wpAny_Call_Name_kw (ld_glob I hg hm ?_ hdb)
  refine PySem.W.callWith_KW0 (h₀ := X.base) I.ok.mod.kin hk hall ?_ hpl
  refine thn (hkw.run pos pins s σ H _ I h) fun ws s2 ⟨zs, H2, I2, rz, l2, q2⟩ => ⟨I2.kIn, ?_⟩
  rw [hks]
  exact run_fnN (us := []) (vs := []) F hr hb hx I2 .nil rz rfl l2 q2
theorem d_defK (Hs : HasK X.prog X.w X.K X.mg X.base x k n ks is df) (hr : Room k X.A) (ha : PDK X kws das m) (hn : m = ks.length := by rfl) (hg : Gl X x := by rfl) (hdb : (x == ("__debug__" : Str)) = false := by decide)
    (hall : (backToKw pos (keywordEach kws X.env)).all (·.1.isSome) = true := by rfl) (hks : (backToKw pos (keywordEach kws X.env)).filterMap (·.1) = ks := by rfl)
    (hpl : ((backTo pos (starEach [] X.env)).any (·.1) || (backToKw pos (keywordEach kws X.env)).any (·.1.isNone)) = false := by rfl) :
    PD X (.Call (.Name x p) [] kws pos) (eCallK is df das) := by
  obtain ⟨f, fd, ps, F, hm, hk, hb⟩ := Hs.ex
  obtain ⟨t, h1, h2⟩ := ha.ex
  refine ⟨_, pe_callN0 F hr hg hm hk hb pass0 h1 hall hks hdb hpl, ⟨fun {F κ G σ ρ M H Q z M'} S E h k => ?_⟩⟩
  unfold eCallK eA at h
  split at h
  · rename_i xs M1 e
    refine h2.run S E e fun κ1 G1 us H1 l1 S1 r1 => ?_
    have hl := ha.len _ _ _ _ e
    refine ⟨by rw [r1.length, hl, hn], F, κ1, G1, M1, _, z, M', S1, r1.prm is, Hs.len _ (by rw [hl, hn]), h, k.weak l1⟩
  · cases h
end
/-! ### xs.remove(y) -/
theorem findIdx_toPys {a : D} (ha : a.shp 8 = true) : ∀ {ys : List D}, ys.all (D.shp 8) = true → ((D.toPys ys).findIdx? fun z => PyData.eqv z a.toPy) = ys.findIdx? fun b => D.eqv b a
  | [], _ => rfl
  | y :: ys, h => by
    rw [List.all_cons, Bool.and_eq_true] at h
    show ((y.toPy :: D.toPys ys).findIdx? _) = _
    rw [List.findIdx?_cons, List.findIdx?_cons, eqv_of 8 y a h.1 ha, findIdx_toPys ha h.2]
def rRemD (K : PySem.W.Frag) : V → List V → Hp → VK → Prop := fun x xs H Q => ∃ (l : Addr) (vs : List V) (y : V) (ds : List PyData) (d : PyData) (j : Nat), x = .ref l ∧ xs = [y] ∧ H l = some (.lst vs) ∧ DpAll K H vs ds ∧ Dp K H y d ∧ PyData.canLayAll0 ds = true ∧ SeqAt.shaped d = true ∧ SeqAt.dataPlace ds d = some j ∧ Q .non (upd H l (.lst (vs.eraseIdx j)))
theorem mt_remD {X : Cx} (hu : X.A.units + 65 < cLine) : MtR X "list.remove" (rRemD X.K) := by
  intro pins s σ H x xs v us Q I rx rxs h
  obtain ⟨l, vs, y, ds, d, j, rfl, rfl, hH, hds, hd, s1, s2, hj, q⟩ := h
  cases rx
  obtain ⟨u, rfl, ru⟩ := rxs.one
  obtain ⟨z, its, n, r, hl, e⟩ := I.lstM hH
  obtain ⟨as, ra⟩ := Dp.readsAll I ds vs its hds r
  obtain ⟨bs, rb⟩ := Dp.reads I d y u hd ru
  have hdp := SeqAt.depth_of_shaped s2
  refine SeqAt.remove_list_data (vs := its.toArray) ⟨_, e, rfl, n, rfl⟩ (by simpa using ra) rb (PyData.plainAll_of_canLay0 _ s1) (PyData.plain_of_canLay0 _ (SeqAt.canLay_of_shaped s2)) (by omega) hj (by rw [List.size_toArray]; omega) ?_
  refine ⟨.non, _, I.lset (its' := its.eraseIdx j) hH e (by simp) (r.eraseIdx j) ?_, rfl, q⟩
  have := List.length_eraseIdx_le (l := vs) (i := j)
  omega
theorem sm_remD {K : PySem.W.Frag} : SimRM K "list" (rRemD K) mRemove := fun {F κ G M H Q x xs z M' u us} S r rs h k => by
  unfold mRemove at h
  split at h
  · rename_i n y
    split at h
    · rename_i ys e
      obtain ⟨⟨h1, h2⟩, h⟩ := grd_some h
      split at h
      · rename_i j ej
        cases h
        obtain ⟨a, rfl, ha⟩ := r
        obtain ⟨v, rfl, rv⟩ := rxs1 rs
        obtain ⟨vs, _, _, e3, e4⟩ := cell_at S e ha
        have h2' : ys.all (D.shp 8) = true := h2
        refine ⟨a, vs, v, D.toPys ys, y.toPy, j, rfl, rfl, e3, dp_all (n := 8) (fun d v rv hd => dp_of S.ex 8 d v rv hd) e4 h2', dp_of S.ex 8 y v rv h1, (shp_lay_all (n := 8) (shp_lay 8) ys h2').1, shaped_of h1 (by decide), ?_, ?_⟩
        · unfold SeqAt.dataPlace
          rw [findIdx_toPys h1 h2']
          exact ej
        · exact k κ G _ _ (Le.refl _ _) (S.put e ha (e4.eraseIdx j)) Rv.non
      · cases h
    · cases h
  · cases h
theorem lm_remD : ∀ v as M z, mRemove v as M = some z → ∃ n, v = .c n := fun v as M z h => by
  unfold mRemove at h
  split at h
  · exact ⟨_, rfl⟩
  · cases h
theorem d_remove {X : Cx} {k n : Nat} {a e : Expr} {es : List Expr} {da : DE} {das : DA} {apos pos : Pos} (hr : Room k X.A) (ho : PD X a da) (hb : PDA X (e :: es) das n) (hbase : attributeBase a "remove" X.env (eval a X.env) = eval a X.env := by rfl)
    (hfew : ((backTo pos (starEach (e :: es) X.env)).all (fun x => !x.1) && (backToKw pos (keywordEach [] X.env)).all (fun x => x.1.isSome) && decide ((e :: es).length + ([] : List Keyword).length + (if ([] : List Keyword).isEmpty then 0 else 1) < 30)) = true := by rfl)
    (hline : (apos.endLine == pos.line) = true := by rfl) (hs : starEach (e :: es) X.env = (false, eval e X.env) :: starEach es X.env := by rfl) (hplain : (backTo pos (starEach es X.env)).any (·.1) = false := by rfl) : PD X (.Call (.Attribute a "remove" apos) (e :: es) [] pos) (eM mRemove da das) := by
  obtain ⟨t, h1, h2⟩ := ho.ex
  obtain ⟨u, h3, h4⟩ := hb.ex
  exact ⟨_, pe_bm PySem.F.plainAttrs_list PySem.F.slot_list_remove PySem.F.type_list_remove (mt_remD (by have := hr.un; omega)) h1 h3 hbase hfew hline hs hplain, sim_bm sm_remD lm_remD h2 h4⟩
/-! ### min(xs), sorted(xs): rows of whole numbers -/
theorem minD_mem : ∀ (xs : List PyData) (x : PyData), PySem.W.minD x xs ∈ x :: xs
  | [], x => by simp [PySem.W.minD]
  | y :: r, x => by
    have ih := minD_mem r (if PySem.W.dataLt y x then y else x)
    have e : PySem.W.minD x (y :: r) = PySem.W.minD (if PySem.W.dataLt y x then y else x) r := rfl
    rw [e]
    rcases List.mem_cons.mp ih with h | h
    · rw [h]
      split
      · simp
      · simp
    · simp [h]
theorem vals_back : ∀ {us : List V} {xs : List Value} {i : Nat} {x : Value}, Vals us xs → xs[i]? = some x → ∃ u, us[i]? = some u ∧ RelV u x
  | _, _, i, x, r, h => by
    rcases vals_at i r with ⟨a, b⟩ | ⟨u, y, a, b, c⟩
    · rw [b] at h; cases h
    · rw [b] at h
      cases h
      exact ⟨u, a, c⟩
def rMinD (K : PySem.W.Frag) : List V → Hp → VK → Prop := fun vs H Q => ∃ (a : Addr) (xs : List V) (d : PyData) (ds : List PyData), vs = [V.ref a] ∧ SqL K H a xs ∧ DpAll K H xs (d :: ds) ∧ PySem.W.AlikeAll (d :: ds) ∧ PyData.depthAll (d :: ds) ≤ 60 ∧ ∀ (i : Nat) (x : V), xs[i]? = some x → (d :: ds)[i]? = some (PySem.W.minD d ds) → Q x H
theorem cr_minD {X : Cx} (hc : X.calm = true) (hu : X.A.units + 64 < cLine) : CallR X (.builtin "min") (rMinD X.K) := by
  intro pins s σ H vs us Q I r h
  obtain ⟨a, xs, d, ds, rfl, hs, hd, hal, hdp, q⟩ := h
  obtain ⟨its, rv, hl, _⟩ := I.list hs
  rw [Vals.ref1 r]
  obtain ⟨as, ra⟩ := Dp.readsAll I _ _ _ hd rv
  refine PySem.W.min_list_data (I.ok.hd hc) hl.isList (by simpa using ra) hal (by omega) fun i v h' tk bs hi hrd hk => ?_
  have hi2 : its[i]? = some v := by simpa using hi
  obtain ⟨x, hx, rx⟩ := vals_back rv hi2
  obtain ⟨cs, r3, h4, h5, h6⟩ := PySem.W.readsAll_at ra i v hi2
  have hm := minD_mem ds d
  have eu := PySem.W.alike_unique _ _ _ _ _ (hal.1 _ h5 _ hm) (PySem.W.reads_keeps hk r3) hrd
  refine ⟨x, H, I.kept hk, rx, q i x hx ?_⟩
  rw [← eu, List.getD_eq_getElem?_getD]
  cases e9 : (d :: ds)[i]? with
  | none => rw [List.getElem?_eq_getElem h4] at e9; cases e9
  | some y => rfl
def encT (t : Bool) (ns : List Int) : PyData := if t then .tuple (ns.map .int) else .list (ns.map .int)
theorem lexZ_lt : ∀ xs ys : List Int, lexZ xs ys = decide (xs < ys)
  | [], [] => by simp [lexZ]
  | [], y :: ys => by simp [lexZ]
  | x :: xs, [] => by simp [lexZ]
  | x :: xs, y :: ys => by
    rw [lexZ]
    by_cases h : x = y
    · subst h
      simp [lexZ_lt xs ys, List.cons_lt_cons_iff]
    · simp [h, List.cons_lt_cons_iff]
theorem dataLt_enc (t : Bool) (xs ys : List Int) : PySem.W.dataLt (encT t xs) (encT t ys) = lexZ xs ys := by
  rw [lexZ_lt, ← PySem.W.dataLt_ints]
  cases t
  · exact PySem.W.dataLt_list _ _
  · exact PySem.W.dataLt_tuple _ _
theorem alike_enc (t : Bool) (xs ys : List Int) : PySem.W.alike (encT t xs) (encT t ys) = true := by
  cases t
  · exact PySem.W.alike_ints xs ys
  · exact PySem.W.alike_ints xs ys
theorem depth_enc (t : Bool) (xs : List Int) : (encT t xs).depth ≤ 1 := by
  cases t <;> simp [encT, PyData.depth, PySem.W.depth_ints]
theorem minD_enc : ∀ (nss : List (List Int)) (ns : List Int), PySem.W.minD (encT true ns) (nss.map (encT true)) = encT true (minL ns nss)
  | [], _ => rfl
  | m :: r, ns => by
    have e : PySem.W.minD (encT true ns) ((m :: r).map (encT true)) = PySem.W.minD (if PySem.W.dataLt (encT true m) (encT true ns) then encT true m else encT true ns) (r.map (encT true)) := rfl
    rw [e, dataLt_enc, minL]
    by_cases h : lexZ m ns = true
    · rw [if_pos h, if_pos h, minD_enc r m]
    · rw [if_neg h, if_neg h, minD_enc r ns]
theorem encT_inj {t : Bool} {a b : List Int} (h : encT t a = encT t b) : a = b := by
  have inj : ∀ (a b : List Int), a.map PyData.int = b.map PyData.int → a = b := fun a => by
    induction a with
    | nil => intro b h; cases b with
      | nil => rfl
      | cons => cases h
    | cons x r ih => intro b h; cases b with
      | nil => cases h
      | cons y s =>
        simp only [List.map_cons, List.cons.injEq, PyData.int.injEq] at h
        rw [h.1, ih _ h.2]
  cases t <;> simp only [encT, Bool.false_eq_true, if_false, if_true] at h
  · injection h with h; exact inj _ _ h
  · injection h with h; exact inj _ _ h
section
variable {K : PySem.W.Frag}
theorem rowT_bk {t : Bool} {x : D} {ns : List Int} (h : rowT t x = some ns) : x = bkD t ns := by
  have back : ∀ (xs : List D) (ns : List Int), intsD xs = some ns → xs = ns.map D.int := fun xs => by
    induction xs with
    | nil => intro ns h; cases h; rfl
    | cons y r ih =>
      intro ns h
      cases y with
      | int i =>
        simp only [intsD] at h
        cases e : intsD r with
        | none => rw [e] at h; cases h
        | some ms =>
          rw [e] at h
          cases h
          rw [ih ms e]
          rfl
      | _ => cases h
  cases x with
  | tup xs =>
    cases t with
    | false => cases h
    | true => simp only [rowT, if_true] at h; simp only [bkD, if_true]; rw [back _ _ h]
  | lst xs =>
    cases t with
    | true => cases h
    | false => simp only [rowT, Bool.false_eq_true, if_false] at h; simp only [bkD, Bool.false_eq_true, if_false]; rw [back _ _ h]
  | _ => cases h
theorem rowsT_bk {t : Bool} : ∀ {xs : List D} {nss : List (List Int)}, rowsT t xs = some nss → xs = nss.map (bkD t)
  | [], _, h => by cases h; rfl
  | x :: r, nss, h => by
    unfold rowsT at h
    split at h
    · rename_i a b e1 e2
      cases h
      rw [rowT_bk e1, rowsT_bk e2]
      rfl
    · cases h
theorem dp_bk {G H : Hp} (e : Ex G H) {t : Bool} {v : V} {ns : List Int} (r : Rv K G v (bkD t ns)) : Dp K H v (encT t ns) := by
  have sh : ∀ l : List Int, (l.map D.int).all (D.shp 1) = true := fun l => by simp [D.shp]
  have tp : ∀ l : List Int, D.toPys (l.map D.int) = l.map PyData.int := fun l => by
    induction l with
    | nil => rfl
    | cons x r ih => show PyData.int x :: D.toPys (r.map D.int) = _; rw [ih]; rfl
  have h2 : (bkD t ns).shp 2 = true := by cases t <;> simp [bkD, D.shp]
  have h3 := dp_of e 2 _ v r h2
  have h4 : (bkD t ns).toPy = encT t ns := by cases t <;> simp only [bkD, encT, Bool.false_eq_true, if_false, if_true, D.toPy, tp]
  rw [h4] at h3
  exact h3
theorem rvs_dpall {G H : Hp} (e : Ex G H) {t : Bool} : ∀ {vs : List V} {nss : List (List Int)}, Rvs K G vs (nss.map (bkD t)) → DpAll K H vs (nss.map (encT t))
  | _, [], .nil => .nil
  | _, _ :: _, .cons h r => .cons (dp_bk e h) (rvs_dpall e r)
theorem depthAll_enc (t : Bool) : ∀ nss : List (List Int), PyData.depthAll (nss.map (encT t)) ≤ 1
  | [] => by simp [PyData.depthAll]
  | n :: r => by
    have h1 := depth_enc t n
    have h2 := depthAll_enc t r
    simp only [List.map_cons, PyData.depthAll]
    omega
theorem sa_minT : SimRA K (rMinD K) oMinT := fun {F κ G M H Q xs z M' us} S r h k => by
  unfold oMinT at h
  split at h
  · split at h
    · rename_i ys e
      split at h
      · rename_i n ns en
        cases h
        obtain ⟨u, rfl, a⟩ := rxs1 r
        obtain ⟨p, vs, rfl, hs, rr⟩ := lv_at S a e
        rw [rowsT_bk en] at rr
        refine ⟨p, vs, encT true n, ns.map (encT true), rfl, hs, rvs_dpall (nss := n :: ns) S.ex rr, ⟨fun x hx y hy => ?_, fun x hx => ?_⟩, ?_, fun i x hx hi => ?_⟩
        · obtain ⟨a, _, rfl⟩ := List.mem_map.mp (show x ∈ (n :: ns).map (encT true) from hx)
          obtain ⟨b, _, rfl⟩ := List.mem_map.mp (show y ∈ (n :: ns).map (encT true) from hy)
          exact alike_enc _ _ _
        · obtain ⟨a, _, rfl⟩ := List.mem_map.mp (show x ∈ (n :: ns).map (encT true) from hx)
          simp [encT]
        · have := depthAll_enc true (n :: ns)
          simp only [List.map_cons] at this
          omega
        · obtain ⟨d, hd, rd⟩ := rr.get' hx
          rw [List.getElem?_map] at hd
          have hi2 : ((n :: ns).map (encT true))[i]? = some (PySem.W.minD (encT true n) (ns.map (encT true))) := hi
          rw [List.getElem?_map, minD_enc] at hi2
          cases e9 : (n :: ns)[i]? with
          | none => rw [e9] at hd; cases hd
          | some m =>
            rw [e9] at hd hi2
            cases hd
            have : m = minL n ns := encT_inj (Option.some.inj hi2)
            subst this
            exact k.here S rd
      · cases h
    · cases h
  · cases h
theorem each_vals {α : Type} {f : α → V} : ∀ {ps : List α} {us : List Value}, Vals (ps.map f) us → PySem.W.EachIs (fun v p => RelV (f p) v) us ps
  | [], _, .nil => .nil
  | _ :: _, _, .cons h r => .cons h (each_vals r)
theorem vals_each {α : Type} {f : α → V} : ∀ {ps : List α} {us : List Value}, PySem.W.EachIs (fun v p => RelV (f p) v) us ps → Vals (ps.map f) us
  | _, _, .nil => .nil
  | _, _, .cons h r => .cons h (vals_each r)
theorem each_reads {X : Cx} {pins : List (Addr × Obj)} {σ : L2.St} {H : Hp} {s : Shared} (I : Inv X pins σ H s) : ∀ {ps : List (V × PyData)} {us : List Value}, (∀ p ∈ ps, Dp X.K H p.1 p.2) → Vals (ps.map (·.1)) us → PySem.W.EachIs (fun v p => ∃ as, Reads s.heap v p.2 as) us ps
  | [], _, _, .nil => .nil
  | p :: ps, _, h, .cons r rs => .cons (Dp.reads I p.2 p.1 _ (h p (List.mem_cons_self ..)) r) (each_reads I (fun q hq => h q (List.mem_cons_of_mem _ hq)) rs)
def rSortD (K : PySem.W.Frag) : List V → Hp → VK → Prop := fun vs H Q => ∃ (a : Addr) (ps : List (V × PyData)), vs = [V.ref a] ∧ SqL K H a (ps.map (·.1)) ∧ (∀ p ∈ ps, Dp K H p.1 p.2) ∧ PySem.W.AllAlike (ps.map (·.2)) ∧ PySem.W.Sortable (ps.map (·.2)) ∧ ps.length ≤ 4000 ∧ (∀ p ∈ ps, p.2.depth ≤ 60) ∧
  ∀ q, H q = none → Q (.ref q) (upd H q (.lst ((ps.mergeSort (PySem.W.dataLe false (·.2))).map (·.1))))
theorem cr_sortD {X : Cx} (hu : X.A.units + 64 < cLine) : CallR X (.builtin "sorted") (rSortD X.K) := by
  intro pins s σ H vs us Q I r h
  obtain ⟨a, ps, rfl, hs, hd, hal, hso, h4, hdp, q⟩ := h
  obtain ⟨its, rv, hl, _⟩ := I.list hs
  rw [Vals.ref1 r]
  have h40 : (4000 : Nat) ≤ sizeLine := by rw [sizeLine_eq]; omega
  refine PySem.W.sorted_data (enc := fun p : V × PyData => p.2) hl.isList (each_vals (f := fun p : V × PyData => p.1) rv) (each_reads I hd rv) hal hso (Nat.le_trans h4 h40) (fun b hb => by have := hdp b hb; omega) fun out ho he => ?_
  obtain ⟨ep, he'⟩ := PyProof.Rows.sortedAll_at s.heap its out.toArray
  have hv := vals_each he
  have hlen : ((ps.mergeSort (PySem.W.dataLe false (·.2))).map (·.1)).length ≤ sizeLine := by rw [List.length_map, List.length_mergeSort]; omega
  exact ⟨.ref _, upd H (s.heap.objs.size + 1) (.lst _), I.laid (t' := s.toks) (fun _ _ => PyProof.Rows.sortedAll_old) (Nat.le_succ _) ⟨hlen, out, ep, hv, he'⟩, rfl, q _ (I.hok.fresh (Nat.le_succ _))⟩
theorem rvs_zip {G : Hp} {t : Bool} : ∀ {vs : List V} {nss : List (List Int)}, Rvs K G vs (nss.map (bkD t)) → ∃ qs : List (V × List Int), qs.map (·.1) = vs ∧ qs.map (·.2) = nss ∧ ∀ q ∈ qs, Rv K G q.1 (bkD t q.2)
  | _, [], .nil => ⟨[], rfl, rfl, fun q h => nomatch h⟩
  | v :: vs, n :: r, .cons h rr => by
    obtain ⟨qs, e1, e2, e3⟩ := rvs_zip rr
    exact ⟨(v, n) :: qs, by simp [e1], by simp [e2], fun q hq => by
      rcases List.mem_cons.mp hq with rfl | hq
      · exact h
      · exact e3 q hq⟩
theorem zip_rvs {G : Hp} {t : Bool} : ∀ (qs : List (V × List Int)), (∀ q ∈ qs, Rv K G q.1 (bkD t q.2)) → Rvs K G (qs.map (·.1)) ((qs.map (·.2)).map (bkD t))
  | [], _ => .nil
  | q :: qs, h => .cons (h q (List.mem_cons_self ..)) (zip_rvs qs fun p hp => h p (List.mem_cons_of_mem _ hp))
theorem sa_sortT (t c : Bool) : SimRA K (rSortD K) (oSortT t c) := fun {F κ G M H Q xs z M' us} S r h k => by
  unfold oSortT at h
  split at h
  · split at h
    · rename_i ys e
      split at h
      · rename_i nss en
        obtain ⟨⟨h1, h2⟩, h⟩ := grd_some h
        obtain ⟨u, rfl, a⟩ := rxs1 r
        obtain ⟨p, vs, rfl, hs, rr⟩ := lv_at S a e
        rw [rowsT_bk en] at rr
        obtain ⟨qs, e1, e2, e3⟩ := rvs_zip rr
        have ef : (qs.map fun q => (q.1, encT t q.2)).map (·.1) = vs := by rw [List.map_map, ← e1]; rfl
        have eg : (qs.map fun q => (q.1, encT t q.2)).map (·.2) = nss.map (encT t) := by rw [List.map_map, ← e2, List.map_map]; rfl
        refine ⟨p, qs.map fun q => (q.1, encT t q.2), rfl, by rw [ef]; exact hs, fun x hx => ?_, ?_, ?_, ?_, fun x hx => ?_, fun q hq => ?_⟩
        · obtain ⟨q, hq, rfl⟩ := List.mem_map.mp hx
          exact dp_bk S.ex (e3 q hq)
        · rw [eg]
          exact PySem.W.AllAlike.of fun a b => alike_enc t a b
        · rw [eg]
          cases t with
          | true =>
            refine .inl fun d hd => ?_
            obtain ⟨ns, hn, rfl⟩ := List.mem_map.mp hd
            cases ns with
            | nil => exact absurd rfl (h2 rfl _ hn)
            | cons x r => exact ⟨_, _, rfl⟩
          | false =>
            refine .inr fun d hd => ?_
            obtain ⟨ns, hn, rfl⟩ := List.mem_map.mp hd
            exact ⟨by simp [encT], fun xs => by simp [encT]⟩
        · have : qs.length = nss.length := by rw [← e2, List.length_map]
          rw [List.length_map]
          omega
        · obtain ⟨q, hq, rfl⟩ := List.mem_map.mp hx
          have := depth_enc t q.2
          show (encT t q.2).depth ≤ 60
          omega
        · have le1 : ∀ a ∈ qs, ∀ b ∈ qs, (fun a b : V × List Int => !lexZ b.2 a.2) a b = PySem.W.dataLe false (fun p : V × PyData => p.2) (a.1, encT t a.2) (b.1, encT t b.2) := fun a _ b _ => by
            rw [PySem.W.dataLe_eq]
            show _ = !PySem.W.dataLt (encT t b.2) (encT t a.2)
            rw [dataLt_enc]
          have m1 := List.map_mergeSort (f := fun q : V × List Int => (q.1, encT t q.2)) le1
          have m2 : (qs.mergeSort fun a b => !lexZ b.2 a.2).map (·.2) = nss.mergeSort fun a b => !lexZ b a := by
            rw [← e2]
            exact List.map_mergeSort (f := fun q : V × List Int => q.2) fun _ _ _ _ => rfl
          rw [← m1, List.map_map]
          have r3 := zip_rvs (K := K) (G := G) (t := t) (qs.mergeSort fun a b => !lexZ b.2 a.2) fun q hq => e3 q (List.mem_mergeSort.mp hq)
          rw [m2] at r3
          obtain ⟨κ', G', l', S', r'⟩ := S.new hq r3 h
          exact k κ' G' _ _ l' S' r'
      · cases h
    · cases h
  · cases h
end
section
variable {X : Cx} {e : Expr} {es : List Expr} {das : DA} {n k : Nat} {p pos : Pos}
theorem d_minT (hr : Room k X.A) (hm : X.mg "min" = none) (ha : PDA X (e :: es) das n) (hc : X.calm = true := by rfl) (hg : Gl X "min" := by rfl) (he : starEach (e :: es) X.env = (false, eval e X.env) :: starEach es X.env := by rfl) (hpl : (backTo pos (starEach es X.env)).any (·.1) = false := by rfl) : PD X (.Call (.Name "min" p) (e :: es) [] pos) (eA oMinT das) := d_bi (x := "min") (cr_minD hc (by have := hr.units; omega)) sa_minT hg hm (by decide +kernel) ha (he := he) (hpl := hpl)
theorem d_sortT (t c : Bool) (hr : Room k X.A) (hm : X.mg "sorted" = none) (ha : PDA X (e :: es) das n) (hg : Gl X "sorted" := by rfl) (he : starEach (e :: es) X.env = (false, eval e X.env) :: starEach es X.env := by rfl) (hpl : (backTo pos (starEach es X.env)).any (·.1) = false := by rfl) : PD X (.Call (.Name "sorted" p) (e :: es) [] pos) (eA (oSortT t c) das) := d_bi (x := "sorted") (cr_sortD (by have := hr.units; omega)) (sa_sortT t c) hg hm (by decide +kernel) ha (he := he) (hpl := hpl)
end
/-- len of what raises -/
theorem x_len {X : Cx} {W : WX} {e : Expr} {p pos : Pos} {dx : DX} (hm : X.mg "len" = none) (ha : PEX X W e dx) (hg : Gl X "len" := by rfl) (he : starEach [e] X.env = (false, eval e X.env) :: starEach [] X.env := by rfl) (hpl : (backTo pos (starEach [] X.env)).any (·.1) = false := by rfl) :
    PEX X W (.Call (.Name "len" p) [e] [] pos) dx := by
  obtain ⟨t, h1, h2⟩ := ha.ex
  refine ⟨_, pe_callB (x := "len") call_len hg hm (by decide +kernel) (pa_cons h1 pa_nil he) (by decide) (by decide) he hpl, ?_⟩
  intro F' κ G σ ρ M H c ρ' M' Q S E h kk
  exact h2 _ S E h kk
end Rw
end PRwVar
section PRwSemI
set_option autoImplicit false
set_option linter.all false
/-! RwSemI: the place of a text in a text; zip of a list and two texts. -/
namespace Rw
noncomputable section
/-- s.index(t) where t is in s -/
def mIndexS : Dv → List Dv → DSt → Option (Dv × DSt) := fun v as M => match v, as with
  | .d (.str s), [.d (.str t)] => match PySem.Txt.index0 s t with
    | some k => some (.d (.int (k : Nat)), M)
    | none => none
  | _, _ => none
def zipD3 : List D → List Nat → List Nat → List D
  | x :: xs, c :: cs, d :: ds => .tup [x, .str ⟨#[c]⟩, .str ⟨#[d]⟩] :: zipD3 xs cs ds
  | _, _, _ => []
/-- the list and the two texts of a zip of three -/
def asZ3 : List Dv → Option (Dv × PySem.Str × PySem.Str)
  | [x, .d (.str s), .d (.str t)] => some (x, s, t)
  | _ => none
/-- zip(xs, s, t), s and t texts -/
def iZ3 (a : DA) : DI := fun ρ M => match a ρ M with
  | some (vs, M1) => match asZ3 vs with
    | some (x, s, t) => match lv M1 x with
      | some xs => some (zipD3 xs s.cps.toList t.cps.toList, cellsOf x, M1)
      | none => none
    | none => none
  | none => none
end
end Rw
end PRwSemI
section PRwOkI
set_option linter.all false
/-! RwOkI: rules for zip of three and the place of a text. -/
namespace Rw
section
variable {ρ : DEnv} {M : DSt}
@[simp] theorem asZ3_is {x : Dv} {s t : PySem.Str} : asZ3 [x, .d (.str s), .d (.str t)] = some (x, s, t) := rfl
theorem ok_forZ3 {a : DA} {tg : Tgt} {s : DS} {P : Out → Prop} : Ok (dFor (iZ3 a) tg s ρ M) P ↔ Ok (a ρ M) fun p => Ok (asZ3 p.1) fun q => Ok (lv p.2 q.1) fun xs => Ok (forL (stand (cellsOf q.1) p.2) (forStep tg s) (zipD3 xs q.2.1.cps.toList q.2.2.cps.toList) ρ p.2) P := by
  unfold dFor iZ3
  cases a ρ M with
  | none => simp
  | some p =>
    obtain ⟨vs, M1⟩ := p
    simp only [ok_some]
    cases asZ3 vs with
    | none => simp
    | some q =>
      obtain ⟨x, s, t⟩ := q
      simp only [ok_some]
      cases lv M1 x <;> simp
theorem ok_indexS {s t : PySem.Str} {k : Nat} {P : Dv × DSt → Prop} (h : PySem.Txt.index0 s t = some k) : Ok (mIndexS (.d (.str s)) [.d (.str t)] M) P ↔ P (.d (.int (k : Nat)), M) := by
  simp [mIndexS, h]
end
end Rw
end PRwOkI
section PRwZip
set_option Elab.async false
set_option linter.all false
set_option maxRecDepth 100000
set_option maxHeartbeats 2000000
/-! RwZip: zip of a list and two texts. -/
namespace L2
open PySem PySem.Spec PyProof.Rows
/-- the list at a as it stands at each turn, and the signs of two texts, in new triples -/
def Itz3 (K : PySem.W.Frag) (a : Addr) (x y : Str) : It :=
  ⟨fun i H => ∃ (xs : List V) (v : V), SqL K H a xs ∧ xs[i]? = some v ∧ i < x.cps.size ∧ i < y.cps.size,
    fun i H v H' => ∃ T u c d, v = .ref T ∧ H T = none ∧ H' = upd H T (.tup [u, .str ⟨#[c]⟩, .str ⟨#[d]⟩]) ∧ (∀ xs, SqL K H a xs → xs[i]? = some u) ∧ x.cps[i]? = some c ∧ y.cps[i]? = some d,
    fun i H => ∃ xs : List V, SqL K H a xs ∧ i ≤ xs.length ∧ i ≤ x.cps.size ∧ i ≤ y.cps.size ∧ (i = xs.length ∨ i = x.cps.size ∨ i = y.cps.size)⟩
theorem turn_zip3 {P : Program} {w : World} {K : PySem.W.Frag} {elts : List Expr} {kk : Nat} {tpos : Pos} {a z TI TO i1 i2 i3 : Addr} {x y : Str} {t u : Tok} (D : ZipSep3 z TI TO i1 i2 i3 [i1, a] [i2] [i3]) :
    Turn P w K (.Tuple elts kk tpos) (Itz3 K a x y) [z, TI, TO, i1, i2, i3] z (fun i h => IsZip h z TI TO .none ∧ IsTupOf3 h TI (.ref i1) (.ref i2) (.ref i3) ∧ (∃ p q r, IsTupOf3 h TO p q r) ∧ h.IsListIter i1 a i ∧ h.IsStrIter i2 (strIterType x) x t i ∧ h.IsStrIter i3 (strIterType y) y u i) where
  mem := by simp
  obj := fun i h st c hc => by
    obtain ⟨hz, hTI, ⟨p, q, r, hTO⟩, ⟨o1, e1, _, d1⟩, ⟨o2, e2, _, d2⟩, ⟨o3, e3, _, d3⟩⟩ := st
    have e' : c = z ∨ c = TI ∨ c = TO ∨ c = i1 ∨ c = i2 ∨ c = i3 := by simpa using hc
    rcases e' with q | q | q | q | q | q
    · rw [q]; exact ⟨_, hz, fun v q => nomatch q⟩
    · rw [q]; exact ⟨_, hTI, fun v q => nomatch q⟩
    · rw [q]; exact ⟨_, hTO, fun v q => nomatch q⟩
    · rw [q]; exact ⟨o1, e1, fun v q => by rw [d1] at q; cases q⟩
    · rw [q]; exact ⟨o2, e2, fun v q => by rw [d2] at q; cases q⟩
    · rw [q]; exact ⟨o3, e3, fun v q => by rw [d3] at q; cases q⟩
  keep := fun i h h' st k => by
    obtain ⟨hz, hTI, ⟨p, q, r, hTO⟩, h1, ⟨o2, e2, c2, d2⟩, ⟨o3, e3, c3, d3⟩⟩ := st
    exact ⟨k z (by simp) _ hz, k TI (by simp) _ hTI, ⟨p, q, r, k TO (by simp) _ hTO⟩, h1.at fun o q => k i1 (by simp) o q, ⟨o2, k i2 (by simp) _ e2, c2, d2⟩, ⟨o3, k i3 (by simp) _ e3, c3, d3⟩⟩
  item := by
    intro X hP hw hK hc i pins s σ H E I hf st hg
    subst hP hw hK
    obtain ⟨hz, hTI, ⟨p0, q0, r0, hTO⟩, h1, h2, h3⟩ := st
    obtain ⟨xs, v, hqx, hx, hxl, hyl⟩ := hg
    obtain ⟨its, rv, p, _⟩ := I.list hqx
    obtain ⟨uu, hu, ru⟩ := rv.get hx
    have hzl : z < s.heap.objs.size := Heap.lt_size hz
    have hd : X.A.in1.handled = none := I.ok.hd hc
    have hne : a ≠ i1 := fun e => by
      obtain ⟨o1, e1, c1, _⟩ := h1
      obtain ⟨o2, e2, c2, _⟩ := p.isList
      rw [e, e1] at e2
      cases e2
      rw [c1] at c2
      injection c2 with c3
      exact absurd c3 (by decide +kernel)
    have D1 := Draws.list (prog := X.prog) (w := X.w) hd i1 a hne its.toArray
    have D2 := Draws.text (prog := X.prog) (w := X.w) hd i2 x t
    have D3 := Draws.text (prog := X.prog) (w := X.w) hd i3 y u
    have hil : i < its.toArray.size := by
      have := (List.getElem?_eq_some_iff.mp hu).1
      simpa using this
    refine wpAny_pyNext_zipD3_item D D1 D2 D3 hz hTI hTO ⟨h1, p.isList⟩ h2 h3 hil hxl hyl fun x1 x2 x3 h' tk y1 y2 y3 b1 b2 d1 d2 d3 b5 b6 hk => ?_
    have hu' : x1 = uu := by
      have : its.toArray[i]? = some uu := by simpa using hu
      rw [this] at y1
      exact (Option.some.inj y1).symm
    subst hu'
    obtain ⟨c2, t2, g2, rfl⟩ := y2
    obtain ⟨c3, t3, g3, rfl⟩ := y3
    refine ⟨_, rfl, wpAny_letOwnedTupleGo_zip (s := { s with heap := h', toks := tk }) b1 fun h'' z'' sb => ?_⟩
    have hT2 : h''.get? s.heap.objs.size = some { cls := .type "tuple", data := .seq #[x1, .str ⟨#[c2]⟩ t2, .str ⟨#[c3]⟩ t3] } := (sb.2 _ (Nat.ne_of_gt hzl)).trans b5
    have new : ObjOk X.prog X.w (upd H s.heap.objs.size (.tup [v, .str ⟨#[c2]⟩, .str ⟨#[c3]⟩])) h'' s.heap.objs.size (.tup [v, .str ⟨#[c2]⟩, .str ⟨#[c3]⟩]) :=
      ⟨by show 3 ≤ sizeLine; decide, [x1, .str ⟨#[c2]⟩ t2, .str ⟨#[c3]⟩ t3], .cons ru (.cons ⟨_, rfl⟩ (.cons ⟨_, rfl⟩ .nil)), ⟨_, hT2, rfl, _, rfl⟩⟩
    have kk2 : ∀ c o, c ∉ [z, TI, TO, i1, i2, i3] → s.heap.get? c = some o → h''.get? c = some o := fun c o hb q => (sb.2 c (fun q' => hb (by simp [q']))).trans (hk c o (fun q' => hb (by simp [q'])) (fun q' => hb (by simp [q'])) (fun q' => hb (by simp [q'])) (fun q' => hb (by simp [q'])) (fun q' => hb (by simp [q'])) q)
    have I1 : Inv X pins σ (upd H s.heap.objs.size (.tup [v, .str ⟨#[c2]⟩, .str ⟨#[c3]⟩])) { s with heap := h'', toks := tk } :=
      I.turnedNew (t' := tk) (ch := [z, TI, TO, i1, i2, i3]) kk2 hf (Nat.le_refl _) new
    obtain ⟨d1, _⟩ := d1
    obtain ⟨o2, e2, cc2, dd2⟩ := d2
    obtain ⟨o3, e3, cc3, dd3⟩ := d3
    refine ⟨.ref s.heap.objs.size, _, I1, rfl, ⟨_, v, c2, c3, rfl, I.hok.fresh (Nat.le_refl _), rfl, fun l hl => by rw [I.list_inj hl hqx]; exact hx, g2, g3⟩, ⟨z'', ?_, ⟨x1, .str ⟨#[c2]⟩ t2, .str ⟨#[c3]⟩ t3, ?_⟩, ?_, ⟨o2, (sb.2 _ D.zi2.symm).trans e2, cc2, dd2⟩, ⟨o3, (sb.2 _ D.zi3.symm).trans e3, cc3, dd3⟩⟩, fun c hcm => ?_⟩
    · exact (sb.2 _ D.TIz).trans (hk _ _ D.TIz D.TITO D.TIi1 D.TIi2 D.TIi3 hTI)
    · exact (sb.2 _ D.TOz).trans b2
    · exact d1.at fun o q => (sb.2 _ D.zi1.symm).trans q
    · have hlt : c < s.heap.objs.size := by
        have e' : c = z ∨ c = TI ∨ c = TO ∨ c = i1 ∨ c = i2 ∨ c = i3 := by simpa using hcm
        rcases e' with q | q | q | q | q | q
        · rw [q]; exact hzl
        · rw [q]; exact Heap.lt_size hTI
        · rw [q]; exact Heap.lt_size hTO
        · rw [q]; obtain ⟨_, e1, _⟩ := h1; exact Heap.lt_size e1
        · rw [q]; obtain ⟨_, e2, _⟩ := h2; exact Heap.lt_size e2
        · rw [q]; obtain ⟨_, e2, _⟩ := h3; exact Heap.lt_size e2
      rw [upd_ne (Nat.ne_of_lt hlt)]
      exact (hf c hcm).1
  done := by
    intro X hP hw hK hc i pins s σ H E I hf st hg
    subst hP hw hK
    obtain ⟨hz, hTI, ⟨p0, q0, r0, hTO⟩, h1, h2, h3⟩ := st
    obtain ⟨xs, hqx, hl1, hl2, hl3, hend⟩ := hg
    obtain ⟨its, rv, p, _⟩ := I.list hqx
    have hd : X.A.in1.handled = none := I.ok.hd hc
    have hne : a ≠ i1 := fun e => by
      obtain ⟨o1, e1, c1, _⟩ := h1
      obtain ⟨o2, e2, c2, _⟩ := p.isList
      rw [e, e1] at e2
      cases e2
      rw [c1] at c2
      injection c2 with c3
      exact absurd c3 (by decide +kernel)
    have D1 := Draws.list (prog := X.prog) (w := X.w) hd i1 a hne its.toArray
    have D2 := Draws.text (prog := X.prog) (w := X.w) hd i2 x t
    have D3 := Draws.text (prog := X.prog) (w := X.w) hd i3 y u
    have ll : its.toArray.size = xs.length := by
      have := rv.length
      simp
      omega
    refine wpAny_pyNext_zipD3_end D D1 D2 D3 hz hTI hTO ⟨h1, p.isList⟩ h2 h3 (by omega) hl2 hl3 (by omega) fun h' tk hk => ?_
    exact ⟨rfl, I.turnedL (t' := tk) (ch := [z, TI, TO, i1, i2, i3]) (fun c o hb q =>
      hk c o (fun q' => hb (by simp [q'])) (fun q' => hb (by simp [q'])) (fun q' => hb (by simp [q'])) (fun q' => hb (by simp [q'])) (fun q' => hb (by simp [q'])) q) hf⟩
  self := fun A i s Q E st h => wpAny_pyIter_zip st.1 h
def iZip3 (K : PySem.W.Frag) (ta : TA) : TI := fun σ H R => ta σ H fun vs H1 => ∃ a xs x y, vs = [.ref a, .str x, .str y] ∧ SqL K H1 a xs ∧ R (Itz3 K a x y) H1
theorem pi_zip3 {X : Cx} {e e2 e3 : Expr} {ta : TA} {p pos tpos : Pos} {elts : List Expr} {kk : Nat} (hg : Gl X "zip") (hm : X.mg "zip" = none) (ha : PA X [e, e2, e3] ta)
    (hs : starEach [e, e2, e3] X.env = (false, eval e X.env) :: starEach [e2, e3] X.env := by rfl) (hpl : (backTo pos (starEach [e2, e3] X.env)).any (·.1) = false := by rfl) :
    PI X (.Tuple elts kk tpos) (.Call (.Name "zip" p) [e, e2, e3] [] pos) (iZip3 X.K ta) := by
  refine ⟨fun pins s σ H R I h => ?_⟩
  refine Call_ (ld_blt I hg hm PyProof.Rows.boot_zip (PyProof.Rows.callWith_type1 (thn (ha.run pos pins s σ H _ I h) fun us s1 ⟨vs, H1, I1, r1, q1⟩ => ?_) hs hpl))
  obtain ⟨a, xs, x, y, ex, hqx, q⟩ := q1
  subst ex
  cases r1 with
  | cons r rr =>
    cases rr with
    | cons r' rr =>
      cases rr with
      | cons r'' rr =>
        cases rr
        cases r
        obtain ⟨t, rfl⟩ := r'
        obtain ⟨u, rfl⟩ := r''
        obtain ⟨its, rv, p1, _⟩ := I1.list hqx
        have la : a < s1.heap.objs.size := p1.lt
        refine zip_begins3 (begins_list a its.toArray) (begins_text x t) (begins_text y u) p1.isList trivial trivial fun h' hz hTI hTO g1 g2 g3 hsz hk => wpAny_pyIter_zip hz ?_
        have I2 : Inv X pins σ H1 { s1 with heap := h' } := I1.kept (t' := s1.toks) hk
        refine ⟨s1.heap.objs.size + 5, [s1.heap.objs.size + 5, s1.heap.objs.size + 3, s1.heap.objs.size + 4, s1.heap.objs.size, s1.heap.objs.size + 1, s1.heap.objs.size + 2], _, _, H1, rfl, I2, turn_zip3 (t := t) (u := u) (zip_sep3 (fp1 := [a]) (fp2 := []) (fp3 := []) (by simpa using la) (by simp) (by simp)), ⟨hz, hTI, ⟨_, _, _, hTO⟩, ⟨_, g1, rfl, rfl⟩, ⟨_, g2, rfl, rfl⟩, ⟨_, g3, rfl, rfl⟩⟩, fun c hcm => ?_, q⟩
        have e' : c = s1.heap.objs.size + 5 ∨ c = s1.heap.objs.size + 3 ∨ c = s1.heap.objs.size + 4 ∨ c = s1.heap.objs.size ∨ c = s1.heap.objs.size + 1 ∨ c = s1.heap.objs.size + 2 := by simpa using hcm
        have hle : s1.heap.objs.size ≤ c := by
          rcases e' with z | z | z | z | z | z
          · rw [z]; exact Nat.le_add_right _ _
          · rw [z]; exact Nat.le_add_right _ _
          · rw [z]; exact Nat.le_add_right _ _
          · rw [z]; exact Nat.le_refl _
          · rw [z]; exact Nat.le_add_right _ _
          · rw [z]; exact Nat.le_add_right _ _
        exact I1.fpOk hle (I1.hok.fresh hle)
end L2
end PRwZip
section PRwIdx
set_option Elab.async false
set_option linter.all false
set_option maxRecDepth 100000
set_option maxHeartbeats 2000000
/-! RwIdx: the place of a text in a text, zip of three: simulation. -/
namespace Rw
open PySem L2 PySem.Spec PyProof.Rows
open Evl (Ex)
def rIndexS : V → List V → Hp → VK → Prop := fun x xs H Q => ∃ (a b : Str) (k : Nat), x = .str a ∧ xs = [.str b] ∧ Txt.index0 a b = some k ∧ Q (.int (k : Nat)) H
theorem mt_indexS {X : Cx} : MtR X "str.index" rIndexS := by
  intro pins s σ H x xs v us Q I rx rs h
  obtain ⟨a, b, k, rfl, rfl, hk, w⟩ := h
  obtain ⟨t, rfl⟩ := rx
  cases rs with
  | cons r1 rs =>
    cases rs
    obtain ⟨u, rfl⟩ := r1
    cases q : Builtin.Str.occurrences a b 0 a.length 1 with
    | nil =>
      unfold Txt.index0 at hk
      rw [q] at hk
      cases hk
    | cons k' rest =>
      have : k' = k := by
        unfold Txt.index0 at hk
        rw [q] at hk
        exact Option.some.inj hk
      subst this
      exact PySem.SC.index q ⟨.int (k' : Nat), H, I.tok _, ⟨_, rfl⟩, w⟩
section
variable {K : PySem.W.Frag}
theorem sim_indexS {to : TE} {o : DE} {ta : TA} {a : DA} (ho : SimE K to o) (ha : SimA K ta a) : SimE K (tBM K "str" rIndexS to ta) (eM mIndexS o a) := ⟨fun {F κ G σ ρ M H Q z M'} S E h k => by
  unfold eM at h
  split at h
  · rename_i x M1 e
    split at h
    · rename_i xs M2 e2
      unfold mIndexS at h
      split at h
      · rename_i s t
        split at h
        · rename_i i hi
          cases h
          refine ho.run S E e fun κ1 G1 u H1 l1 S1 r1 => ?_
          obtain rfl := rx_str r1
          refine ⟨rfl, ha.run S1 (E.mono l1) e2 fun κ2 G2 us H2 l2 S2 r2 => ?_⟩
          obtain ⟨v, rfl, rv⟩ := rxs1 r2
          have := rx_str rv
          subst this
          exact ⟨s, t, i, rfl, rfl, hi, (k.weak (l1.trans l2)).here S2 (Rv.int _)⟩
        · cases h
      · cases h
    · cases h
  · cases h⟩
theorem zipD3_length : ∀ (xs : List D) (cs ds : List Nat), (zipD3 xs cs ds).length = min xs.length (min cs.length ds.length)
  | [], _, _ => by simp [zipD3]
  | _ :: _, [], _ => by simp [zipD3]
  | _ :: _, _ :: _, [] => by simp [zipD3]
  | x :: xs, c :: cs, d :: ds => by simp only [zipD3, List.length_cons, zipD3_length xs cs ds]; omega
theorem zipD3_get : ∀ (xs : List D) (cs ds : List Nat) (i : Nat) (x : D) (c d : Nat), xs[i]? = some x → cs[i]? = some c → ds[i]? = some d → (zipD3 xs cs ds)[i]? = some (.tup [x, .str ⟨#[c]⟩, .str ⟨#[d]⟩])
  | [], _, _, _, _, _, _, h, _, _ => by simp at h
  | _ :: _, [], _, _, _, _, _, _, h, _ => by simp at h
  | _ :: _, _ :: _, [], _, _, _, _, _, _, h => by simp at h
  | x :: xs, c :: cs, d :: ds, 0, _, _, _, h, h', h'' => by simp at h h' h''; subst h; subst h'; subst h''; simp [zipD3]
  | x :: xs, c :: cs, d :: ds, i + 1, e, f, g, h, h', h'' => by
    simp only [zipD3, List.getElem?_cons_succ]
    exact zipD3_get xs cs ds i e f g (by simpa using h) (by simpa using h') (by simpa using h'')
theorem asZ3_eq {vs : List Dv} {x : Dv} {s t : Str} (h : asZ3 vs = some (x, s, t)) : vs = [x, .d (.str s), .d (.str t)] := by
  unfold asZ3 at h
  split at h
  · cases h; rfl
  · cases h
theorem trip_new {F2 : Fz} {κ2 : List Addr} {G2 : Hp} {M2 : DSt} {H2 : Hp} {T : Addr} {x y z : V} {d e f : D} (S2 : Sm K F2 κ2 G2 M2 H2) (hT : H2 T = none) (r1 : Rv K G2 x d) (r2 : Rv K G2 y e) (r3 : Rv K G2 z f) : Ex G2 (upd G2 T (.tup [x, y, z])) ∧ Sm K F2 κ2 (upd G2 T (.tup [x, y, z])) M2 (upd H2 T (.tup [x, y, z])) ∧ Rv K (upd G2 T (.tup [x, y, z])) (.ref T) (.tup [d, e, f]) := by
  have g := (S2.fresh hT).1
  exact ⟨Ex.new g, S2.newG _ hT, .tup (.of upd_same) (.cons (r1.mono (Ex.new g)) (.cons (r2.mono (Ex.new g)) (.cons (r3.mono (Ex.new g)) .nil)))⟩
theorem sim_iZ3 {ta : TA} {a : DA} (ha : SimA K ta a) : SimI K (iZip3 K ta) (iZ3 a) := ⟨fun {F κ G σ ρ M H xs src M' R} S E h k => by
  unfold iZ3 at h
  split at h
  · rename_i vs M1 e
    split at h
    · rename_i x s t ea
      have := asZ3_eq ea
      subst this
      split at h
      · rename_i ys ey
        cases h
        refine ha.run S E e fun κ1 G1 us H1 l1 S1 rs => ?_
        cases rs with
        | cons r1 rs =>
          cases rs with
          | cons r2 rs =>
            cases rs with
            | cons r3 rs =>
              cases rs
              have e2 := rx_str r2
              have e3 := rx_str r3
              subst e2 e3
              obtain ⟨b, us, rfl, q, p⟩ := lv_at S1 r1 ey
              refine ⟨b, us, s, t, rfl, q, ?_⟩
              refine k κ1 G1 H1 (Itz3 K b s t) (fun H => ∃ us G, SqL K H b us ∧ Rvs K G us ys) (fun i H v H' => ∃ T u c d, v = .ref T ∧ H T = none ∧ H' = upd H T (.tup [u, .str ⟨#[c]⟩, .str ⟨#[d]⟩]) ∧ (∀ us, SqL K H b us → us[i]? = some u) ∧ s.cps[i]? = some c ∧ t.cps[i]? = some d) l1 S1 ⟨fun i H hi ⟨us, G, q, p⟩ => ?_, fun H ⟨us, G, q, p⟩ => ?_, fun i H x H' hi _ y => y⟩ (fun F2 κ2 G2 M2 H2 l2 S2 st => ?_) fun i F2 κ2 G2 M2 H2 x H3 hi l2 S2 st y => ?_
              · rw [zipD3_length] at hi
                have hl : i < us.length := by rw [p.length]; omega
                exact ⟨us, us[i], q, by simp [hl], by simp at hi; omega, by simp at hi; omega⟩
              · refine ⟨us, q, ?_⟩
                rw [p.length, zipD3_length]
                simp
                omega
              · obtain ⟨us2, q2, p2⟩ := lv_stand l2 S2 r1 ey st
                exact ⟨us2, G2, q2, p2⟩
              · obtain ⟨us2, q2, p2⟩ := lv_stand l2 S2 r1 ey st
                obtain ⟨T, w, c, d, rfl, hT, rfl, y, hc, hd⟩ := y
                obtain ⟨e, he, re⟩ := p2.get' (y us2 q2)
                obtain ⟨e1, e2, e3⟩ := trip_new S2 hT re (Rv.str ⟨#[c]⟩) (Rv.str ⟨#[d]⟩)
                exact ⟨_, _, e1, e2, zipD3_get ys _ _ i e c d he (by simpa using hc) (by simpa using hd), e3⟩
      · cases h
    · cases h
  · cases h⟩
end
section
variable {X : Cx} {a b c e : Expr} {es : List Expr} {p apos pos : Pos} {da : DE} {das : DA} {n : Nat}
theorem i_zip3 {elts : List Expr} {kk : Nat} {tpos : Pos} (hm : X.mg "zip" = none) (ha : PDA X [a, b, c] das n) (hg : Gl X "zip" := by rfl) (hs : starEach [a, b, c] X.env = (false, eval a X.env) :: starEach [b, c] X.env := by rfl) (hpl : (backTo pos (starEach [b, c] X.env)).any (·.1) = false := by rfl) : PDI X (.Tuple elts kk tpos) (.Call (.Name "zip" p) [a, b, c] [] pos) (iZ3 das) := by
  obtain ⟨t, h1, h2⟩ := ha.ex
  exact ⟨_, pi_zip3 hg hm h1 hs hpl, sim_iZ3 h2⟩
theorem d_indexS (ho : PD X a da) (hb : PDA X (e :: es) das n) (hbase : attributeBase a "index" X.env (eval a X.env) = eval a X.env := by rfl)
    (hfew : ((backTo pos (starEach (e :: es) X.env)).all (fun x => !x.1) && (backToKw pos (keywordEach [] X.env)).all (fun x => x.1.isSome)
      && decide ((e :: es).length + ([] : List Keyword).length + (if ([] : List Keyword).isEmpty then 0 else 1) < 30)) = true := by rfl)
    (hline : (apos.endLine == pos.line) = true := by rfl) (hs : starEach (e :: es) X.env = (false, eval e X.env) :: starEach es X.env := by rfl) (hplain : (backTo pos (starEach es X.env)).any (·.1) = false := by rfl) : PD X (.Call (.Attribute a "index" apos) (e :: es) [] pos) (eM mIndexS da das) := by
  obtain ⟨t, h1, h2⟩ := ho.ex
  obtain ⟨u, h3, h4⟩ := hb.ex
  exact ⟨_, pe_bm PySem.F.plainAttrs_str PySem.F.slot_str_index PySem.F.type_str_index mt_indexS h1 h3 hbase hfew hline hs hplain, sim_indexS h2 h4⟩
end
end Rw
end PRwIdx
section PRwSemT
set_option autoImplicit false
set_option linter.all false
/-! RwSemT: whole numbers as texts and back, texts parted, cut and told so many times. -/
namespace Rw
noncomputable section
/-- str(i) -/
def oStrI : OA := fun vs M => match vs with
  | [.d (.int i)] => grd (i.natAbs.log2 < 1920) (some (.d (.str (PySem.Str.ofString (toString i))), M))
  | _ => none
/-- int(text) -/
def oIntS : OA := fun vs M => match vs with
  | [.d (.str s)] => match PySem.intText? s with
    | some n => grd (s.length ≤ 640) (some (.d (.int n), M))
    | none => none
  | _ => none
/-- a.split(b) -/
def mSplit (c : Bool) : Dv → List Dv → DSt → Option (Dv × DSt) := fun v as M => match v, as with
  | .d (.str a), [.d (.str b)] => grd (0 < b.length ∧ a.length ≤ big) (mkL c ((PySem.Txt.split a b).map D.str) M)
  | _, _ => none
/-- a.partition(b) -/
def mPart : Dv → List Dv → DSt → Option (Dv × DSt) := fun v as M => match v, as with
  | .d (.str a), [.d (.str b)] => grd (0 < b.length ∧ a.length ≤ big) (some (.d (.tup [.str (PySem.Txt.partition a b).1, .str (PySem.Txt.partition a b).2.1, .str (PySem.Txt.partition a b).2.2]), M))
  | _, _ => none
/-- a.join(xs) -/
def mJoin : Dv → List Dv → DSt → Option (Dv × DSt) := fun v as M => match v, as with
  | .d (.str a), [x] => oJoin a x M
  | _, _ => none
/-- a slice of a list, a tuple or a text -/
def slV (c : Bool) : Dv → Option Int → Option Int → DSt → Option (Dv × DSt) := fun x l h M => match x with
  | .d (.str z) => grd (z.length ≤ big) (some (.d (.str (L2.cutS z l h)), M))
  | x => slU c x l h M
/-- one sign in a text -/
def oInS (neg : Bool) : O2 := fun x y M => match x, y with
  | .d (.str x), .d (.str z) => match x.cps.toList with
    | [c] => some (.d (.bl (xor neg (decide (c ∈ z.cps.toList)))), M)
    | _ => none
  | _, _ => none
/-- the signs of a text -/
def sgn (x : PySem.Str) : List D := x.cps.toList.map fun c => .str ⟨#[c]⟩
def iX (a : DE) : DI := fun ρ M => match a ρ M with
  | some (.d (.str x), M1) => some (sgn x, [], M1)
  | _ => none
/-- a power of a power -/
def powOkW (i j : Int) : Prop := 0 ≤ j ∧ j ≤ 100 ∧ i.natAbs < 2 ^ 1000
def oPowW : O2 := oIg powOkW fun i j => .int (i ^ j.toNat)
/-- a text so many times -/
def oMulS : O2 := fun x y M => match x, y with
  | .d (.str s), .d (.int k) => grd (0 ≤ k ∧ k ≤ 100000 ∧ s.length ≤ 10) (some (.d (.str (PySem.Txt.mul s k)), M))
  | _, _ => none
end
end Rw
end PRwSemT
section PRwText
set_option Elab.async false
set_option linter.all false
set_option maxRecDepth 100000
set_option maxHeartbeats 2000000
/-! RwText: whole numbers as texts and back, texts parted, cut, walked and told so many times: simulation. -/
namespace Rw
open PySem L2 PySem.Spec PyProof.Rows
open Evl (Ex)
section
variable {K : PySem.W.Frag}
theorem sa_strI : SimRA K (fun xs H Q => ∃ i : Int, xs = [.int i] ∧ i.natAbs.log2 < 1920 ∧ Q (.str (toString i)) H) oStrI := fun {F κ G M H Q xs z M' us} S r h k => by
  unfold oStrI at h
  split at h
  · obtain ⟨hp, h⟩ := grd_some h
    cases h
    obtain ⟨u, rfl, a⟩ := rxs1 r
    obtain rfl := rx_int a
    exact ⟨_, rfl, hp, k.here S (Rv.str _)⟩
  · cases h
theorem sa_intS : SimRA K (fun xs H Q => ∃ a n, xs = [.str a] ∧ PySem.intText? a = some n ∧ a.length ≤ 640 ∧ Q (.int n) H) oIntS := fun {F κ G M H Q xs z M' us} S r h k => by
  unfold oIntS at h
  split at h
  · split at h
    · rename_i n hn
      obtain ⟨hp, h⟩ := grd_some h
      cases h
      obtain ⟨u, rfl, a⟩ := rxs1 r
      have := rx_str a
      subst this
      exact ⟨_, n, rfl, hn, hp, k.here S (Rv.int _)⟩
    · cases h
  · cases h
theorem rvs_strs {G : Hp} : ∀ ys : List Str, Rvs K G (ys.map V.str) (ys.map D.str)
  | [] => .nil
  | y :: r => .cons (.str y) (rvs_strs r)
abbrev rSp : V → List V → Hp → VK → Prop := fun x xs H Q => ∃ a b, x = .str a ∧ xs = [.str b] ∧ (b.length == 0) = false ∧ a.length + 2 ≤ sizeLine ∧ rNewStrs (Txt.split a b) H Q
abbrev rPt : V → List V → Hp → VK → Prop := fun x xs H Q => ∃ a b, x = .str a ∧ xs = [.str b] ∧ (b.length == 0) = false ∧ a.length ≤ sizeLine ∧ ∀ p, H p = none → Q (.ref p) (upd H p (.tup [.str (Txt.partition a b).1, .str (Txt.partition a b).2.1, .str (Txt.partition a b).2.2]))
abbrev rJn (K : PySem.W.Frag) : V → List V → Hp → VK → Prop := fun x xs H Q => ∃ a p, ∃ ys : List Str, x = .str a ∧ xs = [.ref p] ∧ (SqL K H p (ys.map V.str) ∨ SqT K H p (ys.map V.str)) ∧ (ys.map (·.length)).sum + ys.length * a.length ≤ 16777216 ∧ Q (.str (Txt.join a ys)) H
/-- a method of texts with one argument -/
theorem sim_m1 {r : V → List V → Hp → VK → Prop} {f : Dv → List Dv → DSt → Option (Dv × DSt)} {to te : TE} {o e : DE} (hr : SimRM K "str" r f) (hf : ∀ v as M z, f v as M = some z → ∃ a, v = .d (.str a)) (ho : SimE K to o) (he : SimE K te e) : SimE K (tM1 r to te) (eM f o (aCons e aNil)) := ⟨fun {F κ G σ ρ M H Q z M'} S E h k => by
  unfold eM at h
  split at h
  · rename_i x M1 e1
    split at h
    · rename_i xs M2 e2
      obtain ⟨a, rfl⟩ := hf _ _ _ _ h
      refine ho.run S E e1 fun κ1 G1 u H1 l1 S1 r1 => ?_
      have := rx_str r1
      subst this
      unfold aCons at e2
      split at e2
      · rename_i y M3 e3
        unfold aNil at e2
        cases e2
        refine ⟨⟨a, rfl⟩, he.run S1 (E.mono l1) e3 fun κ2 G2 w H2 l2 S2 r2 => ?_⟩
        exact hr S2 (r1.mono l2) (.cons r2 .nil) h (k.weak (l1.trans l2))
      · cases e2
    · cases h
  · cases h⟩
theorem sz_big2 {n : Nat} (h : n ≤ big) : n + 2 ≤ sizeLine := by
  rw [sizeLine_eq]
  unfold big at h
  omega
theorem ne_len {b : Str} (h : 0 < b.length) : (b.length == 0) = false := by
  rw [beq_eq_false_iff_ne]
  omega
theorem sm_split (c : Bool) : SimRM K "str" rSp (mSplit c) := fun {F κ G M H Q x xs z M' u us} S r rs h k => by
  unfold mSplit at h
  split at h
  · rename_i a b
    obtain ⟨⟨h1, h2⟩, h⟩ := grd_some h
    obtain rfl := rx_str r
    obtain ⟨v, rfl, rv⟩ := rxs1 rs
    have := rx_str rv
    subst this
    refine ⟨a, b, rfl, rfl, ne_len h1, sz_big2 h2, fun p hp => ?_⟩
    obtain ⟨κ', G', l, S', r'⟩ := S.new hp (rvs_strs (Txt.split a b)) h
    exact k κ' G' _ _ l S' r'
  · cases h
theorem sm_part : SimRM K "str" rPt mPart := fun {F κ G M H Q x xs z M' u us} S r rs h k => by
  unfold mPart at h
  split at h
  · rename_i a b
    obtain ⟨⟨h1, h2⟩, h⟩ := grd_some h
    cases h
    obtain rfl := rx_str r
    obtain ⟨v, rfl, rv⟩ := rxs1 rs
    have := rx_str rv
    subst this
    refine ⟨a, b, rfl, rfl, ne_len h1, Nat.le_of_lt (Nat.lt_of_lt_of_le (Nat.lt_succ_of_lt (Nat.lt_succ_self _)) (sz_big2 h2)), fun p hp => ?_⟩
    have g := (S.fresh hp).1
    exact k κ (upd G p _) _ _ (Le.newG g) (S.newG _ hp) (Rv.tup (.of upd_same) (.cons (.str _) (.cons (.str _) (.cons (.str _) .nil))))
  · cases h
theorem sm_join : SimRM K "str" (rJn K) mJoin := fun {F κ G M H Q x xs z M' u us} S r rs h k => by
  unfold mJoin at h
  split at h
  · rename_i a y
    unfold oJoin at h
    split at h
    · rename_i ds ed
      split at h
      · rename_i ys ey
        obtain ⟨hb, h⟩ := grd_some h
        cases h
        obtain rfl := rx_str r
        obtain ⟨v, rfl, rv⟩ := rxs1 rs
        obtain ⟨b, us, rfl, q, p'⟩ := lv_at S rv ed
        refine ⟨a, b, ys, rfl, rfl, .inl ?_, Nat.le_trans hb (by decide), ?_⟩
        · rw [← strs_of p' ey]
          exact q
        · have ej : Txt.join a ys = Str.join a ys := PySem.StrLaws.glued_eq_join a ys
          rw [ej]
          exact k.here S (Rv.str _)
      · cases h
    · cases h
  · cases h
theorem sf_split {c : Bool} : ∀ v as M z, mSplit c v as M = some z → ∃ a, v = .d (.str a) := fun v as M z h => by
  unfold mSplit at h
  split at h
  · exact ⟨_, rfl⟩
  · cases h
theorem sf_part : ∀ v as M z, mPart v as M = some z → ∃ a, v = .d (.str a) := fun v as M z h => by
  unfold mPart at h
  split at h
  · exact ⟨_, rfl⟩
  · cases h
theorem sf_join : ∀ v as M z, mJoin v as M = some z → ∃ a, v = .d (.str a) := fun v as M z h => by
  unfold mJoin at h
  split at h
  · exact ⟨_, rfl⟩
  · cases h
theorem ss_slV (c : Bool) : SimSl K (fun x lo hi H Q => (rSlL K x lo hi H Q ∨ rSlA K x lo hi H Q) ∨ rSlS x lo hi H Q) (slV c) := fun {F κ G M H Q x lo hi z M' u} S rx h k => by
  unfold slV at h
  split at h
  · rename_i w
    obtain ⟨hb, h⟩ := grd_some h
    cases h
    obtain rfl := rx_str rx
    exact .inr ⟨w, rfl, sz_big hb, k.here S (Rv.str _)⟩
  · exact .inl (ss_slU c S rx h k)
theorem sr_inS : SimR2 K (fun x y H Q => ∃ (c : Nat) (z : Str), x = .str ⟨#[c]⟩ ∧ y = .str z ∧ Q (.bl (decide (c ∈ z.cps.toList))) H) (oInS false) := fun {F κ G M H Q x y z M' u v} S rx ry h k => by
  unfold oInS at h
  split at h
  · rename_i s t
    split at h
    · rename_i c ec
      cases h
      obtain rfl := rx_str rx
      obtain rfl := rx_str ry
      refine ⟨c, t, ?_, rfl, ?_⟩
      · rw [show s = ⟨#[c]⟩ from TL.ext_tl ec]
      · have := k.here S (Rv.bl (xor false (decide (c ∈ t.cps.toList))))
        rwa [Bool.false_xor] at this
    · cases h
  · cases h
theorem sr_notInS : SimR2 K (fun x y H Q => ∃ (c : Nat) (z : Str), x = .str ⟨#[c]⟩ ∧ y = .str z ∧ Q (.bl (!decide (c ∈ z.cps.toList))) H) (oInS true) := fun {F κ G M H Q x y z M' u v} S rx ry h k => by
  unfold oInS at h
  split at h
  · rename_i s t
    split at h
    · rename_i c ec
      cases h
      obtain rfl := rx_str rx
      obtain rfl := rx_str ry
      refine ⟨c, t, ?_, rfl, ?_⟩
      · rw [show s = ⟨#[c]⟩ from TL.ext_tl ec]
      · have := k.here S (Rv.bl (xor true (decide (c ∈ t.cps.toList))))
        rwa [Bool.true_xor] at this
    · cases h
  · cases h
theorem sim_iX {te : TE} {e : DE} (he : SimE K te e) : SimI K (iStr te) (iX e) := ⟨fun {F κ G σ ρ M H xs src M' R} S E h k => by
  unfold iX at h
  split at h
  · rename_i x M1 e1
    cases h
    refine he.run S E e1 fun κ1 G1 u H1 l1 S1 r1 => ?_
    have := rx_str r1
    subst this
    refine ⟨x, rfl, ?_⟩
    refine k κ1 G1 H1 (Its x) (fun _ => True) (fun i H v H' => H' = H ∧ ∃ c, x.cps[i]? = some c ∧ v = .str ⟨#[c]⟩) l1 S1 (by rw [show (sgn x).length = x.cps.size by simp [sgn]]; exact walk_str) (fun _ _ _ _ _ _ _ _ => trivial) fun i F2 κ2 G2 M2 H2 y H3 hi l2 S2 st q => ?_
    obtain ⟨rfl, c, hc, rfl⟩ := q
    refine ⟨G2, .str ⟨#[c]⟩, Ex.refl _, S2, ?_, .str _⟩
    simp [sgn, hc]
  · cases h⟩
theorem bits_mulW {a n : Int} (ha : a.natAbs < 2 ^ 1000) (h0 : 0 ≤ n) (hn : n ≤ 100) : (Builtin.Int.intBits a : Int) * n ≤ 2 ^ 27 := by
  have hb : Builtin.Int.intBits a ≤ 1000 := intBits_le ha
  have h1 : (Builtin.Int.intBits a : Int) * n ≤ 1000 * n := Int.mul_le_mul_of_nonneg_right (by omega) h0
  omega
theorem op_powW {X : Cx} : OpR X (binaryOp .Pow) (rI powOkW fun i j => .int (i ^ j.toNat)) := opI fun _ _ _ _ _ _ _ hc q => pow_int hc.1 (bits_mulW hc.2.2 hc.1 hc.2.1) q
theorem sr_powW : SimR2 K (rI powOkW fun i j => .int (i ^ j.toNat)) oPowW := sr_I (fun _ _ h => h) fun _ _ _ _ => .int _
def rMulS : V → V → Hp → VK → Prop := fun x y H Q => ∃ (s : Str) (k : Int), x = .str s ∧ y = .int k ∧ MulOk s k ∧ Q (.str (Txt.mul s k)) H
theorem op_mulS {X : Cx} : OpR X (binaryOp .Mult) rMulS := by
  intro pins s σ H x y v u Q I rx ry h
  obtain ⟨a, k, rfl, rfl, hk, q⟩ := h
  obtain ⟨t, rfl⟩ := rx
  obtain ⟨t', rfl⟩ := ry
  exact SB.mul hk fun t' k' => ⟨.str (Txt.mul a k), H, I.tok _, ⟨_, rfl⟩, q⟩
theorem mulS_ok {s : Str} {k : Int} (h0 : 0 ≤ k) (h1 : k ≤ 100000) (h2 : s.length ≤ 10) : MulOk s k := by
  have e : s.length * k.toNat ≤ 10 * 100000 := Nat.mul_le_mul h2 (by omega)
  refine ⟨by simp; omega, fun hk _ => ?_, fun _ _ => ?_⟩
  · have : (100 : Int) ≤ (2 ^ 63 - 1) / k := by
      rw [Int.le_ediv_iff_mul_le (by omega)]
      omega
    omega
  · have : ¬ (s.length * k.toNat > sizeLine) := by
      have e3 := sizeLine_eq
      omega
    exact decide_eq_false this
theorem sr_mulS : SimR2 K rMulS oMulS := fun {F κ G M H Q x y z M' u v} S rx ry h k => by
  unfold oMulS at h
  split at h
  · rename_i s i
    obtain ⟨⟨h0, h1, h2⟩, h⟩ := grd_some h
    cases h
    exact ⟨s, i, rx_str rx, rx_int ry, mulS_ok h0 h1 h2, k.here S (Rv.str _)⟩
  · cases h
end
section
variable {X : Cx} {a b e o tg : Expr} {es : List Expr} {p apos pos p2 : Pos} {da db de : DE} {das : DA} {n : Nat} {lo hi : Option Expr} {dl dh : DO}
theorem d_str1 (hm : X.mg "str" = none) (ha : PDA X (e :: es) das n) (hg : Gl X "str" := by rfl) (he : starEach (e :: es) X.env = (false, eval e X.env) :: starEach es X.env := by rfl) (hpl : (backTo pos (starEach es X.env)).any (·.1) = false := by rfl) : PD X (.Call (.Name "str" p) (e :: es) [] pos) (eA oStrI das) := d_bt (x := "str") call_str_int sa_strI hg hm (by decide +kernel) ha (he := he) (hpl := hpl)
theorem d_intS (hm : X.mg "int" = none) (ha : PDA X (e :: es) das n) (hg : Gl X "int" := by rfl) (he : starEach (e :: es) X.env = (false, eval e X.env) :: starEach es X.env := by rfl) (hpl : (backTo pos (starEach es X.env)).any (·.1) = false := by rfl) : PD X (.Call (.Name "int" p) (e :: es) [] pos) (eA oIntS das) := d_bt (x := "int") call_int_str sa_intS hg hm (by decide +kernel) ha (he := he) (hpl := hpl)
theorem d_split (c : Bool) (ho : PD X o da) (he : PD X e de) (hs : starEach [e] X.env = [(false, eval e X.env)] := by rfl) (hbase : attributeBase o "split" X.env (eval o X.env) = eval o X.env := by rfl) (hline : (apos.endLine == pos.line) = true := by rfl) : PD X (.Call (.Attribute o "split" apos) [e] [] pos) (eM (mSplit c) da (aCons de aNil)) := by
  obtain ⟨t, h1, h2⟩ := ho.ex
  obtain ⟨u, h3, h4⟩ := he.ex
  exact ⟨_, pe_split h1 h3 hs hbase hline, sim_m1 (sm_split c) sf_split h2 h4⟩
theorem d_part (ho : PD X o da) (he : PD X e de) (hs : starEach [e] X.env = [(false, eval e X.env)] := by rfl) (hbase : attributeBase o "partition" X.env (eval o X.env) = eval o X.env := by rfl) (hline : (apos.endLine == pos.line) = true := by rfl) : PD X (.Call (.Attribute o "partition" apos) [e] [] pos) (eM mPart da (aCons de aNil)) := by
  obtain ⟨t, h1, h2⟩ := ho.ex
  obtain ⟨u, h3, h4⟩ := he.ex
  exact ⟨_, pe_partition h1 h3 hs hbase hline, sim_m1 sm_part sf_part h2 h4⟩
theorem d_joinV (ho : PD X o da) (he : PD X e de) (hs : starEach [e] X.env = [(false, eval e X.env)] := by rfl) (hbase : attributeBase o "join" X.env (eval o X.env) = eval o X.env := by rfl) (hline : (apos.endLine == pos.line) = true := by rfl) : PD X (.Call (.Attribute o "join" apos) [e] [] pos) (eM mJoin da (aCons de aNil)) := by
  obtain ⟨t, h1, h2⟩ := ho.ex
  obtain ⟨u, h3, h4⟩ := he.ex
  exact ⟨_, pe_join h1 h3 hs hbase hline, sim_m1 sm_join sf_join h2 h4⟩
theorem d_slV (c : Bool) (he : PD X e de) (hl : PDO X lo dl) (hh : PDO X hi dh) : PD X (.Subscript e (.Slice lo hi none p2) pos) (eSl (slV c) de dl dh) := by
  obtain ⟨t, h1, h2⟩ := he.ex
  obtain ⟨u, h3, h4⟩ := hl.ex
  obtain ⟨v, h5, h6⟩ := hh.ex
  exact ⟨_, pe_slice ((sl_list.or sl_tupA).or sl_str) h1 h3 h5, sim_sl (ss_slV c) h2 h4 h6⟩
theorem d_mulS (ha : PD X a da) (hb : PD X b db) : PD X (.BinOp a .Mult b pos) (e2 oMulS da db) := d_op op_mulS sr_mulS ha hb
theorem d_powW (ha : PD X a da) (hb : PD X b db) : PD X (.BinOp a .Pow b pos) (e2 oPowW da db) := d_op op_powW sr_powW ha hb
theorem k_inS : CmpR X .In (oInS false) := ⟨_, op_in_sign, sr_inS⟩
theorem k_notInS : CmpR X .NotIn (oInS true) := ⟨_, op_notIn_sign, sr_notInS⟩
theorem i_str (he : PD X e de) : PDI X tg e (iX de) := by
  obtain ⟨t, h1, h2⟩ := he.ex
  exact ⟨_, pi_str h1, sim_iX h2⟩
end
end Rw
end PRwText
section PRwOkT
set_option autoImplicit false
set_option linter.all false
/-! RwOkT: rules for texts. -/
namespace Rw
open PySem (Str)
/-- a text of these signs -/
def tx (l : List Nat) : Str := ⟨l.toArray⟩
/-- the figures of a whole number -/
def decZ (i : Int) : List Nat := if i < 0 then 45 :: TL.numL (-i).toNat else TL.numL i.toNat
theorem tl_tx (l : List Nat) : TL.tl (tx l) = l := rfl
@[simp] theorem tx_cps (l : List Nat) : (tx l).cps.toList = l := rfl
@[simp] theorem tx_len (l : List Nat) : (tx l).length = l.length := SX.S_len l
theorem tx_tl (x : Str) : tx (TL.tl x) = x := TL.mk_tl x
@[simp] theorem tx_inj {a b : List Nat} : tx a = tx b ↔ a = b := ⟨fun h => SX.S_inj h, fun h => by rw [h]⟩
@[simp] theorem tx_beq {a b : List Nat} : (tx a == tx b) = decide (a = b) := SX.S_beq_eq
@[simp] theorem tx_app {a b : List Nat} : tx a ++ tx b = tx (a ++ b) := SX.S_cat a b
@[simp] theorem tx_one (c : Nat) : (⟨#[c]⟩ : Str) = tx [c] := rfl
theorem strZ_nat (n : Nat) : Str.ofString (toString (n : Int)) = tx (TL.numL n) := SX.num_S n
theorem strZ_eq (i : Int) : Str.ofString (toString i) = tx (decZ i) := by
  unfold decZ
  by_cases h : i < 0
  · rw [if_pos h]
    obtain ⟨n, rfl⟩ : ∃ n : Nat, i = Int.negSucc n := ⟨(-i - 1).toNat, by omega⟩
    have e : toString (Int.negSucc n) = "-" ++ toString ((n + 1 : Nat) : Int) := rfl
    apply TL.ext_tl
    rw [e, TL.tl_ofString, String.toList_append, List.map_append]
    have := TL.tl_num (n + 1)
    rw [TL.tl_ofString] at this
    rw [this]
    rfl
  · rw [if_neg h]
    obtain ⟨n, rfl⟩ := Int.eq_ofNat_of_zero_le (show 0 ≤ i by omega)
    exact strZ_nat n
section
variable {ρ : DEnv} {M : DSt} {P : Dv × DSt → Prop}
def asS : Dv → Option Str
  | .d (.str x) => some x
  | _ => none
@[simp ↓] theorem ok_asS {x : Str} {P : Str → Prop} : Ok (asS (.d (.str x))) P ↔ P x := by simp [asS]
@[simp ↓] theorem ok_strI {i : Int} : Ok (oStrI [.d (.int i)] M) P ↔ i.natAbs.log2 < 1920 ∧ P (.d (.str (tx (decZ i))), M) := by
  rw [← strZ_eq]
  show Ok (grd (i.natAbs.log2 < 1920) (some (Dv.d (D.str (Str.ofString (toString i))), M))) P ↔ _
  rw [ok_grd, ok_some]
theorem ok_intS {s : Str} {n : Int} (h : PySem.intText? s = some n) (hl : s.length ≤ 640) : Ok (oIntS [.d (.str s)] M) P ↔ P (.d (.int n), M) := by
  simp [oIntS, h, hl]
@[simp ↓] theorem ok_split {c : Bool} {a b : Str} : Ok (mSplit c (.d (.str a)) [.d (.str b)] M) P ↔ (0 < b.length ∧ a.length ≤ big) ∧ Ok (mkL c ((PySem.Txt.split a b).map D.str) M) P := by
  simp [mSplit]
@[simp ↓] theorem ok_part {a b : Str} : Ok (mPart (.d (.str a)) [.d (.str b)] M) P ↔ (0 < b.length ∧ a.length ≤ big) ∧ P (.d (.tup [.str (PySem.Txt.partition a b).1, .str (PySem.Txt.partition a b).2.1, .str (PySem.Txt.partition a b).2.2]), M) := by
  simp [mPart]
@[simp ↓] theorem ok_mJoin {a : Str} {x : Dv} : Ok (mJoin (.d (.str a)) [x] M) P ↔ Ok (oJoin a x M) P := Iff.rfl
@[simp ↓] theorem ok_slV_s {c : Bool} {z : Str} {l h : Option Int} : Ok (slV c (.d (.str z)) l h M) P ↔ z.length ≤ big ∧ P (.d (.str (L2.cutS z l h)), M) := by
  simp [slV]
@[simp] theorem slV_l {c : Bool} {xs : List D} {l h : Option Int} : slV c (.d (.lst xs)) l h M = slU c (.d (.lst xs)) l h M := rfl
@[simp] theorem slV_r {c : Bool} {xs : List D} {l h : Option Int} : slV c (.r xs) l h M = slU c (.r xs) l h M := rfl
@[simp] theorem slV_t {c : Bool} {xs : List D} {l h : Option Int} : slV c (.d (.tup xs)) l h M = slU c (.d (.tup xs)) l h M := rfl
@[simp] theorem slV_c {c : Bool} {n : Nat} {l h : Option Int} : slV c (.c n) l h M = slU c (.c n) l h M := rfl
@[simp ↓] theorem ok_inS {neg : Bool} {c : Nat} {l : List Nat} : Ok (oInS neg (.d (.str (tx [c]))) (.d (.str (tx l))) M) P ↔ P (.d (.bl (xor neg (decide (c ∈ l)))), M) := by
  show Ok (some (Dv.d (D.bl (xor neg (decide (c ∈ (tx l).cps.toList)))), M)) P ↔ _
  rw [ok_some]
  exact Iff.rfl
@[simp ↓] theorem ok_iX {a : DE} {P : List D × List Nat × DSt → Prop} : Ok (iX a ρ M) P ↔ Ok (a ρ M) fun p => Ok (asS p.1) fun x => P (sgn x, [], p.2) := by
  unfold iX
  cases a ρ M with
  | none => simp
  | some p =>
    obtain ⟨v, M1⟩ := p
    cases v with
    | d x => cases x <;> simp [asS]
    | c n => simp [asS]
    | r xs => simp [asS]
    | o _ _ _ => simp [asS]
@[simp ↓] theorem ok_lenS {s : Str} : Ok (oLen [.d (.str s)] M) P ↔ s.length ≤ big ∧ P (.d (.int s.length), M) := by
  simp [oLen]
@[simp ↓] theorem ok_powW {i j : Int} : Ok (oPowW (.d (.int i)) (.d (.int j)) M) P ↔ powOkW i j ∧ P (.d (.int (i ^ j.toNat)), M) := by
  show Ok (grd (powOkW i j) (some (Dv.d (.int (i ^ j.toNat)), M))) P ↔ _
  rw [ok_grd, ok_some]
@[simp ↓] theorem ok_addS {c : Bool} {s t : Str} : Ok (oAdd c (.d (.str s)) (.d (.str t)) M) P ↔ s.length + t.length ≤ big ∧ P (.d (.str (s ++ t)), M) := by
  show Ok (grd (s.length + t.length ≤ big) (some (Dv.d (.str (s ++ t)), M))) P ↔ _
  rw [ok_grd, ok_some]
@[simp ↓] theorem ok_oIsi_str {T : String} {s : Str} : Ok (oIsi T [.d (.str s), .d (.ty T)] M) P ↔ P (.d (.bl (subTy "str" T)), M) := by
  have e : oIsi T [.d (.str s), .d (.ty T)] M = some (.d (.bl (subTy "str" T)), M) := oIsi_d (x := .str s) (fun _ h => nomatch h)
  rw [e]
  exact ok_some
@[simp ↓] theorem ok_mulS {s : Str} {k : Int} : Ok (oMulS (.d (.str s)) (.d (.int k)) M) P ↔ (0 ≤ k ∧ k ≤ 100000 ∧ s.length ≤ 10) ∧ P (.d (.str (PySem.Txt.mul s k)), M) := by
  simp [oMulS]
end
theorem sgn_tx (l : List Nat) : sgn (tx l) = l.map fun c => D.str (tx [c]) := rfl
theorem strFine_tx {l : List Nat} (h : ∀ c ∈ l, c < 1114112) : strFine (tx l) = true := by
  simp only [strFine]
  rw [← Array.all_toList]
  rw [List.all_eq_true]
  intro c hc
  exact decide_eq_true (h c hc)
/-! literals -/
theorem lit_min : Str.ofString "-" = tx [45] := by decide +kernel
theorem lit_0 : Str.ofString "0" = tx [48] := by decide +kernel
theorem lit_emp : Str.ofString "" = tx [] := by decide +kernel
theorem lit_sl : Str.ofString "/" = tx [47] := by decide +kernel
theorem lit_bl : Str.ofString " " = tx [32] := by decide +kernel
theorem lit_nl : Str.ofString "\n" = tx [10] := by decide +kernel
theorem lit_none : Str.ofString "none" = tx [110, 111, 110, 101] := by decide +kernel
theorem lit_bnone : Str.ofString " none" = tx [32, 110, 111, 110, 101] := by decide +kernel
theorem lit_fig : Str.ofString "0123456789" = tx [48, 49, 50, 51, 52, 53, 54, 55, 56, 57] := by decide +kernel
/-! cut -/
theorem cut_to (l : List Nat) (i : Nat) : L2.cutS (tx l) none (some (i : Int)) = tx (l.take i) := by
  have : L2.cutS (SX.S l) none (some (i : Int)) = SX.S (l.take (i : Int).toNat) := by
    rw [C8.cutS_slice]
    exact SX.slice_to (by omega)
  exact this
theorem cut_from (l : List Nat) (i : Nat) : L2.cutS (tx l) (some (i : Int)) none = tx (l.drop i) := by
  have : L2.cutS (SX.S l) (some (i : Int)) none = SX.S (l.drop (i : Int).toNat) := by
    rw [C8.cutS_slice]
    exact SX.slice_from (by omega)
  exact this
theorem split_tx {a : List Nat} {c : Nat} (hc : c < 256) : PySem.Txt.split (tx a) (tx [c]) = (TL.spl [c] 0 [] a).map tx := SX.split_S (by simp) (by simp [hc])
theorem join_tx {c : List Nat} (ys : List (List Nat)) : Str.join (tx c) (ys.map tx) = tx (TL.joinL c ys) := by
  have := SX.join_S c ys
  rw [TL.join_eq] at this
  exact this
theorem part_tx {a p q : List Nat} {c : Nat} (h : TL.par [c] [] a = some (p, q)) : PySem.Txt.partition (tx a) (tx [c]) = (tx p, tx [c], tx q) := SX.partition_some (by simp) h
theorem part_tx_none {a : List Nat} {c : Nat} (h : TL.par [c] [] a = none) : PySem.Txt.partition (tx a) (tx [c]) = (tx a, tx [], tx []) := SX.partition_none (by simp) h
end Rw
end PRwOkT
section PRwTxt
set_option autoImplicit false
set_option linter.all false
set_option maxHeartbeats 1000000
/-! RwTxt: plain mathematics of whole numbers as texts. -/
namespace Rw
open PySem (Str)
def isFig (c : Nat) : Bool := decide (48 ≤ c) && decide (c ≤ 57)
/-- behind the sign -/
def figs (l : List Nat) : List Nat := if l.take 1 = [45] then l.drop 1 else l
/-- a whole number's text of at most so many figures -/
def wholeOk (l : List Nat) (most : Int) : Prop := (0 < (figs l).length ∧ ((figs l).length : Int) ≤ most) ∧ (∀ c ∈ figs l, isFig c = true) ∧ ((figs l)[0]? ≠ some 48 ∨ l = [48])
instance (l : List Nat) (most : Int) : Decidable (wholeOk l most) := by unfold wholeOk; infer_instance
def valN (l : List Nat) : Nat := PySem.NumText.digitsVal l
def wholeV (l : List Nat) : Int := if l.take 1 = [45] then -(valN (figs l) : Int) else (valN (figs l) : Int)
/-- the whole number that a text writes -/
def wholeZ (l : List Nat) (most : Int) : Option Int := if wholeOk l most then some (wholeV l) else none
theorem allDig_of {l : List Nat} (h : ∀ c ∈ l, isFig c = true) : PySem.NumText.AllDigits l := fun c hc => by
  have := h c hc
  simp [isFig] at this
  exact this
theorem intText_whole {l : List Nat} {most : Int} (h : wholeOk l most) (hm : most ≤ 600) : PySem.intText? (tx l) = some (wholeV l) := by
  obtain ⟨⟨h1, h2⟩, h3, _⟩ := h
  unfold wholeV
  have hd := allDig_of h3
  unfold figs at h1 h2 h3 hd ⊢
  split
  · rename_i q
    rw [if_pos q] at h1 h2 h3 hd
    cases l with
    | nil => simp at q
    | cons c r =>
      simp at q
      subst q
      simp at h1 h2 h3 hd ⊢
      exact PySem.intText_neg (x := tx (45 :: r)) (cs := r) rfl hd (by intro e; subst e; simp at h1) (by simp; omega)
  · rename_i q
    rw [if_neg q] at h1 h2 h3 hd
    exact PySem.intText_digits (x := tx l) hd (by intro e; simp at e; subst e; simp at h1) (by simp; omega)
theorem numL_head (n : Nat) : 0 < n → (TL.numL n)[0]? ≠ some 48 := by
  induction n using Nat.strongRecOn with
  | _ n ih =>
    intro h
    by_cases h10 : n < 10
    · rw [TL.numL_lt h10]
      simp
      omega
    · rw [TL.numL_step (by omega)]
      have := ih (n / 10) (by omega) (by omega)
      rw [List.getElem?_append_left (by have := TL.numL_ne (n / 10); cases e : TL.numL (n / 10) with | nil => exact absurd e this | cons a b => simp)]
      exact this
theorem numL_fig (n : Nat) : ∀ c ∈ TL.numL n, isFig c = true := fun c hc => by
  have := TL.numL_digits n c hc
  simp [isFig]
  exact this
theorem numL_pos (n : Nat) : 0 < (TL.numL n).length := by
  have := TL.numL_ne n
  cases e : TL.numL n with
  | nil => exact absurd e this
  | cons a b => simp
theorem numL_take (n : Nat) : (TL.numL n).take 1 ≠ [45] := by
  have := TL.numL_digits n
  cases e : TL.numL n with
  | nil => simp
  | cons a b =>
    have := this a (by rw [e]; simp)
    simp
    omega
theorem decZ_nn {i : Int} (h : 0 ≤ i) : decZ i = TL.numL i.toNat := by unfold decZ; rw [if_neg (by omega)]
theorem decZ_neg {i : Int} (h : i < 0) : decZ i = 45 :: TL.numL (-i).toNat := by unfold decZ; rw [if_pos h]
theorem decZ_cast (n : Nat) : decZ (n : Int) = TL.numL n := by rw [decZ_nn (by omega)]; rfl
theorem figs_dec (i : Int) : figs (decZ i) = TL.numL i.natAbs := by
  by_cases h : i < 0
  · rw [decZ_neg h]
    unfold figs
    rw [if_pos (by simp)]
    simp
    congr 1
    omega
  · rw [decZ_nn (by omega)]
    unfold figs
    rw [if_neg (numL_take _)]
    congr 1
    omega
theorem dec_len {i : Int} {k : Nat} (hk : 0 < k) (h : i.natAbs < 10 ^ k) : (figs (decZ i)).length ≤ k := by
  rw [figs_dec]
  exact TL.numL_len hk h
theorem dec_len1 {i : Int} {k : Nat} (hk : 0 < k) (h : i.natAbs < 10 ^ k) : (decZ i).length ≤ k + 1 := by
  by_cases hn : i < 0
  · rw [decZ_neg hn]
    have := TL.numL_len hk (show (-i).toNat < 10 ^ k by rw [show (-i).toNat = i.natAbs by omega]; exact h)
    simp
    omega
  · rw [decZ_nn (by omega)]
    have := TL.numL_len hk (show i.toNat < 10 ^ k by rw [show i.toNat = i.natAbs by omega]; exact h)
    omega
theorem wholeOk_dec {i : Int} {k : Nat} (hk : 0 < k) (h : i.natAbs < 10 ^ k) : wholeOk (decZ i) k := by
  refine ⟨⟨?_, ?_⟩, ?_, ?_⟩
  · rw [figs_dec]; exact numL_pos _
  · have := dec_len hk h; omega
  · rw [figs_dec]; exact numL_fig _
  · by_cases h0 : i = 0
    · subst h0
      right
      decide +kernel
    · left
      rw [figs_dec]
      exact numL_head _ (by omega)
theorem wholeV_dec (i : Int) : wholeV (decZ i) = i := by
  unfold wholeV
  rw [figs_dec]
  have hv : valN (TL.numL i.natAbs) = i.natAbs := TL.numL_val _
  rw [hv]
  by_cases h : i < 0
  · rw [if_pos (by rw [decZ_neg h]; simp)]
    omega
  · rw [if_neg (by rw [decZ_nn (by omega)]; exact numL_take _)]
    omega
theorem wholeZ_dec {i : Int} {k : Nat} (hk : 0 < k) (h : i.natAbs < 10 ^ k) : wholeZ (decZ i) k = some i := by
  unfold wholeZ
  rw [if_pos (wholeOk_dec hk h), wholeV_dec]
/-- the signs of a whole number's text -/
theorem dec_signs (i : Int) : ∀ c ∈ decZ i, c = 45 ∨ isFig c = true := fun c hc => by
  by_cases h : i < 0
  · rw [decZ_neg h] at hc
    rcases List.mem_cons.mp hc with e | e
    · exact .inl e
    · exact .inr (numL_fig _ c e)
  · rw [decZ_nn (by omega)] at hc
    exact .inr (numL_fig _ c hc)
theorem dec_free {i : Int} {s : Nat} (h1 : s ≠ 45) (h2 : isFig s = false) : s ∉ decZ i := fun hm => by
  rcases dec_signs i s hm with e | e
  · exact h1 e
  · rw [h2] at e; cases e
theorem dec_ne (i : Int) : decZ i ≠ [] := by
  by_cases h : i < 0
  · rw [decZ_neg h]; simp
  · rw [decZ_nn (by omega)]; exact TL.numL_ne _
theorem dec_inj {i j : Int} (h : decZ i = decZ j) : i = j := by rw [← wholeV_dec i, h, wholeV_dec]
theorem dec_fine (i : Int) : strFine (tx (decZ i)) = true := strFine_tx fun c hc => by
  rcases dec_signs i c hc with e | e
  · omega
  · simp [isFig] at e; omega
/-- fractions -/
def fracL (a b : Int) : List Nat := if b = 1 then decZ a else decZ a ++ 47 :: decZ b
theorem fracL_fine (a b : Int) : ∀ c ∈ fracL a b, c = 47 ∨ c = 45 ∨ isFig c = true := fun c hc => by
  unfold fracL at hc
  split at hc
  · exact .inr (dec_signs a c hc)
  · rcases List.mem_append.mp hc with e | e
    · exact .inr (dec_signs a c e)
    · rcases List.mem_cons.mp e with e | e
      · exact .inl e
      · exact .inr (dec_signs b c e)
theorem frac_free {a b : Int} {s : Nat} (h1 : s ≠ 45) (h2 : isFig s = false) (h3 : s ≠ 47) : s ∉ fracL a b := fun hm => by
  rcases fracL_fine a b s hm with e | e | e
  · exact h3 e
  · exact h1 e
  · rw [h2] at e; cases e
theorem frac_ne (a b : Int) : fracL a b ≠ [] := by
  unfold fracL
  split
  · exact dec_ne a
  · simp
theorem par_dec (a : Int) : TL.par [47] [] (decZ a) = none := TL.par_none1 (dec_free (by decide) (by decide))
theorem par_frac (a b : Int) : TL.par [47] [] (decZ a ++ 47 :: decZ b) = some (decZ a, decZ b) := by
  have := SX.par_head (c := 47) (sep := []) (p := decZ a) (decZ b) (dec_free (by decide) (by decide))
  simpa using this
theorem spl_join1 {c : Nat} {parts : List (List Nat)} (hne : parts ≠ []) (h : ∀ p ∈ parts, c ∉ p) : TL.spl [c] 0 [] (TL.joinL [c] parts) = parts := SX.spl_join hne h
theorem ix_tx {M : DSt} {l : List Nat} {k c : Nat} (h : l[k]? = some c) (hl : l.length ≤ big) : oIx (.d (.str (tx l))) (.d (.int (k : Int))) M = some (.d (.str (tx [c])), M) := by
  have hk : k < l.length := (List.getElem?_eq_some_iff.mp h).1
  have e : ixD l.length (k : Int) = some k := by
    unfold ixD
    rw [if_pos (by omega), if_pos (by omega)]
    simp
  show grd ((tx l).length ≤ big) (match ixD (tx l).cps.toList.length (k : Int) with
      | some k => match (tx l).cps.toList[k]? with
        | some z => some (Dv.d (.str ⟨#[z]⟩), M)
        | none => none
      | none => none) = _
  rw [grd_ok (by rw [tx_len]; exact hl)]
  simp only [tx_cps, e, h]
  rfl
theorem fine_low {l : List Nat} (h : ∀ c ∈ l, c < 128) : strFine (tx l) = true := strFine_tx fun c hc => by have := h c hc; omega
/-- == of texts -/
theorem oEq_tx {M : DSt} {a b : List Nat} (ha : ∀ c ∈ a, c < 128) (hb : ∀ c ∈ b, c < 128) : oEq (.d (.str (tx a))) (.d (.str (tx b))) M = some (.d (.bl (decide (a = b))), M) := by
  simp [oEq, dv, D.shp, fine_low ha, fine_low hb, D.eqv, grd_ok]
theorem oNe_tx {M : DSt} {a b : List Nat} (ha : ∀ c ∈ a, c < 128) (hb : ∀ c ∈ b, c < 128) : oNe (.d (.str (tx a))) (.d (.str (tx b))) M = some (.d (.bl (!decide (a = b))), M) := by
  simp [oNe, dv, D.shp, fine_low ha, fine_low hb, D.eqv, grd_ok]
theorem dec_low (i : Int) : ∀ c ∈ decZ i, c < 128 := fun c hc => by
  rcases dec_signs i c hc with e | e
  · omega
  · simp [isFig] at e; omega
theorem frac_low (a b : Int) : ∀ c ∈ fracL a b, c < 128 := fun c hc => by
  rcases fracL_fine a b c hc with e | e | e
  · omega
  · omega
  · simp [isFig] at e; omega
end Rw
end PRwTxt
section PRwSemC
set_option autoImplicit false
set_option linter.all false
/-! RwSemC: raising inside a display, an argument of append, a list comprehension. -/
namespace Rw
open PySem (Str)
noncomputable section
/-- first a, then x raises -/
def xThen (a : DE) (x : DX) : DX := fun ρ M => match a ρ M with
  | some (_, M1) => x ρ M1
  | none => none
def xApp (o : DE) (x : DX) : DX := fun ρ M => match o ρ M with
  | some (.c _, M1) => x ρ M1
  | _ => none
def xCompL (chk : DSt → Prop) (step : D → DSt → Option (Option D × DSt)) (xs : D → DSt → Option (String × DSt)) : List D → DSt → Option (String × DSt)
  | [], _ => none
  | x :: r, M => grd (chk M) (match xs x M with
    | some q => some q
    | none => match step x M with
      | some (_, M1) => xCompL chk step xs r M1
      | none => none)
def xCompStep (tg : Tgt) (x : DX) (ρ : DEnv) (y : D) (M : DSt) : Option (String × DSt) := match tg.put (.d y) ρ with
  | some ρ1 => match x ρ1 M with
    | some (c, _, M1) => some (c, M1)
    | none => none
  | none => none
def xLc (it : DI) (tg : Tgt) (el : DE) (x : DX) (own : List Nat) : DX := fun ρ M => match it ρ M with
  | some (xs, src, M1) => grd (xs.length ≤ big) (match xCompL (stand src M1) (compStep tg tYes el (wipeD ρ own)) (xCompStep tg x (wipeD ρ own)) xs M1 with
    | some (c, M2) => some (c, ρ, M2)
    | none => none)
  | none => none
end
end Rw
end PRwSemC
section PRwOkC
set_option linter.all false
/-! RwOkC: rules for RwSemC. -/
namespace Rw
theorem xthen_eq {a : DE} {x : DX} {ρ : DEnv} {M M1 : DSt} {v : Dv} (h : Ok (a ρ M) fun p => p = (v, M1)) : xThen a x ρ M = x ρ M1 := by
  obtain ⟨p, e, rfl⟩ := h
  unfold xThen
  rw [e]
theorem xapp_eq {a : DE} {x : DX} {ρ : DEnv} {M M1 : DSt} {n : Nat} (h : Ok (a ρ M) fun p => p = (.c n, M1)) : xApp a x ρ M = x ρ M1 := by
  obtain ⟨p, e, rfl⟩ := h
  unfold xApp
  rw [e]
/-- a guard that raises, and what is behind it -/
theorem xguard {A : DA} {B : DX} {xf : FX} {ff : DF} {c : String} {b : Bool} {ρ : DEnv} {M : DSt} (hA : Ok (A ρ M) fun p => p = ([.d (.bl b)], M))
    (h1 : xf [.d (.bl true)] M = none) (h2 : xf [.d (.bl false)] M = some (c, M)) (h3 : ff [.d (.bl true)] M = some (.d .non, M)) :
    xAlt (xCall xf A) (xSeq (dExpr (eCall ff A)) B) ρ M = if b = true then B ρ M else some (c, ρ, M) := by
  cases b
  · rw [xalt_some (r := (c, ρ, M)) (by rw [xcall_eq hA, h2]; rfl)]
    rfl
  · rw [xalt_none (by rw [xcall_eq hA, h1]; rfl)]
    obtain ⟨p, e, rfl⟩ := hA
    unfold xSeq dExpr eCall eA
    rw [e]
    simp only [h3]
    rfl
theorem xguard1 {A : DA} {xf : FX} {c : String} {b : Bool} {ρ : DEnv} {M : DSt} (hA : Ok (A ρ M) fun p => p = ([.d (.bl b)], M))
    (h1 : xf [.d (.bl true)] M = none) (h2 : xf [.d (.bl false)] M = some (c, M)) : xCall xf A ρ M = if b = true then none else some (c, ρ, M) := by
  cases b
  · rw [xcall_eq hA, h2]; rfl
  · rw [xcall_eq hA, h1]; rfl
/-- a loop whose body raises or does nothing -/
theorem xForL_by {chk : DSt → Prop} {step : D → DEnv → DSt → Option Out} {xs : D → DX} {good : D → Prop} {c : String} {M : DSt} {ρ : DEnv} (hc : chk M) [DecidablePred good]
    (hg : ∀ x, good x → xs x ρ M = none ∧ step x ρ M = some (.nx ρ M)) (hb : ∀ x, ¬ good x → ∃ ρ', xs x ρ M = some (c, ρ', M)) :
    ∀ l : List D, ∃ ρ', xForL chk step xs l ρ M = if ∀ x ∈ l, good x then none else some (c, ρ', M)
  | [] => ⟨ρ, by simp [xForL]⟩
  | x :: r => by
    by_cases h : good x
    · obtain ⟨ρ', e⟩ := xForL_by hc hg hb r
      refine ⟨ρ', ?_⟩
      unfold xForL
      rw [grd_ok hc, (hg x h).1, (hg x h).2]
      simp only [e]
      simp [h]
    · obtain ⟨ρ', e⟩ := hb x h
      refine ⟨ρ', ?_⟩
      unfold xForL
      rw [grd_ok hc, e]
      simp [h]
/-- a comprehension whose element raises or is a value -/
theorem xCompL_by {chk : DSt → Prop} {step : D → DSt → Option (Option D × DSt)} {xs : D → DSt → Option (String × DSt)} {good : D → Prop} {c : String} {M : DSt} (hc : chk M) [DecidablePred good]
    (hg : ∀ x, good x → xs x M = none ∧ ∃ o, step x M = some (o, M)) (hb : ∀ x, ¬ good x → xs x M = some (c, M)) :
    ∀ l : List D, xCompL chk step xs l M = if ∀ x ∈ l, good x then none else some (c, M)
  | [] => by simp [xCompL]
  | x :: r => by
    by_cases h : good x
    · unfold xCompL
      obtain ⟨h1, o, h2⟩ := hg x h
      rw [grd_ok hc, h1, h2]
      simp only [xCompL_by hc hg hb r]
      simp [h]
    · unfold xCompL
      rw [grd_ok hc, hb x h]
      simp [h]
end Rw
end PRwOkC
section PRwComX
set_option Elab.async false
set_option linter.all false
set_option maxRecDepth 100000
set_option maxHeartbeats 2000000
/-! RwComX: a list comprehension whose element raises (after the kit's lc_core and GoesRaise). -/
namespace Rw
open PySem L2 PySem.Spec PyProof.Rows
/-- the context of a block, an exception going on in the def's own frame -/
abbrev blkX (X : Cx) (s : Shared) (H : Hp) (scope : Scope) (cenv : Env) (fp : List Addr) : Cx :=
  (X.blk s H scope cenv fp).tr [] (notedBy (model X.prog X.w) X.A cenv (PySem.CompFails (model X.prog X.w) X.A X.xe cenv))
theorem traced_but {B B' h h' : Heap} {a C : Addr} {Z : Obj → Prop} {fl : Value} {m : Str → Option Value} (ht : HandSPX.TracedZ h B a Z fl) (hB : ∀ b, B.get? b = none → B'.get? b = none) (hs : Heap.SameBut C h h') (hn : h.Ns C m) : HandSPX.TracedZ h' B' a Z fl := by
  obtain ⟨oe, vs, T, oT, ts, he, hz, hd, h1, hT0, hTe, hT, hdT, h3⟩ := ht
  obtain ⟨oL, es, ep, hoL, hdL, r⟩ := hn
  have ne : ∀ b o vs, h.get? b = some o → o.data = .fields vs → b ≠ C := fun b o vs e hd q => by
    rw [q, hoL] at e
    cases e
    rw [hdL] at hd
    cases hd
  exact ⟨oe, vs, T, oT, ts, (hs.2 _ (ne _ _ _ he hd)).trans he, hz, hd, h1, hB _ hT0, hTe, (hs.2 _ (ne _ _ _ hT hdT)).trans hT, hdT, h3⟩
/-- a call's exception, as it stands in the air -/
theorem of_callF {X : Cx} {pins : List (Addr × Obj)} {σ : L2.St} {H : Hp} {s s' : Shared} {E : XK} (I : Inv X pins σ H s) {u : Value} (c : L2.CX X.prog X.w X.stack H s E u s') :
    ∃ (a : Addr) (B : Heap) (sI : Shared) (H' : Hp) (cls : Value) (d : Option Addr), u = .ref a ∧ Inv X pins σ H' sI ∧ (∀ b o, sI.heap.get? b = some o → b ∉ frs X.stack → B.get? b = some o) ∧ sI.heap.UpToSlots s'.heap ∧
      HandSPX.FlyingZ B X.stack a (Zc cls d) s'.heap ∧ H' a = none ∧ s'.os = sI.os ∧ AllBare s'.gens ∧ sI.gens = s'.gens ∧ E cls d H' := by
  obtain ⟨a, B, H', cls, d, rfl, fl, hok, ub, na, os, ag, hE⟩ := c
  obtain ⟨G, g1, g2⟩ := restrict s'.heap fun b => (B.get? b).isSome || decide (b ∈ frs X.stack)
  have st : B.StaysIn s'.heap := fl.1
  have gB : ∀ b o, B.get? b = some o → G.get? b = some o := fun b o e => by
    rw [g1 b (by simp [e])]
    exact st b o e
  have gF : ∀ b, b ∈ frs X.stack → G.get? b = s'.heap.get? b := fun b hb => g1 b (by simp [hb])
  have og : ∀ b o, G.get? b = some o → s'.heap.get? b = some o ∧ ((B.get? b).isSome = true ∨ b ∈ frs X.stack) := fun b o e => by
    cases q : ((B.get? b).isSome || decide (b ∈ frs X.stack)) with
    | false => rw [g2 b q] at e; cases e
    | true =>
      rw [g1 b q] at e
      exact ⟨e, by simpa [Bool.or_eq_true] using q⟩
  refine ⟨a, B, { s with heap := G, gens := s'.gens, drawn := s'.drawn, toks := s'.toks }, H', cls, d, rfl, ?_, fun b o e hb => ?_, Heap.UpToSlots.of_keeps fun b o e => (og b o e).1, fl, na, os, ag, rfl, hE⟩
  · refine I.call (ch := []) ⟨fun b o e n hb _ => gB b o (ub.keep b o e n hb), fun b o e n hb _ => ?_, fun b o e n _ => ub.free b o e n, fun b o e _ => ?_, ub.tups, ub.frzs, ub.tbls⟩ (hok.kept gB) ag (fun _ z => nomatch z)
    · obtain ⟨sl, q⟩ := ub.slot b o e hb
      exact ⟨sl, by rw [gF b hb]; exact q⟩
    · by_cases hb : b ∈ frs X.stack
      · obtain ⟨sl, q⟩ := ub.slot b o e hb
        exact ⟨_, by rw [gF b hb]; exact q⟩
      · obtain ⟨o', q⟩ := ub.there b o e hb
        exact ⟨o', gB b o' q⟩
  · obtain ⟨e', h⟩ := og b o e
    rcases h with h | h
    · obtain ⟨o', q⟩ := Option.isSome_iff_exists.mp h
      have z := st b o' q
      rw [e'] at z; cases z
      exact q
    · exact absurd h hb
/-- an exception out of a call in a block goes on in the def -/
theorem passes_blk {X : Cx} {W : WX} {pins : List (Addr × Obj)} {σ σ' : L2.St} {H3 : Hp} {s3 : Shared} {scope : Scope} {cl : List (Str × Addr)} {fp : List Addr} (tk : Takes X W) (I3 : Inv X pins σ H3 s3)
    (hs : X.stack = X.env :: X.outer) (hf : X.env.frame = some X.env.locals) (f3 : ∀ b ∈ fp, FpOk X pins H3 b ∧ b < s3.heap.objs.size) :
    PassesAt (L2.CX X.prog X.w) (blkX X s3 H3 scope (compEnvC scope cl s3.heap.objs.size X.env) fp) σ' (WE W σ) := by
  intro pins' H9 s9 u s' I9 c
  obtain ⟨a, B, sI, H1, cls, d, rfl, I1, nb, up, fl, na, os, ag, hg, w⟩ := of_callF I9 c
  have nC : H1 s3.heap.objs.size = none := I1.free
  have Ix : Inv X pins σ H1 sI := I3.call' (ch := fp) I1.os I1.base I1.hok I1.bare fun b hb => ⟨(f3 b hb).1.2.2.2.1, (f3 b hb).1.2.1, (f3 b hb).1.2.2.2.2.1, (f3 b hb).1.2.2.2.2.2⟩
  have fC := I3.fpOk (Nat.le_refl _) nC
  have hfr : X.A.frames = some (X.env :: X.outer) := by rw [I3.ok.frames, hs]
  obtain ⟨m, hnI, _⟩ := I1.loc
  have hnI : sI.heap.Ns s3.heap.objs.size m := hnI
  show notedBy (model X.prog X.w) X.A (compEnvC scope cl s3.heap.objs.size X.env) (PySem.CompFails (model X.prog X.w) X.A X.xe (compEnvC scope cl s3.heap.objs.size X.env)) (.ref a) s'
  show wpAny _ X.A (noteFrame (.ref a) (compEnvC scope cl s3.heap.objs.size X.env)) _ _ s'
  rw [PySem.noteFrame_env _ (show (compEnvC scope cl s3.heap.objs.size X.env).frame = X.env.frame from rfl)]
  have fl : HandSPX.FlyingZ B X.stack a (Zc cls d) s'.heap := fl
  rw [hs] at fl
  refine HandSPX.looks_onZ Zc.steady hfr hf fl fun h' hH hk => ?_
  have hn' : h'.Ns s3.heap.objs.size m := (hnI.upToSlots up).upToSlots hk
  refine ⟨m, hn', fun h₂ m₂ hn₂ hs₂ => ?_⟩
  -- the ground without the block
  obtain ⟨B', b1, b2⟩ := restrict B fun b => decide (b ≠ s3.heap.objs.size)
  have bB : ∀ b o, B'.get? b = some o → B.get? b = some o ∧ b ≠ s3.heap.objs.size := fun b o e => by
    by_cases q : b = s3.heap.objs.size
    · rw [b2 b (by simp [q])] at e; cases e
    · rw [b1 b (by simp [q])] at e
      exact ⟨e, q⟩
  have bN : ∀ b, B.get? b = none → B'.get? b = none := fun b e => by
    cases q : B'.get? b with
    | none => rfl
    | some o => rw [(bB b o q).1] at e; cases e
  obtain ⟨k1, k2, k3, k4⟩ := hH
  have s2 : B'.StaysIn h₂ := fun b o e => (hs₂.2 b (bB b o e).2).trans (k1 b o (bB b o e).1)
  have f2 : h₂.FunFrames B' (X.env :: X.outer) := funFrames_none (Heap.FunFrames.sameBut hs₂ hn₂ k3) fun L hL => by
    refine bN L ?_
    exact (Heap.FunFrames.mem k3 hL).1
  have t2 := traced_but k4 bN hs₂ hn'
  have t2' := t2
  obtain ⟨oe, vs, T, oT, ts, he, hz, hd, h1, _⟩ := t2'
  unfold PySem.passOn
  refine wpAny_bind (wpAny_field he hd h1 ?_)
  rw [if_neg (show ¬ ((Value.ref T == Value.none) = true) from by simp)]
  rw [show (compEnvC scope cl s3.heap.objs.size X.env).frame = some X.env.locals from hf]
  refine wpAny_bind (HandSPX.setFlight_onZ ⟨s2, bN a k2, f2, t2⟩ fun h₃ hh3 up3 => ?_)
  refine wpAny_throw ?_
  -- the state without the exception and without the block
  obtain ⟨G, g1, g2⟩ := restrict sI.heap fun b => decide (b ≠ s3.heap.objs.size)
  have gG : ∀ b o, G.get? b = some o → sI.heap.get? b = some o ∧ b ≠ s3.heap.objs.size := fun b o e => by
    by_cases q : b = s3.heap.objs.size
    · rw [g2 b (by simp [q])] at e; cases e
    · rw [g1 b (by simp [q])] at e
      exact ⟨e, q⟩
  obtain ⟨q0, q1, q2, q3, q4, q5⟩ := fC
  refine tk _ _ ⟨a, B', { sI with heap := G }, pins, σ, H1, cls, d, rfl, Ix.turned (t' := sI.toks) (fun b o hb e => by rw [g1 b (by simp [hb])]; exact e) q0 q1 q3 q4 q5, fun b o e hb => ?_, fun b o e hnf => ?_, .inr (.inr ?_), na, os, ag, w⟩
  · rw [b1 b (by simp [(gG b o e).2])]
    exact nb b o (gG b o e).1 hb
  · obtain ⟨e1, e2⟩ := gG b o e
    obtain ⟨sl, e3⟩ := up b o e1 hnf
    obtain ⟨sl2, e4⟩ := hk b _ e3 hnf
    have e5 : h₂.get? b = some { o with slots := sl2 } := (hs₂.2 b e2).trans e4
    obtain ⟨sl3, e6⟩ := up3 b _ e5 hnf
    exact ⟨sl3, e6⟩
  · rw [hs]
    exact hh3

theorem thnE {α : Type} {t : Sem α} {M : Model} {A : Around} {Q Q' : α → Shared → Prop} {E E' : Value → Shared → Prop} {s : Shared} (h : wpAny M A t Q E s) (hE : ∀ e s, E e s → E' e s) (hQ : ∀ a s, Q a s → Q' a s) : wpAny M A t Q' E' s := wpAny_mono h hQ hE
section
variable {X : Cx}
theorem lc_coreX {W : WX} {pins : List (Addr × Obj)} {s : Shared} {σ : L2.St} {H : Hp} {Q : VK} {elt tg iter : Expr} {scope : Scope} {own : List (Str × Nat)} {pos pos' : Pos} {wi : TI} {g : TG} {te : XK → TE} {use : Option (Value → Sem Unit)} {Qf : Value → Shared → Prop}
    (tk : Takes X W) (hst : X.stack = X.env :: X.outer) (hfm : X.env.frame = some X.env.locals)
    (hc : X.calm = true) (hN : X.N.Nodup) (I : Inv X pins σ H s) (hi : PI X tg iter wi) (ok : BlkOk X.N X.env.scope scope own)
    (hg : ∀ (s : Shared) (H : Hp) (C : Addr) (cl : List (Str × Addr)) (fp : List Addr), PG (blkX X s H scope (compEnvC scope cl C X.env) fp) tg g)
    (he : ∀ (s : Shared) (H : Hp) (C : Addr) (cl : List (Str × Addr)) (fp : List Addr), (∀ σ', PassesAt (L2.CX X.prog X.w) (blkX X s H scope (compEnvC scope cl C X.env) fp) σ' (WE W σ)) → PE (blkX X s H scope (compEnvC scope cl C X.env) fp) elt (te (WE W σ))) (hs : ∀ x, foldedSetIterable iter X.env x = pure x)
    (h : tLc wi g L2.tYes (te (WE W σ)) (own.map (·.2)) σ H Q)
    (hRR : ∀ D C cl s' m H', Inv X pins σ H' s' → Q (.ref D) H' → s'.heap.Ns C m → FpOk X pins H' C → compEnds (model X.prog X.w) X.A X.xe use Qf (.ref D) (compEnvC scope cl C X.env) (.ok .next) s') :
    wpAny (model X.prog X.w) X.A (comprehension (.ListComp elt [⟨tg, iter, [], 0⟩] scope pos) scope X.env pos' (newList []) false (eval iter X.env) use) Qf X.xe s := by
  have hfree : ∀ y ∈ scope.names, y.2 = .free → ∃ c, X.env.cells.lookup y.1 = some c := fun y hy e => by
    rcases ok.free y hy e with k | k
    · exact I.ok.has _ (.inl k)
    · exact I.ok.has _ (.inr k)
  refine comprehension_at (use := use) rfl hs (closure_ok hfree) ok.kind (fun y hy e => by rw [ok.uniq y hy, e])
    (thn (hi.run pins s σ H _ I h) fun xv s1 hx => thn hx fun itv s2 h2 => ?_)
  obtain ⟨it, fp, tn, J, H2, e, I2, T, st2, f2, q⟩ := h2
  subst e
  refine wpAny_newObj_type (newEnv_comp ?_) (by show 0 ≤ sizeLine; decide)
  generalize hD : s2.heap.objs.size = D
  have hDn : H2 D = none := I2.hok.fresh (Nat.le_of_eq hD)
  obtain ⟨Wk, ⟨m0, w0⟩, turn⟩ := q D hDn
  generalize hs3 : ({ s2 with heap := s2.heap.push { cls := .type "list", data := .seq ([] : List Value).toArray } } : Shared) = s3
  have I3 : Inv X pins σ (upd H2 D (.lst [])) s3 := by
    rw [← hs3]
    refine I2.laid (t' := s2.toks) (fun b o e => Heap.get?_push_of_some _ e) (Nat.le_of_eq hD) ⟨Nat.zero_le _, [], 0, .nil, ?_⟩
    rw [← hD]
    exact Heap.get?_push_size _ rfl
  have h3 : s3.heap = s2.heap.push { cls := .type "list", data := .seq ([] : List Value).toArray } := by rw [← hs3]
  have sz : ∀ b ∈ fp, b < s2.heap.objs.size := fun b hb => by
    obtain ⟨o, e, _⟩ := T.obj _ _ st2 b hb
    exact Heap.lt_size e
  have f3 : ∀ b ∈ fp, FpOk X pins (upd H2 D (.lst [])) b ∧ b < s3.heap.objs.size := fun b hb => by
    have hlt := sz b hb
    refine ⟨⟨?_, (f2 b hb).2⟩, by rw [h3, Heap.size_push]; exact Nat.lt_succ_of_lt hlt⟩
    rw [upd_ne (by rw [← hD]; exact Nat.ne_of_lt hlt)]
    exact (f2 b hb).1
  have st3 : tn 0 s3.heap := T.keep _ _ _ st2 fun b _ o e => by rw [h3]; exact Heap.get?_push_of_some _ e
  have pas := passes_blk (σ' := σ) (scope := scope) (cl := cellsFrom (s3.heap.objs.size + 1) scope.names (cloFrom X.env.cells scope.names [])) (fp := fp) tk I3 hst hfm f3
  have pas : ∀ σ', PassesAt (L2.CX X.prog X.w) (blkX X s3 (upd H2 D (.lst [])) scope (compEnvC scope (cellsFrom (s3.heap.objs.size + 1) scope.names (cloFrom X.env.cells scope.names [])) s3.heap.objs.size X.env) fp) σ' (WE W σ) :=
    fun σ' => passes_blk (σ' := σ') tk I3 hst hfm f3
  have I4 := (block_start I3 ok hN f3).toTry (notedBy (model X.prog X.w) X.A (compEnvC scope (cellsFrom (s3.heap.objs.size + 1) scope.names (cloFrom X.env.cells scope.names [])) s3.heap.objs.size X.env) (PySem.CompFails (model X.prog X.w) X.A X.xe (compEnvC scope (cellsFrom (s3.heap.objs.size + 1) scope.names (cloFrom X.env.cells scope.names [])) s3.heap.objs.size X.env)))
  have pg := hg s3 (upd H2 D (.lst [])) s3.heap.objs.size (cellsFrom (s3.heap.objs.size + 1) scope.names (cloFrom X.env.cells scope.names [])) fp
  have pe := he s3 (upd H2 D (.lst [])) s3.heap.objs.size (cellsFrom (s3.heap.objs.size + 1) scope.names (cloFrom X.env.cells scope.names [])) fp pas
  show codeAny _ _ (.compStart (.ListComp elt [⟨tg, iter, [], 0⟩] scope pos) 0 (.ref it) (.ref D) (compEnvC scope (cellsFrom (s3.heap.objs.size + 1) scope.names (cloFrom X.env.cells scope.names [])) s3.heap.objs.size X.env)) (compEnds (model X.prog X.w) X.A X.xe use Qf (.ref D) (compEnvC scope (cellsFrom (s3.heap.objs.size + 1) scope.names (cloFrom X.env.cells scope.names [])) s3.heap.objs.size X.env)) { s3 with heap := pushCells (s3.heap.push { cls := .type "dict", data := .dict #[] }) scope.names }
  have nfp : ∀ b ∈ fp, (upd H2 D (.lst [])) b = none := fun b hb => (f3 b hb).1.1
  have hRR' := fun s' m H' => hRR D s3.heap.objs.size (cellsFrom (s3.heap.objs.size + 1) scope.names (cloFrom X.env.cells scope.names [])) s' m H'
  clear pas
  generalize hce : compEnvC scope (cellsFrom (s3.heap.objs.size + 1) scope.names (cloFrom X.env.cells scope.names [])) s3.heap.objs.size X.env = ce at I4 pg pe hRR' ⊢
  have cL : ce.locals = s3.heap.objs.size := by subst hce; rfl
  generalize hH3 : upd H2 D (.lst []) = H3 at I3 I4 pg pe w0 nfp f3
  generalize hs4 : ({ s3 with heap := pushCells (s3.heap.push { cls := .type "dict", data := .dict #[] }) scope.names } : Shared) = s4 at I4 ⊢
  have I4 : Inv (blkX X s3 H3 scope ce fp) [] (wipe σ (own.map (·.2))) H3 s4 := I4
  have st4 : tn 0 s4.heap := T.keep _ _ _ st3 fun b _ o e => by rw [← hs4]; exact pushCells_keeps _ _ _ _ (Heap.get?_push_of_some _ e)
  have stat : ∀ {σ' : L2.St} {H' : Hp} {s' : Shared}, Inv (blkX X s3 H3 scope ce fp) [] σ' H' s' → (∀ b ∈ fp, H' b = none) → ∀ b ∈ fp, FpOk (blkX X s3 H3 scope ce fp) [] H' b := fun {σ' H' s'} I' hn b hb =>
    ⟨hn b hb, (I'.ok.exf b hb).1, I'.ok.exfs b hb, .inl hb, fun x c e => (I'.ok.exf b hb).2 x c e, fun p hp => absurd (show p ∈ ([] : List (Addr × Obj)) ++ [] from hp) (by simp)⟩
  have eE : ∀ e s', notedBy (model X.prog X.w) X.A ce (PySem.CompFails (model X.prog X.w) X.A X.xe ce) e s' → notedBy (model X.prog X.w) X.A ce (fun e s' => compEnds (model X.prog X.w) X.A X.xe use Qf (.ref D) ce (.error e) s') e s' := fun e s' z => by
    cases use <;> exact z
  have loop : codeAny (model X.prog X.w) X.A (.compLoop (.ListComp elt [⟨tg, iter, [], 0⟩] scope pos) 0 (.ref it) (.ref D) ce) (compEnds (model X.prog X.w) X.A X.xe use Qf (.ref D) ce) s4 := by
    refine compLoop_any (fun n s' => ∃ i H', Inv (blkX X s3 H3 scope ce fp) [] (wipe σ (own.map (·.2))) H' s' ∧ tn i s'.heap ∧ (∀ b ∈ fp, H' b = none) ∧ Wk i n H') ?_ m0 ⟨0, H3, I4, st4, nfp, w0⟩
    rintro n s5 ⟨i, H5, I5, st5, n5, w5⟩
    rcases turn i n H5 w5 with ⟨stop, qq⟩ | ⟨go, Nx, hNx, step⟩
    · have td := T.done (blkX X s3 H3 scope ce fp) rfl rfl rfl hc i [] s5 _ H5 (fun _ _ => False) I5 (stat I5 n5) st5 stop
      refine thnF td fun r s6 ⟨hr, I6⟩ => ?_
      subst hr
      have I7 : Inv X pins σ H5 s6 := I3.call' (ch := fp) I6.os I6.base I6.hok I6.bare fun b hb => ⟨(f3 b hb).1.2.2.2.1, (f3 b hb).1.2.1, (f3 b hb).1.2.2.2.2.1, (f3 b hb).1.2.2.2.2.2⟩
      have nC : H5 s3.heap.objs.size = none := by
        have z : H5 ce.locals = none := I6.free
        rw [cL] at z
        exact z
      obtain ⟨m, hn, _⟩ := I6.loc
      have hn : s6.heap.Ns ce.locals m := hn
      rw [cL] at hn
      exact hRR' s6 m H5 I7 qq hn (I3.fpOk (Nat.le_refl _) nC)
    · have ti := T.item (blkX X s3 H3 scope ce fp) rfl rfl rfl hc i [] s5 _ H5 (fun _ _ => False) I5 (stat I5 n5) st5 go
      refine thnF ti fun r s6 ⟨u, hr, h6⟩ => ?_
      subst hr
      refine thnF h6 fun _ s7 ⟨x, H7, I7, r7, y7, st7, n7⟩ => ?_
      have I7' := I7.pinned (stat I7 n7) (T.obj _ _ st7)
      refine thnE (pg.run _ s7 _ H7 x u _ I7' r7 (step x H7 y7)) eE fun _ s8 ⟨σ8, H8, I8, hw8, q8⟩ => ?_
      refine wpAny_tests_nil ?_
      have fin : ∀ {s' : Shared} {H' : Hp}, Inv (blkX X s3 H3 scope ce fp) ([] ++ pinsAt fp s7.heap) σ8 H' s' → Nx H' → ∃ m, m < n ∧ ∃ i H', Inv (blkX X s3 H3 scope ce fp) [] (wipe σ (own.map (·.2))) H' s' ∧ tn i s'.heap ∧ (∀ b ∈ fp, H' b = none) ∧ Wk i m H' := fun {s' H'} I' nx => by
        obtain ⟨m', hm, w'⟩ := hNx H' nx
        have pin' : ∀ b ∈ fp, ∀ o, s7.heap.get? b = some o → s'.heap.get? b = some o ∧ H' b = none := fun b hb o e =>
          let z := I'.pin (b, o) (List.mem_append_right _ (List.mem_append_right _ (mem_pinsAt hb e)))
          ⟨z.1, z.2.1⟩
        have hl : (wipe σ (own.map (·.2))).length = σ8.length := by rw [← hw8, wipe_length]
        refine ⟨m', hm, i + 1, H', (I'.unpinned (pins := [])).weak hl (fun j v e => ?_), T.keep _ _ _ st7 fun b hb o e => (pin' b hb o e).1, fun b hb => ?_, w'⟩
        · rw [← hw8] at e
          exact (wipe_some e).1
        · obtain ⟨o, e, _⟩ := T.obj _ _ st7 b hb
          exact (pin' b hb o e).2
      have q9 := q8
      unfold L2.tYes at q9
      simp only [if_true] at q9 ⊢
      refine thnE (pe.run _ s8 σ8 H8 _ I8 q9) eE fun z s10 ⟨yv, H10, I10, r10, acc, hD10, hz10, nx⟩ => ?_
      exact app_ok (X := blkX X s3 H3 scope ce fp) I10 hD10 hz10 r10 fun s11 I11 => fin I11 nx
  exact codeAny_compStart_list loop (T.self X.A 0 _ _ _ st4 loop)
theorem pe_lcX {W : WX} {elt tg iter : Expr} {scope : Scope} {own : List (Str × Nat)} {pos : Pos} {wi : TI} {g : TG} {te : XK → TE} (tk : Takes X W) (hc : X.calm = true) (hN : X.N.Nodup) (hi : PI X tg iter wi) (ok : BlkOk X.N X.env.scope scope own)
    (hg : ∀ (s : Shared) (H : Hp) (C : Addr) (cl : List (Str × Addr)) (fp : List Addr), PG (blkX X s H scope (compEnvC scope cl C X.env) fp) tg g)
    (he : ∀ (E : XK) (s : Shared) (H : Hp) (C : Addr) (cl : List (Str × Addr)) (fp : List Addr), (∀ σ', PassesAt (L2.CX X.prog X.w) (blkX X s H scope (compEnvC scope cl C X.env) fp) σ' E) → PE (blkX X s H scope (compEnvC scope cl C X.env) fp) elt (te E)) (hs : ∀ x, foldedSetIterable iter X.env x = pure x := by intro _; rfl) (hst : X.stack = X.env :: X.outer := by rfl) (hfm : X.env.frame = some X.env.locals := by rfl) :
    PE X (.ListComp elt [⟨tg, iter, [], 0⟩] scope pos) (fun σ H Q => tLc wi g L2.tYes (te (WE W σ)) (own.map (·.2)) σ H Q) := by
  refine ⟨fun pins s σ H Q I h => ?_⟩
  rw [eval_ListComp]
  refine lc_coreX tk hst hfm hc hN I hi ok hg (he _) hs h fun D C cl s' m H' I' q hn f => ⟨m, hn, fun h'' sb => ?_⟩
  obtain ⟨f0, f1, f2, f3, f4, f5⟩ := f
  exact ⟨.ref D, H', I'.turned (t' := s'.toks) (fun b o hb e => (sb.2 b hb).trans e) f0 f1 f3 f4 f5, rfl, q⟩
end
end Rw
end PRwComX
section PRwComY
set_option Elab.async false
set_option linter.all false
set_option maxRecDepth 100000
set_option maxHeartbeats 2000000
/-! RwComY: rules for raising inside a display, an argument of append, a list comprehension. -/
namespace Rw
open PySem L2 PySem.Spec PyProof.Rows
open Evl (Ex)
def tOrE (a b : TE) : TE := fun σ H Q => a σ H Q ∨ b σ H Q
def tOrA (a b : TA) : TA := fun σ H Q => a σ H Q ∨ b σ H Q
section
variable {X : Cx} {W : WX} {e : Expr} {es : List Expr} {pos : Pos} {x y : DX} {da : DE} {das : DA} {n : Nat}
theorem pe_or {a b : TE} (ha : PE X e a) (hb : PE X e b) : PE X e (tOrE a b) := ⟨fun pins s σ H Q I h => h.elim (ha.run pins s σ H Q I) (hb.run pins s σ H Q I)⟩
theorem pa_or {a b : TA} (ha : PA X es a) (hb : PA X es b) : PA X es (tOrA a b) := ⟨fun pos pins s σ H Q I h => h.elim (ha.run pos pins s σ H Q I) (hb.run pos pins s σ H Q I)⟩
theorem pa_none : PA X es (fun _ _ _ => False) := ⟨fun _ _ _ _ _ _ _ h => h.elim⟩
theorem x_altE (hx : PEX X W e x) (hy : PEX X W e y) : PEX X W e (xAlt x y) := by
  obtain ⟨t, h1, h2⟩ := hx.ex
  obtain ⟨u, h3, h4⟩ := hy.ex
  refine ⟨_, pe_or h1 h3, fun {F κ G σ ρ M H c ρ' M'} Q S E h k => ?_⟩
  unfold xAlt at h
  split at h
  · rename_i r e1
    cases h
    exact .inl (h2 Q S E e1 k)
  · exact .inr (h4 Q S E h k)
/-- one of a display's things raises, or an argument -/
structure PAX (X : Cx) (W : WX) (es : List Expr) (x : DX) : Prop where
  ex : ∃ t, PA X es t ∧ ∀ {F κ G σ ρ M H c ρ' M'} (Q : List V → Hp → Prop), Sm X.K F κ G M H → Se X.K κ G σ ρ → x ρ M = some (c, ρ', M') → XP X.K F κ G W c ρ' M' → t σ H Q
theorem xa_alt (hx : PAX X W es x) (hy : PAX X W es y) : PAX X W es (xAlt x y) := by
  obtain ⟨t, h1, h2⟩ := hx.ex
  obtain ⟨u, h3, h4⟩ := hy.ex
  refine ⟨_, pa_or h1 h3, fun {F κ G σ ρ M H c ρ' M'} Q S E h k => ?_⟩
  unfold xAlt at h
  split at h
  · rename_i r e1
    cases h
    exact .inl (h2 Q S E e1 k)
  · exact .inr (h4 Q S E h k)
theorem xa_here (hx : PEX X W e x) (hs : starEach (e :: es) X.env = (false, eval e X.env) :: starEach es X.env := by rfl) : PAX X W (e :: es) x := by
  obtain ⟨t, h1, h2⟩ := hx.ex
  exact ⟨_, pa_cons h1 pa_none hs, fun Q S E h k => h2 _ S E h k⟩
theorem xa_then (ha : PD X e da) (hx : PAX X W es x) (hs : starEach (e :: es) X.env = (false, eval e X.env) :: starEach es X.env := by rfl) : PAX X W (e :: es) (xThen da x) := by
  obtain ⟨t, h1, h2⟩ := ha.ex
  obtain ⟨u, h3, h4⟩ := hx.ex
  refine ⟨_, pa_cons h1 h3 hs, fun {F κ G σ ρ M H c ρ' M'} Q S E h k => ?_⟩
  unfold xThen at h
  split at h
  · rename_i v M1 e1
    exact h2.run S E e1 fun κ1 G1 u1 H1 l1 S1 r1 => h4 _ S1 (E.mono l1) h (k.weak l1)
  · cases h
theorem x_tup {x1} (h : PAX X W es x) : PEX X W (.Tuple es x1 pos) x := by
  obtain ⟨t, h1, h2⟩ := h.ex
  exact ⟨_, pe_tup h1, fun Q S E h k => h2 _ S E h k⟩
theorem x_append {a : Expr} {apos : Pos} (ho : PD X a da) (hx : PAX X W (e :: es) x) (hbase : attributeBase a "append" X.env (eval a X.env) = eval a X.env := by rfl)
    (hfew : ((backTo pos (starEach (e :: es) X.env)).all (fun x => !x.1) && (backToKw pos (keywordEach [] X.env)).all (fun x => x.1.isSome)
      && decide ((e :: es).length + ([] : List Keyword).length + (if ([] : List Keyword).isEmpty then 0 else 1) < 30)) = true := by rfl)
    (hline : (apos.endLine == pos.line) = true := by rfl) (hs : starEach (e :: es) X.env = (false, eval e X.env) :: starEach es X.env := by rfl) (hplain : (backTo pos (starEach es X.env)).any (·.1) = false := by rfl) : PEX X W (.Call (.Attribute a "append" apos) (e :: es) [] pos) (xApp da x) := by
  obtain ⟨t, h1, h2⟩ := ho.ex
  obtain ⟨u, h3, h4⟩ := hx.ex
  refine ⟨_, pe_bm PySem.F.plainAttrs_list PySem.F.slot_list_append PySem.F.type_list_append mt_append h1 h3 hbase hfew hline hs hplain, fun {F κ G σ ρ M H c ρ' M'} Q S E h k => ?_⟩
  unfold xApp at h
  split at h
  · rename_i v M1 e1
    refine h2.run S E e1 fun κ1 G1 u1 H1 l1 S1 r1 => ⟨?_, h4 _ S1 (E.mono l1) h (k.weak l1)⟩
    obtain ⟨b, rfl, hb⟩ := r1
    obtain ⟨q, hq⟩ := S1.th b (List.mem_of_getElem? hb)
    exact .inl ⟨rfl, q, .of hq⟩
  · cases h
/-- raising in a block: E is what the def lets out -/
structure PEK (X : Cx) (E : XK) (e : Expr) (x : DX) : Prop where
  ex : ∃ t, PE X e t ∧ ∀ {F κ G σ ρ M H c ρ' M'} (Q : VK), Sm X.K F κ G M H → Se X.K κ G σ ρ → x ρ M = some (c, ρ', M') → (∀ κ' G' H' cls, Le κ G κ' G' → Sm X.K F κ' G' M' H' → ClsK X.K c cls → E cls none H') → t σ H Q
def kOf (K : PySem.W.Frag) (x : DX) (E : XK) : TE := fun σ H _ => ∃ F κ G ρ M c ρ' M', Sm K F κ G M H ∧ Se K κ G σ ρ ∧ x ρ M = some (c, ρ', M') ∧ ∀ κ' G' H' cls, Le κ G κ' G' → Sm K F κ' G' M' H' → ClsK K c cls → E cls none H'
theorem PEK.can {E : XK} (h : PEK X E e x) : PE X e (kOf X.K x E) := by
  obtain ⟨t, h1, h2⟩ := h.ex
  exact ⟨fun pins s σ H Q I ⟨F, κ, G, ρ, M, c, ρ', M', S, E', hx, k⟩ => h1.run pins s σ H Q I (h2 Q S E' hx k)⟩
theorem k_call {E : XK} {f : Str} {k m : Nat} {fx : FX} {p : Pos} (hp : ∀ σ', PassesAt (L2.CX X.prog X.w) X σ' E) (Hs : HasX X.prog X.w X.K X.mg X.base f k m fx) (hr : Room k X.A) (ha : PDA X (e :: es) das m) (hg : Gl X f := by rfl) (hdb : (f == ("__debug__" : Str)) = false := by decide) (he : starEach (e :: es) X.env = (false, eval e X.env) :: starEach es X.env := by rfl) (hpl : (backTo pos (starEach es X.env)).any (·.1) = false := by rfl) :
    PEK X E (.Call (.Name f p) (e :: es) [] pos) (xCall fx das) := by
  obtain ⟨fa, fd, ps, F, hm, hk, hb⟩ := Hs.ex
  obtain ⟨t, h1, h2⟩ := ha.ex
  refine ⟨_, pe_callS (E := fun _ => E) F hr hg hm hk hb (fun σ => hp σ) h1 hdb he hpl, ?_⟩
  intro F κ G σ ρ M H c ρ' M' Q S E h k
  unfold xCall at h
  split at h
  · rename_i vs M1 e1
    split at h
    · rename_i c1 M2 e2
      cases h
      refine h2.run S E e1 fun κ1 G1 us H1 l1 S1 r1 => ?_
      exact ⟨F, κ1, G1, M1, vs, c, M', S1, r1, ha.len _ _ _ _ e1, e2, fun κ' G' H' cls l S' hc => k κ' G' H' cls (l1.trans l) S' hc⟩
    · cases h
  · cases h
theorem x_lc {elt tg iter : Expr} {scope : Scope} (own : List (Str × Nat)) {it : DI} {tgt : Tgt} {el : DE} (tk : Takes X W) (hN : X.N.Nodup) (hi : PDI X tg iter it) (ok : blkC X.N X.env.scope scope own = true)
    (hg : ∀ (s : Shared) (H : Hp) (C : Addr) (cl : List (Str × Addr)) (fp : List Addr), PDG (blkX X s H scope (compEnvC scope cl C X.env) fp) tg tgt)
    (he : ∀ (s : Shared) (H : Hp) (C : Addr) (cl : List (Str × Addr)) (fp : List Addr), PD (blkX X s H scope (compEnvC scope cl C X.env) fp) elt el)
    (hx : ∀ (E : XK) (s : Shared) (H : Hp) (C : Addr) (cl : List (Str × Addr)) (fp : List Addr), (∀ σ', PassesAt (L2.CX X.prog X.w) (blkX X s H scope (compEnvC scope cl C X.env) fp) σ' E) → PEK (blkX X s H scope (compEnvC scope cl C X.env) fp) E elt x)
    (hown : ∀ i ∈ tgt.slots, i ∈ own.map (·.2) := by decide) (hc : X.calm = true := by rfl) (hs : ∀ x, foldedSetIterable iter X.env x = pure x := by intro _; rfl) (hst : X.stack = X.env :: X.outer := by rfl) (hfm : X.env.frame = some X.env.locals := by rfl) :
    PEX X W (.ListComp elt [⟨tg, iter, [], 0⟩] scope pos) (xLc it tgt el x (own.map (·.2))) := by
  obtain ⟨t, h1, h2⟩ := hi.ex
  refine ⟨_, pe_lcX (g := tgt.tg X.K) (te := fun E => tOrE (tOf X.K el) (kOf X.K x E)) tk hc hN h1 (blkOk_by ok) (fun s H C cl fp => (hg s H C cl fp).ex) (fun E s H C cl fp hp => pe_or (he s H C cl fp).can (hx E s H C cl fp hp).can) hs hst hfm, ?_⟩
  intro F κ G σ ρ M H c ρ' M' Q S E h k
  unfold xLc at h
  split at h
  · rename_i xs src M0 e
    obtain ⟨hz, h⟩ := grd_some h
    split at h
    · rename_i c1 M2 hl
      cases h
      refine h2.run S E e fun κ1 G1 H1 J Gd Y l1 S1 Wk hG hY => fun Dl hD => ?_
      have f0 := S1.fresh hD
      have E1 := E.mono l1
      refine lc_it Wk (fun i H => ∃ κ2 G2 M3 acc, Le κ1 G1 κ2 G2 ∧ Sm X.K (F.up Dl (.lst acc)) κ2 G2 M3 H ∧ acc.length ≤ i ∧ i ≤ xs.length ∧ xCompL (stand src M0) (compStep tgt Rw.tYes el (wipeD ρ (own.map (·.2)))) (xCompStep tgt x (wipeD ρ (own.map (·.2)))) (xs.drop i) M3 = some (c, M')) ?_ ?_ ?_ ?_
      · exact ⟨κ1, G1, M0, [], Le.refl _ _, S1.frame hD [], Nat.zero_le _, Nat.zero_le _, hl⟩
      · rintro i H hi ⟨κ2, G2, M3, acc, l2, S2, la, _, h3⟩
        refine hG _ κ2 G2 M3 H l2 S2 ?_
        cases hx : xs.drop i with
        | nil => rw [hx] at h3; cases h3
        | cons y r => rw [hx] at h3; unfold xCompL at h3; exact (grd_some h3).1
      · rintro i u H H' hi ⟨κ2, G2, M3, acc, l2, S2, la, _, h3⟩ hy
        have hx : xs.drop i = xs[i] :: xs.drop (i + 1) := List.drop_eq_getElem_cons hi
        rw [hx] at h3
        unfold xCompL at h3
        obtain ⟨st, h3⟩ := grd_some h3
        obtain ⟨G3, dd, x3, S3, ed, rd⟩ := hY i _ κ2 G2 M3 H u H' hi l2 S2 st hy
        have ed2 : xs[i] = dd := by
          rw [List.getElem?_eq_getElem hi] at ed
          exact Option.some.inj ed
        rw [ed2] at h3
        have l3 : Le κ1 G1 κ2 G3 := l2.trans ⟨List.prefix_refl _, x3⟩
        have wp : ∀ σ2 : L2.St, (∀ vs : List Nat, (∀ i ∈ tgt.slots, i ∈ vs) → L2.wipe σ2 vs = L2.wipe (L2.wipe σ (own.map (·.2))) vs) → L2.wipe σ2 (own.map (·.2)) = L2.wipe σ (own.map (·.2)) := fun σ2 w2 => by
          rw [w2 _ hown]
          apply List.ext_getElem?
          intro j
          rw [wipe_get, wipe_get, wipe_length_ite]
        cases ex : xCompStep tgt x (wipeD ρ (own.map (·.2))) dd M3 with
        | some q =>
          simp only [ex] at h3
          cases h3
          unfold xCompStep at ex
          cases ep : tgt.put (.d dd) (wipeD ρ (own.map (·.2))) with
          | none => simp only [ep] at ex; cases ex
          | some ρ1 =>
            simp only [ep] at ex
            refine put_ok S3 tgt (x := .d dd) rd ((E1.mono l3).wipe2 _) ep fun σ2 E2 w2 => ⟨wp σ2 w2, ?_⟩
            unfold L2.tYes
            show tOrE _ _ _ _ _
            cases ec : x ρ1 M3 with
            | none => simp only [ec] at ex; cases ex
            | some q =>
              obtain ⟨c2, ρ2, M4⟩ := q
              simp only [ec] at ex
              cases ex
              refine .inr ⟨F.up Dl (.lst acc), κ2, G3, ρ1, M3, c, ρ2, M', S3, E2, ec, fun κ' G' H4 cls l4 S4 hcl => ?_⟩
              exact k κ' G' σ H4 cls (l1.trans (l3.trans l4)) (S4.unframe f0.2.1).1 (E.mono (l1.trans (l3.trans l4))) hcl
        | none =>
          simp only [ex] at h3
          cases es : compStep tgt Rw.tYes el (wipeD ρ (own.map (·.2))) dd M3 with
          | none => simp only [es] at h3; cases h3
          | some q =>
            obtain ⟨o, M5⟩ := q
            simp only [es] at h3
            unfold compStep at es
            cases ep : tgt.put (.d dd) (wipeD ρ (own.map (·.2))) with
            | none => simp only [ep] at es; cases es
            | some ρ1 =>
              simp only [ep, Rw.tYes] at es
              refine put_ok S3 tgt (x := .d dd) rd ((E1.mono l3).wipe2 _) ep fun σ2 E2 w2 => ⟨wp σ2 w2, ?_⟩
              unfold L2.tYes
              show tOrE _ _ _ _ _
              cases ee : el ρ1 M3 with
              | none => simp only [ee] at es; cases es
              | some q =>
                obtain ⟨v, M7⟩ := q
                simp only [ee] at es
                cases v with
                | c n => simp only at es; cases es
                | r n => simp only at es; cases es
                | o _ _ _ => simp only at es; cases es
                | d y =>
                  simp only at es
                  cases es
                  refine .inl (simOf.run S3 E2 ee fun κ5 G5 u H5 l5 S5 r5 => ?_)
                  exact ⟨acc, S5.fx Dl _ upd_same, sz_big1 (by omega), κ5, G5, _, acc ++ [u], l3.trans l5, S5.grow _, by simp; omega, by omega, h3⟩
      · rintro H ⟨κ2, G2, M3, acc, l2, S2, la, _, h3⟩
        rw [List.drop_length] at h3
        cases h3
    · cases h
  · cases h
theorem s_forX {tg iter : Expr} {body : List Stmt} {it : DI} {tgt : Tgt} {s : DS} (hi : PDI X tg iter it) (hg : PDG X tg tgt) (hb : PDB X body s) (hp : PassesOwn (model X.prog X.w) X.A X.env X.xe := by first | exact PassesOwn.leaving | exact PassesOwn.never) (hc : X.calm = true := by rfl) (hs : ∀ x, foldedSetIterable iter X.env x = pure x := by intro _; rfl) : PDS X (.For tg iter body [] pos) (dFor it tgt s) := s_for hi hg hb hp hc hs
theorem s_whileX {c : Expr} {body : List Stmt} {tc : DT} {s : DS} (hc : PDT X c tc) (hb : PDB X body s) (hp : PassesOwn (model X.prog X.w) X.A X.env X.xe := by first | exact PassesOwn.leaving | exact PassesOwn.never) : PDS X (.While c body [] pos) (dWhile tc s) := s_while hc hb hp
end
end Rw
end PRwComY
section PDk87
set_option linter.all false
set_option maxRecDepth 100000
namespace Lk87
open Rw
open PySem (Str)
noncomputable section
def v_FIGURES : D := (.str "0123456789")
def v_MOST_FIGURES : D := (.int 200)
def v_MOST_NUMBERS : D := (.int 200)
def v_FEW_FIGURES : D := (.int 9)
/-- _law_at(_law_script, _law_k): slots _law_script 0, _law_k 1 -/
def b__law_at : DS :=
    (dSeq (dIf (tVal (e2 oLt (eVar 1) (eA oLen (aCons (eVar 0) aNil)))) (dRet (e2 oIx (eVar 0) (eVar 1))) dPass)
    (dRet (eC (.int 0))))
def f__law_at : DF := fnD 2 b__law_at
/-- _law_purse(_law_script, _law_at_here): slots _law_script 0, _law_at_here 1, _law_cell 2 -/
def b__law_purse : DS :=
    (dSeq (dAsg (.name 2) (eCall f__law_at (aCons (eVar 0) (aCons (eVar 1) aNil))))
    (dRet (eLst true (aCons (eA oMax2 (aCons (e2 oSub (eVar 2) (e2 oPow (eC (.int 10)) (eC (.int 18)))) (aCons (eC (.int 0)) aNil))) (aCons (eVar 2) (aCons (e2 (oMulU false) (eC (.int 1000)) (eVar 1)) aNil))))))
def f__law_purse : DF := fnD 3 b__law_purse
/-- _law_mixed(_law_cell, _law_k): slots _law_cell 0, _law_k 1, _law_number_here 2 -/
def b__law_mixed : DS :=
    (dSeq (dAsg (.name 2) (e2 oMod (e2 (oAdd false) (e2 (oAdd false) (e2 (oMulU false) (eVar 0) (eC (.int 1103515245))) (e2 (oMulU false) (e2 (oMulU false) (eC (.int 7919)) (eVar 1)) (eVar 1))) (eVar 1)) (eC (.int 2147483647))))
    (dSeq (dAsg (.name 2) (e2 oMod (e2 (oMulU false) (eVar 2) (eVar 2)) (eC (.int 2147483629))))
    (dRet (e2 oMod (e2 (oMulU false) (eVar 2) (eC (.int 69621))) (eC (.int 2147483587))))))
def f__law_mixed : DF := fnD 3 b__law_mixed
/-- _law_draw(_law_purse_here, _law_out_of): slots _law_purse_here 0, _law_out_of 1, _law_drawn 2, _law_number_here 3, _law_k 4; cells _law_purse_here -/
def b__law_draw : DS :=
    (dSeq (dIf (tVal (e2 oGt (e2 oIx (eVar 0) (eC (.int 0))) (eC (.int 0)))) (dSeq (dAsg (.name 2) (e2 oMod (e2 oIx (eVar 0) (eC (.int 0))) (eVar 1)))
      (dSeq (dPut (eVar 0) (eC (.int 0)) (e2 oDiv (e2 oIx (eVar 0) (eC (.int 0))) (eVar 1)))
      (dRet (eVar 2)))) dPass)
    (dSeq (dAsg (.name 3) (eC (.int 0)))
    (dSeq (dFor (iR1 (aCons (e2 oIx (eLst false (aCons (eC (.int 1)) (aCons (eC (.int 4)) aNil))) (eA oInt (aCons (e2 oGt (eVar 1) (e2 oPow (eC (.int 10)) (eC (.int 9)))) aNil))) aNil)) (.name 4) (dWipe [4] (dSeq (dPut (eVar 0) (eC (.int 2)) (e2 (oAdd false) (e2 oIx (eVar 0) (eC (.int 2))) (eC (.int 1))))
      (dAsg (.name 3) (e2 (oAdd false) (e2 (oMulU false) (eVar 3) (eC (.int 2147483587))) (eCall f__law_mixed (aCons (e2 oIx (eVar 0) (eC (.int 1))) (aCons (e2 oIx (eVar 0) (eC (.int 2))) aNil))))))))
    (dRet (e2 oMod (eVar 3) (eVar 1))))))
def f__law_draw : DF := fnD 5 b__law_draw
/-- _law_fraction_text(_law_part_here): slots _law_part_here 0 -/
def b__law_fraction_text : DS :=
    (dSeq (dIf (tVal (e2 oEq (e2 oIx (eVar 0) (eC (.int 1))) (eC (.int 1)))) (dRet (eA oStrI (aCons (e2 oIx (eVar 0) (eC (.int 0))) aNil))) dPass)
    (dRet (e2 (oAdd false) (e2 (oAdd false) (eA oStrI (aCons (e2 oIx (eVar 0) (eC (.int 0))) aNil)) (eC (.str "/"))) (eA oStrI (aCons (e2 oIx (eVar 0) (eC (.int 1))) aNil)))))
def f__law_fraction_text : DF := fnD 1 b__law_fraction_text
/-- _law_table_text(_law_rows): slots _law_rows 0, _law_lines 1, _law_place 2, _law_near 3; cells _law_lines -/
def b__law_table_text : DS :=
    (dSeq (dAsg (.name 1) (eLst true aNil))
    (dSeq (dFor (iEn (aCons (eVar 0) aNil)) (.tup [(.name 2), (.name 3)]) (dWipe [2, 3] (dIf (tVal (e1 oIsN (eVar 3))) (dExpr (eM mAppend (eVar 1) (aCons (e2 (oAdd false) (eA oStrI (aCons (eVar 2) aNil)) (eC (.str " none"))) aNil))) (dExpr (eM mAppend (eVar 1) (aCons (e2 (oAdd false) (e2 (oAdd false) (e2 (oAdd false) (e2 (oAdd false) (eA oStrI (aCons (eVar 2) aNil)) (eC (.str " "))) (eCall f__law_fraction_text (aCons (e2 oIx (eVar 3) (eC (.int 0))) aNil))) (eC (.str " "))) (eA oStrI (aCons (e2 oIx (eVar 3) (eC (.int 1))) aNil))) aNil))))))
    (dRet (e1 (oJoin "\n") (eVar 1)))))
def f__law_table_text : DF := fnD 4 b__law_table_text
/-- _law_lowest(_law_top, _law_bottom): slots _law_top 0, _law_bottom 1, _law_one 2, _law_other 3 -/
def b__law_lowest : DS :=
    (dSeq (dPar 2 3 (eA oAbs (aCons (eVar 0) aNil)) (eVar 1))
    (dSeq (dWhile (tVal (e2 oGt (eVar 3) (eC (.int 0)))) (dPar 2 3 (eVar 3) (e2 oMod (eVar 2) (eVar 3))))
    (dRet (eTup (aCons (e2 oDiv (eVar 0) (eVar 2)) (aCons (e2 oDiv (eVar 1) (eVar 2)) aNil))))))
def f__law_lowest : DF := fnD 4 b__law_lowest
/-- _law_vast(_law_purse_here, _law_out_of): slots _law_purse_here 0, _law_out_of 1, _law_number_here 2, _law_turn 3; cells _law_purse_here -/
def b__law_vast : DS :=
    (dSeq (dAsg (.name 2) (eC (.int 0)))
    (dSeq (dFor (iR1 (aCons (eC (.int 8)) aNil)) (.name 3) (dWipe [3] (dAsg (.name 2) (e2 (oAdd false) (e2 (oMulU false) (eVar 2) (e2 oPow (eC (.int 10)) (eC (.int 27)))) (eCall f__law_draw (aCons (eVar 0) (aCons (e2 oPow (eC (.int 10)) (eC (.int 27))) aNil)))))))
    (dRet (e2 oMod (eVar 2) (eVar 1)))))
def f__law_vast : DF := fnD 4 b__law_vast
/-- _law_part(_law_purse_here): slots _law_purse_here 0, _law_size 1, _law_top 2; cells _law_purse_here -/
def b__law_part : DS :=
    (dSeq (dAsg (.name 1) (e2 oIx (eLst false (aCons (eC (.int 9)) (aCons (eC (.int 99)) (aCons (e2 oPow (eC (.int 10)) (eC (.int 9))) (aCons (e2 oPow (eC (.int 10)) (eC (.int 60))) (aCons (e2 oSub (e2 oPowW (e2 oPow (eC (.int 10)) (eC (.int 50))) (eC (.int 4))) (eC (.int 1))) aNil)))))) (eCall f__law_draw (aCons (eVar 0) (aCons (eC (.int 5)) aNil)))))
    (dSeq (dAsg (.name 2) (e2 oSub (eCall f__law_vast (aCons (eVar 0) (aCons (e2 (oAdd false) (e2 (oMulU false) (eC (.int 2)) (eVar 1)) (eC (.int 1))) aNil))) (eVar 1)))
    (dRet (eCall f__law_lowest (aCons (eVar 2) (aCons (e2 oIx (eLst false (aCons (eC (.int 1)) (aCons (e2 (oAdd false) (eC (.int 1)) (eCall f__law_draw (aCons (eVar 0) (aCons (eC (.int 12)) aNil)))) (aCons (eVar 1) (aCons (e2 (oAdd false) (eC (.int 1)) (eCall f__law_vast (aCons (eVar 0) (aCons (eVar 1) aNil)))) aNil))))) (eCall f__law_draw (aCons (eVar 0) (aCons (eC (.int 4)) aNil)))) aNil))))))
def f__law_part : DF := fnD 3 b__law_part
/-- _law_table(_law_purse_here): slots _law_purse_here 0, _law_many 1, _law_found 2, _law_place 3, _law_part_here 4, _law_near 5, _law_some 6; cells _law_found, _law_purse_here -/
def b__law_table : DS :=
    (dSeq (dAsg (.name 1) (e2 oIx (eLst false (aCons (eCall f__law_draw (aCons (eVar 0) (aCons (eC (.int 6)) aNil))) (aCons (eCall f__law_draw (aCons (eVar 0) (aCons (eC (.int 25)) aNil))) (aCons (eC (.int 200)) aNil)))) (e2 oDiv (eCall f__law_draw (aCons (eVar 0) (aCons (eC (.int 12)) aNil))) (eC (.int 5)))))
    (dSeq (dAsg (.name 2) (eLst true aNil))
    (dSeq (dFor (iR1 (aCons (eVar 1) aNil)) (.name 3) (dWipe [3, 4, 5, 6] (dSeq (dAsg (.name 4) (eCall f__law_part (aCons (eVar 0) aNil)))
      (dSeq (dAsg (.name 5) (eTup (aCons (eA oAbs (aCons (e2 oIx (eVar 4) (eC (.int 0))) aNil)) (aCons (e2 oIx (eVar 4) (eC (.int 1))) aNil))))
      (dSeq (dAsg (.name 6) (eLst false (aCons (eC .non) (aCons (eTup (aCons (eVar 5) (aCons (eCall f__law_draw (aCons (eVar 0) (aCons (eVar 1) aNil))) aNil))) (aCons (eTup (aCons (eVar 5) (aCons (eVar 3) aNil))) aNil)))))
      (dExpr (eM mAppend (eVar 2) (aCons (e2 oIx (eVar 6) (eA oMin2 (aCons (eCall f__law_draw (aCons (eVar 0) (aCons (eC (.int 5)) aNil))) (aCons (eC (.int 2)) aNil)))) aNil))))))))
    (dRet (eVar 2)))))
def f__law_table : DF := fnD 7 b__law_table
/-- _law_number(_law_purse_here, _law_way): slots _law_purse_here 0, _law_way 1; cells _law_purse_here -/
def b__law_number : DS :=
    (dSeq (dIf (tVal (e2 oEq (eVar 1) (eC (.int 0)))) (dRet (eCall f__law_draw (aCons (eVar 0) (aCons (eC (.int 2)) aNil)))) dPass)
    (dSeq (dIf (tVal (e2 oEq (eVar 1) (eC (.int 1)))) (dRet (e2 oSub (eCall f__law_draw (aCons (eVar 0) (aCons (eC (.int 5)) aNil))) (eC (.int 2)))) dPass)
    (dSeq (dIf (tVal (e2 oEq (eVar 1) (eC (.int 2)))) (dRet (e2 oSub (eCall f__law_draw (aCons (eVar 0) (aCons (eC (.int 199)) aNil))) (eC (.int 99)))) dPass)
    (dRet (e2 oIx (eLst false (aCons (e2 (oAdd false) (e2 oSub (eCall f__law_draw (aCons (eVar 0) (aCons (e2 oSub (e2 (oMulU false) (eC (.int 2)) (e2 oPow (eC (.int 10)) (eC (.int 9)))) (eC (.int 1))) aNil))) (e2 oPow (eC (.int 10)) (eC (.int 9)))) (eC (.int 1))) (aCons (e2 oSub (e2 oPow (eC (.int 10)) (eC (.int 9))) (eC (.int 1))) (aCons (e2 oSub (eC (.int 1)) (e2 oPow (eC (.int 10)) (eC (.int 9)))) aNil)))) (eCall f__law_draw (aCons (eVar 0) (aCons (eC (.int 3)) aNil))))))))
def f__law_number : DF := fnD 2 b__law_number
/-- _law_row(_law_purse_here, _law_most): slots _law_purse_here 0, _law_most 1, _law_many 2, _law_way 3, _law_found 4, _law_k 5; cells _law_found, _law_purse_here -/
def b__law_row : DS :=
    (dSeq (dAsg (.name 2) (eCall f__law_draw (aCons (eVar 0) (aCons (e2 (oAdd false) (eVar 1) (eC (.int 1))) aNil))))
    (dSeq (dAsg (.name 3) (eCall f__law_draw (aCons (eVar 0) (aCons (eC (.int 5)) aNil))))
    (dSeq (dAsg (.name 4) (eLst true aNil))
    (dSeq (dFor (iR1 (aCons (eVar 2) aNil)) (.name 5) (dWipe [5] (dIf (Rw.tAnd (tVal (e2 oEq (eVar 3) (eC (.int 4)))) (Rw.tAnd (tVal (e2 oGt (eVar 5) (eC (.int 2)))) (tVal (e2 oGt (eCall f__law_draw (aCons (eVar 0) (aCons (eC (.int 4)) aNil))) (eC (.int 0)))))) (dExpr (eM mAppend (eVar 4) (aCons (e2 (oMulU false) (e2 oIx (eVar 4) (e2 oSub (eVar 5) (eC (.int 3)))) (e2 oIx (eLst false (aCons (eC (.int 1)) (aCons (eC (.int 1)) (aCons (eC (.int 2)) aNil)))) (e2 (oMulU false) (e2 oMod (eVar 5) (eC (.int 3))) (eA oInt (aCons (e2 oLt (eA oAbs (aCons (e2 oIx (eVar 4) (e2 oSub (eVar 5) (eC (.int 3)))) aNil)) (e2 oPow (eC (.int 10)) (eC (.int 8)))) aNil))))) aNil))) (dExpr (eM mAppend (eVar 4) (aCons (eCall f__law_number (aCons (eVar 0) (aCons (e2 oMod (eVar 3) (eC (.int 4))) aNil))) aNil))))))
    (dRet (eVar 4))))))
def f__law_row : DF := fnD 6 b__law_row
/-- _law_text(_law_purse_here): slots _law_purse_here 0, _law_way 1, _law_number_here 2; cells _law_purse_here -/
def b__law_text : DS :=
    (dSeq (dAsg (.name 1) (eCall f__law_draw (aCons (eVar 0) (aCons (eC (.int 3)) aNil))))
    (dSeq (dIf (tVal (e2 oEq (eVar 1) (eC (.int 0)))) (dRet (eCall f__law_fraction_text (aCons (eCall f__law_part (aCons (eVar 0) aNil)) aNil))) dPass)
    (dSeq (dIf (tVal (e2 oEq (eVar 1) (eC (.int 1)))) (dRet (e1 (oJoin " ") (eComp false (iS (eFrz (eCall f__law_row (aCons (eVar 0) (aCons (eC (.int 8)) aNil))))) (.name 2) Rw.tYes (eA oStrI (aCons (eVar 2) aNil)) [2]))) dPass)
    (dRet (eCall f__law_table_text (aCons (eSl (slU false) (eFrz (eCall f__law_table (aCons (eVar 0) aNil))) pNone (pSome (eC (.int 6)))) aNil))))))
def f__law_text : DF := fnD 3 b__law_text
/-- _law_whole_of(_law_text_here, _law_most): slots _law_text_here 0, _law_most 1, _law_figures 2, _law_sign 3 -/
def b__law_whole_of : DS :=
    (dSeq (dAsg (.name 2) (eVar 0))
    (dSeq (dIf (tVal (e2 oEq (eSl (slV false) (eVar 0) pNone (pSome (eC (.int 1)))) (eC (.str "-")))) (dAsg (.name 2) (eSl (slV false) (eVar 0) (pSome (eC (.int 1))) pNone)) dPass)
    (dSeq (dIf (Rw.tOr (tVal (e2 oEq (eVar 2) (eC (.str "")))) (Rw.tOr (tVal (e2 oGt (eA oLen (aCons (eVar 2) aNil)) (eVar 1))) (tVal (e2 oGt (eA oLen (aCons (eComp false (iX (eVar 2)) (.name 3) (tVal (e2 (oInS true) (eVar 3) (eC (.str "0123456789")))) (eVar 3) [3]) aNil)) (eC (.int 0)))))) (dRet (eC .non)) dPass)
    (dSeq (dIf (Rw.tAnd (tVal (e2 oEq (e2 oIx (eVar 2) (eC (.int 0))) (eC (.str "0")))) (tVal (e2 oNe (eVar 0) (eC (.str "0"))))) (dRet (eC .non)) dPass)
    (dRet (eA oIntS (aCons (eVar 0) aNil)))))))
def f__law_whole_of : DF := fnD 4 b__law_whole_of
/-- _law_fraction_of(_law_text_here): slots _law_text_here 0, _law_words 1, _law_numbers 2, _law_word 3 -/
def b__law_fraction_of : DS :=
    (dSeq (dAsg (.name 1) (eM (mSplit false) (eVar 0) (aCons (eC (.str "/")) aNil)))
    (dSeq (dAsg (.name 2) (eComp false (iS (eVar 1)) (.name 3) Rw.tYes (eCall f__law_whole_of (aCons (eVar 3) (aCons (eC (.int 200)) aNil))) [3]))
    (dSeq (dIf (Rw.tOr (tVal (e2 oGt (eA oLen (aCons (eVar 1) aNil)) (eC (.int 2)))) (tVal (e2 (oIn false) (eC .non) (eVar 2)))) (dRet (eC .non)) dPass)
    (dSeq (dIf (tVal (e2 oEq (eA oLen (aCons (eVar 2) aNil)) (eC (.int 1)))) (dRet (eTup (aCons (e2 oIx (eVar 2) (eC (.int 0))) (aCons (eC (.int 1)) aNil)))) dPass)
    (dSeq (dIf (Rw.tOr (tVal (e2 oLt (e2 oIx (eVar 2) (eC (.int 1))) (eC (.int 2)))) (tVal (e2 oNe (eCall f__law_lowest (aCons (e2 oIx (eVar 2) (eC (.int 0))) (aCons (e2 oIx (eVar 2) (eC (.int 1))) aNil))) (eTup (aCons (e2 oIx (eVar 2) (eC (.int 0))) (aCons (e2 oIx (eVar 2) (eC (.int 1))) aNil)))))) (dRet (eC .non)) dPass)
    (dRet (eTup (aCons (e2 oIx (eVar 2) (eC (.int 0))) (aCons (e2 oIx (eVar 2) (eC (.int 1))) aNil)))))))))
def f__law_fraction_of : DF := fnD 4 b__law_fraction_of
/-- _law_row_of(_law_text_here): slots _law_text_here 0, _law_numbers 1, _law_word 2 -/
def b__law_row_of : DS :=
    (dSeq (dIf (tVal (e2 oEq (eVar 0) (eC (.str "")))) (dRet (eLst false aNil)) dPass)
    (dSeq (dAsg (.name 1) (eComp false (iS (eM (mSplit false) (eVar 0) (aCons (eC (.str " ")) aNil))) (.name 2) Rw.tYes (eCall f__law_whole_of (aCons (eVar 2) (aCons (eC (.int 9)) aNil))) [2]))
    (dSeq (dIf (Rw.tOr (tVal (e2 (oIn false) (eC .non) (eVar 1))) (tVal (e2 oGt (eA oLen (aCons (eVar 1) aNil)) (eC (.int 200))))) (dRet (eC .non)) dPass)
    (dRet (eVar 1)))))
def f__law_row_of : DF := fnD 3 b__law_row_of
/-- _law_near_of(_law_words, _law_many): slots _law_words 0, _law_many 1, _law_part_here 2, _law_place 3 -/
def b__law_near_of : DS :=
    (dSeq (dIf (tVal (e2 oNe (eA oLen (aCons (eVar 0) aNil)) (eC (.int 2)))) (dRet (eC .non)) dPass)
    (dSeq (dAsg (.name 2) (eCall f__law_fraction_of (aCons (e2 oIx (eVar 0) (eC (.int 0))) aNil)))
    (dSeq (dAsg (.name 3) (eCall f__law_whole_of (aCons (e2 oIx (eVar 0) (eC (.int 1))) (aCons (eC (.int 9)) aNil))))
    (dSeq (dIf (Rw.tOr (tVal (e1 oIsN (eVar 2))) (Rw.tOr (tVal (e1 oIsN (eVar 3))) (Rw.tOr (tVal (e2 oLt (e2 oIx (eVar 2) (eC (.int 0))) (eC (.int 0)))) (Rw.tOr (tVal (e2 oLt (eVar 3) (eC (.int 0)))) (tVal (e2 oGe (eVar 3) (eVar 1))))))) (dRet (eC .non)) dPass)
    (dRet (eTup (aCons (eVar 2) (aCons (eVar 3) aNil))))))))
def f__law_near_of : DF := fnD 4 b__law_near_of
/-- _law_table_of(_law_text_here): slots _law_text_here 0, _law_lines 1, _law_found 2, _law_place 3, _law_line 4, _law_words 5, _law_near 6; cells _law_found -/
def b__law_table_of : DS :=
    (dSeq (dIf (tVal (e2 oEq (eVar 0) (eC (.str "")))) (dRet (eLst true aNil)) dPass)
    (dSeq (dAsg (.name 1) (eM (mSplit false) (eVar 0) (aCons (eC (.str "\n")) aNil)))
    (dSeq (dAsg (.name 2) (eLst true aNil))
    (dSeq (dFor (iEn (aCons (eVar 1) aNil)) (.tup [(.name 3), (.name 4)]) (dWipe [3, 4, 5, 6] (dSeq (dAsg (.name 5) (eM (mSplit false) (eVar 4) (aCons (eC (.str " ")) aNil)))
      (dSeq (dAsg (.name 6) (eCall f__law_near_of (aCons (eSl (slU false) (eVar 5) (pSome (eC (.int 1))) pNone) (aCons (eA oLen (aCons (eVar 1) aNil)) aNil))))
      (dSeq (dIf (Rw.tOr (tVal (e2 oNe (e2 oIx (eVar 5) (eC (.int 0))) (eA oStrI (aCons (eVar 3) aNil)))) (Rw.tOr (Rw.tAnd (tVal (e1 oIsN (eVar 6))) (tVal (e2 oNe (eSl (slU false) (eVar 5) (pSome (eC (.int 1))) pNone) (eLst false (aCons (eC (.str "none")) aNil))))) (tVal (e2 oGt (eA oLen (aCons (eVar 1) aNil)) (eC (.int 200)))))) (dRet (eC .non)) dPass)
      (dExpr (eM mAppend (eVar 2) (aCons (eVar 6) aNil))))))))
    (dRet (eVar 2))))))
def f__law_table_of : DF := fnD 7 b__law_table_of
/-- must(fine): slots fine 0 -/
def b_must : DS :=
    (dIf (Rw.tNot (tVal (eVar 0))) dNever dPass)
def f_must : DF := fnD 1 b_must
def bx_must : DX :=
    (xIf (Rw.tNot (tVal (eVar 0))) (xRaise "NoText") xNo)
def x_must : FX := fnX 1 bx_must
/-- read_whole(text, most): slots text 0, most 1, figures 2, sign 3 -/
def b_read_whole : DS :=
    (dSeq (dAsg (.name 2) (eVar 0))
    (dSeq (dIf (tVal (e2 oEq (eSl (slV false) (eVar 0) pNone (pSome (eC (.int 1)))) (eC (.str "-")))) (dAsg (.name 2) (eSl (slV false) (eVar 0) (pSome (eC (.int 1))) pNone)) dPass)
    (dSeq (dExpr (eCall f_must (aCons (eChain oLt oLe (eC (.int 0)) (eA oLen (aCons (eVar 2) aNil)) (eVar 1)) aNil)))
    (dSeq (dFor (iX (eVar 2)) (.name 3) (dWipe [3] (dExpr (eCall f_must (aCons (e2 (oInS false) (eVar 3) (eC v_FIGURES)) aNil)))))
    (dSeq (dExpr (eCall f_must (aCons (eOr (e2 oNe (e2 oIx (eVar 2) (eC (.int 0))) (eC (.str "0"))) (e2 oEq (eVar 0) (eC (.str "0")))) aNil)))
    (dRet (eA oIntS (aCons (eVar 0) aNil))))))))
def f_read_whole : DF := fnD 4 b_read_whole
def bx_read_whole : DX :=
    (xSeq (dAsg (.name 2) (eVar 0)) (xSeq (dIf (tVal (e2 oEq (eSl (slV false) (eVar 0) pNone (pSome (eC (.int 1)))) (eC (.str "-")))) (dAsg (.name 2) (eSl (slV false) (eVar 0) (pSome (eC (.int 1))) pNone)) dPass) (xAlt (xCall x_must (aCons (eChain oLt oLe (eC (.int 0)) (eA oLen (aCons (eVar 2) aNil)) (eVar 1)) aNil)) (xSeq (dExpr (eCall f_must (aCons (eChain oLt oLe (eC (.int 0)) (eA oLen (aCons (eVar 2) aNil)) (eVar 1)) aNil))) (xAlt (xFor (iX (eVar 2)) (.name 3) (dWipe [3] (dExpr (eCall f_must (aCons (e2 (oInS false) (eVar 3) (eC v_FIGURES)) aNil)))) (xCall x_must (aCons (e2 (oInS false) (eVar 3) (eC v_FIGURES)) aNil))) (xSeq (dFor (iX (eVar 2)) (.name 3) (dWipe [3] (dExpr (eCall f_must (aCons (e2 (oInS false) (eVar 3) (eC v_FIGURES)) aNil))))) (xCall x_must (aCons (eOr (e2 oNe (e2 oIx (eVar 2) (eC (.int 0))) (eC (.str "0"))) (e2 oEq (eVar 0) (eC (.str "0")))) aNil))))))))
def x_read_whole : FX := fnX 4 bx_read_whole
/-- divisor(one, other): slots one 0, other 1 -/
def b_divisor : DS :=
    (dSeq (dAsg (.name 0) (eA oAbs (aCons (eVar 0) aNil)))
    (dSeq (dAsg (.name 1) (eA oAbs (aCons (eVar 1) aNil)))
    (dSeq (dWhile (tVal (e2 oGt (eVar 1) (eC (.int 0)))) (dPar 0 1 (eVar 1) (e2 oMod (eVar 0) (eVar 1))))
    (dRet (eVar 0)))))
def f_divisor : DF := fnD 2 b_divisor
/-- read_fraction(text): slots text 0, top 1, stroke 2, bottom 3, found 4 -/
def b_read_fraction : DS :=
    (dSeq (dAsg (.tup [(.name 1), (.name 2), (.name 3)]) (eM mPart (eVar 0) (aCons (eC (.str "/")) aNil)))
    (dSeq (dIf (tVal (e2 oEq (eVar 2) (eC (.str "")))) (dRet (eTup (aCons (eCall f_read_whole (aCons (eVar 1) (aCons (eC v_MOST_FIGURES) aNil))) (aCons (eC (.int 1)) aNil)))) dPass)
    (dSeq (dAsg (.name 4) (eTup (aCons (eCall f_read_whole (aCons (eVar 1) (aCons (eC v_MOST_FIGURES) aNil))) (aCons (eCall f_read_whole (aCons (eVar 3) (aCons (eC v_MOST_FIGURES) aNil))) aNil))))
    (dSeq (dExpr (eCall f_must (aCons (eAnd (e2 oGt (e2 oIx (eVar 4) (eC (.int 1))) (eC (.int 1))) (e2 oEq (eCall f_divisor (aCons (e2 oIx (eVar 4) (eC (.int 0))) (aCons (e2 oIx (eVar 4) (eC (.int 1))) aNil))) (eC (.int 1)))) aNil)))
    (dRet (eVar 4))))))
def f_read_fraction : DF := fnD 5 b_read_fraction
def bx_read_fraction : DX :=
    (xSeq (dAsg (.tup [(.name 1), (.name 2), (.name 3)]) (eM mPart (eVar 0) (aCons (eC (.str "/")) aNil))) (xAlt (xIf (tVal (e2 oEq (eVar 2) (eC (.str "")))) (xCall x_read_whole (aCons (eVar 1) (aCons (eC v_MOST_FIGURES) aNil))) xNo) (xSeq (dIf (tVal (e2 oEq (eVar 2) (eC (.str "")))) (dRet (eTup (aCons (eCall f_read_whole (aCons (eVar 1) (aCons (eC v_MOST_FIGURES) aNil))) (aCons (eC (.int 1)) aNil)))) dPass) (xAlt (xAlt (xCall x_read_whole (aCons (eVar 1) (aCons (eC v_MOST_FIGURES) aNil))) (xThen (eCall f_read_whole (aCons (eVar 1) (aCons (eC v_MOST_FIGURES) aNil))) (xCall x_read_whole (aCons (eVar 3) (aCons (eC v_MOST_FIGURES) aNil))))) (xSeq (dAsg (.name 4) (eTup (aCons (eCall f_read_whole (aCons (eVar 1) (aCons (eC v_MOST_FIGURES) aNil))) (aCons (eCall f_read_whole (aCons (eVar 3) (aCons (eC v_MOST_FIGURES) aNil))) aNil)))) (xCall x_must (aCons (eAnd (e2 oGt (e2 oIx (eVar 4) (eC (.int 1))) (eC (.int 1))) (e2 oEq (eCall f_divisor (aCons (e2 oIx (eVar 4) (eC (.int 0))) (aCons (e2 oIx (eVar 4) (eC (.int 1))) aNil))) (eC (.int 1)))) aNil)))))))
def x_read_fraction : FX := fnX 5 bx_read_fraction
/-- _law_class(_law_caught): slots _law_caught 0, _law_some 1, _law_names 2; cells _law_some -/
def b__law_class : DS :=
    (dSeq (dAsg (.name 1) (eLst true (aCons (e1 (oIsX ["NoText"] []) (eVar 0)) (aCons (e1 (oIsX ["NoText"] []) (eVar 0)) (aCons (e1 (oIsX ["NoText"] []) (eVar 0)) aNil)))))
    (dSeq (dAsg (.name 1) (e2 (oAdd true) (eVar 1) (eLst false (aCons (e1 (oIsX ["NoText"] []) (eVar 0)) (aCons (e1 (oIsX ["NoText"] []) (eVar 0)) (aCons (e1 (oIsX ["NoText"] []) (eVar 0)) aNil))))))
    (dSeq (dAsg (.name 1) (e2 (oAdd true) (eVar 1) (eLst false (aCons (e1 (oIsX ["NoText"] []) (eVar 0)) (aCons (e1 (oIsX ["NoText"] []) (eVar 0)) (aCons (e1 (oIsX ["NoText"] ["NoText"]) (eVar 0)) aNil))))))
    (dSeq (dAsg (.name 1) (e2 (oAdd true) (eVar 1) (eLst false (aCons (e1 (oIsX ["NoText"] []) (eVar 0)) (aCons (e1 (oIsX ["NoText"] []) (eVar 0)) (aCons (e1 (oIsX ["NoText"] []) (eVar 0)) aNil))))))
    (dSeq (dExpr (eM mAppend (eVar 1) (aCons (e1 (oIsX ["NoText"] []) (eVar 0)) aNil)))
    (dSeq (dIf (tVal (e1 oIsN (eVar 0))) (dRet (eC (.str "none"))) dPass)
    (dSeq (dIf (Rw.tOr (Rw.tNot (tVal (e1 (oIsX ["NoText"] ["NoText"]) (eVar 0)))) (tVal (e2 oNe (eM mCount (eVar 1) (aCons (eC (.bl true)) aNil)) (eC (.int 1))))) (dRet (eC (.str "odd"))) dPass)
    (dSeq (dAsg (.name 2) (eLst false (aCons (eC (.str "kind")) (aCons (eC (.str "gap")) (aCons (eC (.str "length")) (aCons (eC (.str "place")) (aCons (eC (.str "number")) (aCons (eC (.str "full")) (aCons (eC (.str "empty")) (aCons (eC (.str "deed")) (aCons (eC (.str "text")) (aCons (eC (.str "line")) aNil))))))))))))
    (dRet (e2 oIx (e2 (oAdd false) (eVar 2) (eLst false (aCons (eC (.str "bounds")) (aCons (eC (.str "tracks")) (aCons (eC (.str "count")) aNil))))) (eM mIndex (eVar 1) (aCons (eC (.bl true)) aNil))))))))))))
def f__law_class : DF := fnD 3 b__law_class
/-- read_row(text): slots text 0, words 1, word 2 -/
def b_read_row : DS :=
    (dSeq (dIf (tVal (e2 oEq (eVar 0) (eC (.str "")))) (dRet (eLst false aNil)) dPass)
    (dSeq (dAsg (.name 1) (eM (mSplit false) (eVar 0) (aCons (eC (.str " ")) aNil)))
    (dSeq (dExpr (eCall f_must (aCons (e2 oLe (eA oLen (aCons (eVar 1) aNil)) (eC v_MOST_NUMBERS)) aNil)))
    (dRet (eComp false (iS (eVar 1)) (.name 2) Rw.tYes (eCall f_read_whole (aCons (eVar 2) (aCons (eC v_FEW_FIGURES) aNil))) [2])))))
def f_read_row : DF := fnD 3 b_read_row
def bx_read_row : DX :=
    (xSeq (dIf (tVal (e2 oEq (eVar 0) (eC (.str "")))) (dRet (eLst false aNil)) dPass) (xSeq (dAsg (.name 1) (eM (mSplit false) (eVar 0) (aCons (eC (.str " ")) aNil))) (xAlt (xCall x_must (aCons (e2 oLe (eA oLen (aCons (eVar 1) aNil)) (eC v_MOST_NUMBERS)) aNil)) (xSeq (dExpr (eCall f_must (aCons (e2 oLe (eA oLen (aCons (eVar 1) aNil)) (eC v_MOST_NUMBERS)) aNil))) (xLc (iS (eVar 1)) (.name 2) (eCall f_read_whole (aCons (eVar 2) (aCons (eC v_FEW_FIGURES) aNil))) (xCall x_read_whole (aCons (eVar 2) (aCons (eC v_FEW_FIGURES) aNil))) [2])))))
def x_read_row : FX := fnX 3 bx_read_row
/-- read_near(words, many): slots words 0, many 1, found 2 -/
def b_read_near : DS :=
    (dSeq (dIf (tVal (e2 oEq (eVar 0) (eLst false (aCons (eC (.str "none")) aNil)))) (dRet (eC .non)) dPass)
    (dSeq (dExpr (eCall f_must (aCons (e2 oEq (eA oLen (aCons (eVar 0) aNil)) (eC (.int 2))) aNil)))
    (dSeq (dAsg (.name 2) (eTup (aCons (eCall f_read_fraction (aCons (e2 oIx (eVar 0) (eC (.int 0))) aNil)) (aCons (eCall f_read_whole (aCons (e2 oIx (eVar 0) (eC (.int 1))) (aCons (eC v_FEW_FIGURES) aNil))) aNil))))
    (dSeq (dExpr (eCall f_must (aCons (eAnd (e2 oGe (e2 oIx (e2 oIx (eVar 2) (eC (.int 0))) (eC (.int 0))) (eC (.int 0))) (eChain oLe oLt (eC (.int 0)) (e2 oIx (eVar 2) (eC (.int 1))) (eVar 1))) aNil)))
    (dRet (eVar 2))))))
def f_read_near : DF := fnD 3 b_read_near
def bx_read_near : DX :=
    (xSeq (dIf (tVal (e2 oEq (eVar 0) (eLst false (aCons (eC (.str "none")) aNil)))) (dRet (eC .non)) dPass) (xAlt (xCall x_must (aCons (e2 oEq (eA oLen (aCons (eVar 0) aNil)) (eC (.int 2))) aNil)) (xSeq (dExpr (eCall f_must (aCons (e2 oEq (eA oLen (aCons (eVar 0) aNil)) (eC (.int 2))) aNil))) (xAlt (xAlt (xCall x_read_fraction (aCons (e2 oIx (eVar 0) (eC (.int 0))) aNil)) (xThen (eCall f_read_fraction (aCons (e2 oIx (eVar 0) (eC (.int 0))) aNil)) (xCall x_read_whole (aCons (e2 oIx (eVar 0) (eC (.int 1))) (aCons (eC v_FEW_FIGURES) aNil))))) (xSeq (dAsg (.name 2) (eTup (aCons (eCall f_read_fraction (aCons (e2 oIx (eVar 0) (eC (.int 0))) aNil)) (aCons (eCall f_read_whole (aCons (e2 oIx (eVar 0) (eC (.int 1))) (aCons (eC v_FEW_FIGURES) aNil))) aNil)))) (xCall x_must (aCons (eAnd (e2 oGe (e2 oIx (e2 oIx (eVar 2) (eC (.int 0))) (eC (.int 0))) (eC (.int 0))) (eChain oLe oLt (eC (.int 0)) (e2 oIx (eVar 2) (eC (.int 1))) (eVar 1))) aNil)))))))
def x_read_near : FX := fnX 3 bx_read_near
/-- read_table(text): slots text 0, lines 1, found 2, place 3, line 4, words 5; cells found -/
def b_read_table : DS :=
    (dSeq (dIf (tVal (e2 oEq (eVar 0) (eC (.str "")))) (dRet (eLst true aNil)) dPass)
    (dSeq (dAsg (.name 1) (eM (mSplit false) (eVar 0) (aCons (eC (.str "\n")) aNil)))
    (dSeq (dExpr (eCall f_must (aCons (e2 oLe (eA oLen (aCons (eVar 1) aNil)) (eC v_MOST_NUMBERS)) aNil)))
    (dSeq (dAsg (.name 2) (eLst true aNil))
    (dSeq (dFor (iEn (aCons (eVar 1) aNil)) (.tup [(.name 3), (.name 4)]) (dWipe [3, 4, 5] (dSeq (dAsg (.name 5) (eM (mSplit false) (eVar 4) (aCons (eC (.str " ")) aNil)))
      (dSeq (dExpr (eCall f_must (aCons (e2 oEq (e2 oIx (eVar 5) (eC (.int 0))) (eA oStrI (aCons (eVar 3) aNil))) aNil)))
      (dExpr (eM mAppend (eVar 2) (aCons (eCall f_read_near (aCons (eSl (slU false) (eVar 5) (pSome (eC (.int 1))) pNone) (aCons (eA oLen (aCons (eVar 1) aNil)) aNil))) aNil)))))))
    (dRet (eVar 2)))))))
def f_read_table : DF := fnD 6 b_read_table
def bx_read_table : DX :=
    (xSeq (dIf (tVal (e2 oEq (eVar 0) (eC (.str "")))) (dRet (eLst true aNil)) dPass) (xSeq (dAsg (.name 1) (eM (mSplit false) (eVar 0) (aCons (eC (.str "\n")) aNil))) (xAlt (xCall x_must (aCons (e2 oLe (eA oLen (aCons (eVar 1) aNil)) (eC v_MOST_NUMBERS)) aNil)) (xSeq (dExpr (eCall f_must (aCons (e2 oLe (eA oLen (aCons (eVar 1) aNil)) (eC v_MOST_NUMBERS)) aNil))) (xSeq (dAsg (.name 2) (eLst true aNil)) (xFor (iEn (aCons (eVar 1) aNil)) (.tup [(.name 3), (.name 4)]) (dWipe [3, 4, 5] (dSeq (dAsg (.name 5) (eM (mSplit false) (eVar 4) (aCons (eC (.str " ")) aNil)))
      (dSeq (dExpr (eCall f_must (aCons (e2 oEq (e2 oIx (eVar 5) (eC (.int 0))) (eA oStrI (aCons (eVar 3) aNil))) aNil)))
      (dExpr (eM mAppend (eVar 2) (aCons (eCall f_read_near (aCons (eSl (slU false) (eVar 5) (pSome (eC (.int 1))) pNone) (aCons (eA oLen (aCons (eVar 1) aNil)) aNil))) aNil)))))) (xSeq (dAsg (.name 5) (eM (mSplit false) (eVar 4) (aCons (eC (.str " ")) aNil))) (xAlt (xCall x_must (aCons (e2 oEq (e2 oIx (eVar 5) (eC (.int 0))) (eA oStrI (aCons (eVar 3) aNil))) aNil)) (xSeq (dExpr (eCall f_must (aCons (e2 oEq (e2 oIx (eVar 5) (eC (.int 0))) (eA oStrI (aCons (eVar 3) aNil))) aNil))) (xApp (eVar 2) (xCall x_read_near (aCons (eSl (slU false) (eVar 5) (pSome (eC (.int 1))) pNone) (aCons (eA oLen (aCons (eVar 1) aNil)) aNil)))))))))))))
def x_read_table : FX := fnX 6 bx_read_table
/-- _law_judged(_law_text_here): slots _law_text_here 0, _law_dues 1, _law_way 2, _law_caught 3, _law_found 4, e 5 -/
def b__law_judged : DS :=
    (dSeq (dAsg (.name 1) (eLst false (aCons (eCall f__law_fraction_of (aCons (eVar 0) aNil)) (aCons (eCall f__law_row_of (aCons (eVar 0) aNil)) (aCons (eFrz (eCall f__law_table_of (aCons (eVar 0) aNil))) aNil)))))
    (dSeq (dFor (iR1 (aCons (eC (.int 3)) aNil)) (.name 2) (dWipe [2, 3, 4, 5] (dSeq (dAsg (.name 3) (eC .non))
      (dSeq (dAsg (.name 4) (eC .non))
      (dSeq (dTryAs ["NoText"] (dIf (tVal (e2 oEq (eVar 2) (eC (.int 0)))) (dAsg (.name 4) (eCall f_read_fraction (aCons (eVar 0) aNil))) (dIf (tVal (e2 oEq (eVar 2) (eC (.int 1)))) (dAsg (.name 4) (eCall f_read_row (aCons (eVar 0) aNil))) (dAsg (.name 4) (eFrz (eCall f_read_table (aCons (eVar 0) aNil)))))) (xIf (tVal (e2 oEq (eVar 2) (eC (.int 0)))) (xCall x_read_fraction (aCons (eVar 0) aNil)) (xIf (tVal (e2 oEq (eVar 2) (eC (.int 1)))) (xCall x_read_row (aCons (eVar 0) aNil)) (xCall x_read_table (aCons (eVar 0) aNil)))) 5 3)
      (dSeq (dIf (Rw.tAnd (tVal (e1 oIsN (e2 oIx (eVar 1) (eVar 2)))) (tVal (e2 oNe (eCall f__law_class (aCons (eVar 3) aNil)) (eC (.str "text"))))) (dRet (eC (.bl false))) dPass)
      (dIf (Rw.tAnd (tVal (e1 oNotN (e2 oIx (eVar 1) (eVar 2)))) (Rw.tOr (tVal (e1 oNotN (eVar 3))) (tVal (e2 oNe (eVar 4) (e2 oIx (eVar 1) (eVar 2)))))) (dRet (eC (.bl false))) dPass)))))))
    (dRet (eC (.bl true)))))
def f__law_judged : DF := fnD 6 b__law_judged
/-- _law_bent(_law_purse_here, _law_text_here): slots _law_purse_here 0, _law_text_here 1, _law_way 2, _law_at_here 3, _law_sign 4, _law_signs 5, _law_by 6, _law_words 7, _law_one 8, _law_kind 9, _law_left 10; cells _law_purse_here -/
def b__law_bent : DS :=
    (dSeq (dAsg (.name 2) (eCall f__law_draw (aCons (eVar 0) (aCons (eC (.int 9)) aNil))))
    (dSeq (dAsg (.name 3) (eCall f__law_draw (aCons (eVar 0) (aCons (e2 (oAdd false) (eA oLen (aCons (eVar 1) aNil)) (eC (.int 1))) aNil))))
    (dSeq (dAsg (.name 4) (e2 oIx (eC (.str "0123456789-/ none+.\n_")) (eCall f__law_draw (aCons (eVar 0) (aCons (eC (.int 21)) aNil)))))
    (dSeq (dIf (tVal (e2 oEq (eCall f__law_draw (aCons (eVar 0) (aCons (eC (.int 4)) aNil))) (eC (.int 3)))) (dSeq (dAsg (.name 5) (eC (.str "!\"#$&'()*,.:;<=>?@ABCDEFGHIJKLMNOPQRSTUVWXYZ[\\]^`abcdefghijklmnopqrstuvwxyz{|}~")))
      (dAsg (.name 4) (e2 oIx (eVar 5) (eCall f__law_draw (aCons (eVar 0) (aCons (eA oLen (aCons (eVar 5) aNil)) aNil)))))) dPass)
    (dSeq (dIf (tVal (e2 oLt (eVar 2) (eC (.int 2)))) (dRet (e2 (oAdd false) (e2 (oAdd false) (eSl (slV false) (eVar 1) pNone (pSome (eVar 3))) (eVar 4)) (eSl (slV false) (eVar 1) (pSome (eVar 3)) pNone))) dPass)
    (dSeq (dIf (tVal (e2 oLt (eVar 2) (eC (.int 4)))) (dRet (e2 (oAdd false) (eSl (slV false) (eVar 1) pNone (pSome (eVar 3))) (eSl (slV false) (eVar 1) (pSome (e2 (oAdd false) (eVar 3) (eC (.int 1)))) pNone))) dPass)
    (dSeq (dIf (tVal (e2 oLt (eVar 2) (eC (.int 6)))) (dRet (e2 (oAdd false) (e2 (oAdd false) (eSl (slV false) (eVar 1) pNone (pSome (eVar 3))) (eVar 4)) (eSl (slV false) (eVar 1) (pSome (e2 (oAdd false) (eVar 3) (eC (.int 1)))) pNone))) dPass)
    (dSeq (dAsg (.name 6) (e2 oIx (eLst false (aCons (eC (.str " ")) (aCons (eC (.str "\n")) (aCons (eC (.str "/")) aNil)))) (e2 oSub (eVar 2) (eC (.int 6)))))
    (dSeq (dAsg (.name 7) (eM (mSplit false) (eVar 1) (aCons (eVar 6) aNil)))
    (dSeq (dAsg (.name 8) (e2 oIx (eVar 7) (eCall f__law_draw (aCons (eVar 0) (aCons (eA oLen (aCons (eVar 7) aNil)) aNil)))))
    (dSeq (dAsg (.name 3) (eCall f__law_draw (aCons (eVar 0) (aCons (eA oLen (aCons (eVar 7) aNil)) aNil))))
    (dSeq (dAsg (.name 9) (eCall f__law_draw (aCons (eVar 0) (aCons (eC (.int 3)) aNil))))
    (dSeq (dAsg (.name 10) (eSl (slU false) (eVar 7) (pSome (e2 (oAdd false) (eVar 3) (eA oInt (aCons (e2 oNe (eVar 9) (eC (.int 1))) aNil)))) pNone))
    (dRet (eM mJoin (eVar 6) (aCons (e2 (oAdd false) (e2 (oAdd false) (eSl (slU false) (eVar 7) pNone (pSome (eVar 3))) (eSl (slU false) (eLst false (aCons (eVar 8) aNil)) pNone (pSome (eA oInt (aCons (e2 oGt (eVar 9) (eC (.int 0))) aNil))))) (eVar 10)) aNil))))))))))))))))
def f__law_bent : DF := fnD 11 b__law_bent
/-- _law_odd(): slots _law_some 0, _law_many 1, _law_nines 2, _law_last 3, _law_lines 4, _law_place 5; cells _law_some -/
def b__law_odd : DS :=
    (dSeq (dAsg (.name 0) (eLst true (aCons (eC (.str "")) (aCons (eC (.str " ")) (aCons (eC (.str "0")) (aCons (eC (.str "-0")) (aCons (eC (.str "00")) (aCons (eC (.str "01")) (aCons (eC (.str "-1")) (aCons (eC (.str "+1")) (aCons (eC (.str "1/2")) (aCons (eC (.str "2/4")) (aCons (eC (.str "1/1")) (aCons (eC (.str "0/2")) aNil))))))))))))))
    (dSeq (dAsg (.name 0) (e2 (oAdd true) (eVar 0) (eLst false (aCons (eC (.str "-1/2")) (aCons (eC (.str "1/-2")) (aCons (eC (.str "1/0")) (aCons (eC (.str "1/2/3")) (aCons (eC (.str "/")) aNil))))))))
    (dSeq (dAsg (.name 0) (e2 (oAdd true) (eVar 0) (eLst false (aCons (eC (.str "1/")) (aCons (eC (.str "/2")) (aCons (eC (.str "1 / 2")) (aCons (eC (.str "1.5")) (aCons (eC (.str "1_0")) (aCons (eC (.str "1 2")) (aCons (eC (.str "1  2")) (aCons (eC (.str " 1")) (aCons (eC (.str "1 ")) aNil))))))))))))
    (dSeq (dAsg (.name 0) (e2 (oAdd true) (eVar 0) (eLst false (aCons (eC (.str "1\n")) (aCons (eC (.str "a")) (aCons (eC (.str "none")) (aCons (eC (.str "0 none")) (aCons (eC (.str "1 none")) aNil))))))))
    (dSeq (dAsg (.name 0) (e2 (oAdd true) (eVar 0) (eLst false (aCons (eC (.str "0 none\n")) (aCons (eC (.str "0 none\n1 none")) (aCons (eC (.str "0 none\n2 none")) (aCons (eC (.str "0 0 0")) (aCons (eC (.str "0 0 1")) aNil))))))))
    (dSeq (dAsg (.name 0) (e2 (oAdd true) (eVar 0) (eLst false (aCons (eC (.str "0 -1 0")) (aCons (eC (.str "0 1/2 0")) (aCons (eC (.str "0 2/4 0")) aNil))))))
    (dSeq (dAsg (.name 0) (e2 (oAdd true) (eVar 0) (eLst false (aCons (eC (.str "0 1/2 -0")) (aCons (eC (.str "0  none")) (aCons (eC (.str "0 None")) (aCons (eC (.str "00 none")) (aCons (eC (.str "0 1/2 0 0")) (aCons (eC (.str "0 1/2\n1 none")) aNil)))))))))
    (dSeq (dFor (iS (eLst false (aCons (eC (.int 9)) (aCons (eC (.int 10)) (aCons (eC (.int 200)) (aCons (eC (.int 201)) aNil)))))) (.name 1) (dWipe [1, 2] (dSeq (dAsg (.name 2) (e2 oMulS (eC (.str "9")) (eVar 1)))
      (dSeq (dAsg (.name 0) (e2 (oAdd true) (eVar 0) (eLst false (aCons (eVar 2) (aCons (e2 (oAdd false) (eC (.str "-")) (eVar 2)) (aCons (e2 (oAdd false) (eC (.str "1/")) (eVar 2)) aNil))))))
      (dAsg (.name 0) (e2 (oAdd true) (eVar 0) (eLst false (aCons (e2 (oAdd false) (e2 (oAdd false) (eC (.str "0 ")) (eVar 2)) (eC (.str " 0"))) (aCons (e2 (oAdd false) (eVar 2) (eC (.str " 1"))) aNil)))))))))
    (dPre [1] (dSeq (dFor (iS (eLst false (aCons (eC (.int 200)) (aCons (eC (.int 201)) aNil)))) (.name 1) (dWipe [1, 3, 4] (dSeq (dExpr (eM mAppend (eVar 0) (aCons (e1 (oJoin " ") (e2 (oMulU false) (eLst false (aCons (eC (.str "7")) aNil)) (eVar 1))) aNil)))
      (dSeq (dAsg (.name 3) (e2 (oAdd false) (eC (.str " 1/3 ")) (eA oStrI (aCons (e2 oSub (eVar 1) (eC (.int 1))) aNil))))
      (dSeq (dAsg (.name 4) (eComp false (iR1 (aCons (eVar 1) aNil)) (.name 5) Rw.tYes (e2 (oAdd false) (eA oStrI (aCons (eVar 5) aNil)) (eVar 3)) [5]))
      (dExpr (eM mAppend (eVar 0) (aCons (e1 (oJoin "\n") (eVar 4)) aNil))))))))
    (dRet (eVar 0))))))))))))
def f__law_odd : DF := fnD 6 b__law_odd
/-- law(_law_script): slots _law_script 0, _law_k 1, _law_purse_here 2, _law_text_here 3, _law_turn 4; cells _law_purse_here -/
def b_law : DS :=
    (dSeq (dFor (iR1 (aCons (eC (.int 8)) aNil)) (.name 1) (dWipe [1, 2, 3, 4] (dSeq (dAsg (.name 2) (eCall f__law_purse (aCons (eVar 0) (aCons (eVar 1) aNil))))
      (dSeq (dAsg (.name 3) (eCall f__law_text (aCons (eVar 2) aNil)))
      (dSeq (dIf (Rw.tNot (tVal (eCall f__law_judged (aCons (eVar 3) aNil)))) (dRet (eC (.bl false))) dPass)
      (dPre [4] (dFor (iR1 (aCons (e2 (oAdd false) (eC (.int 1)) (eCall f__law_draw (aCons (eVar 2) (aCons (eC (.int 3)) aNil)))) aNil)) (.name 4) (dWipe [4] (dSeq (dAsg (.name 3) (eCall f__law_bent (aCons (eVar 2) (aCons (eVar 3) aNil))))
        (dIf (Rw.tNot (tVal (eCall f__law_judged (aCons (eVar 3) aNil)))) (dRet (eC (.bl false))) dPass))))))))))
    (dRet (e2 oEq (eA oLen (aCons (eComp false (iS (eFrz (eCall f__law_odd aNil))) (.name 3) (Rw.tNot (tVal (eCall f__law_judged (aCons (eVar 3) aNil)))) (eVar 3) [3]) aNil)) (eC (.int 0)))))
def f_law : DF := fnD 5 b_law
end
end Lk87
end PDk87
section PUk87
set_option linter.all false
set_option maxHeartbeats 4000000
set_option maxRecDepth 100000
namespace Lk87
open Rw
theorem divisor_eq {M : DSt} (a b : Int) : f_divisor [.d (.int a), .d (.int b)] M = some (.d (.int (Int.gcd a b)), M) := by
  apply ok_eq
  unfold f_divisor
  rw [ok_fn]
  simp [b_divisor, startD]
  have g := gcd_while (i := 0) (j := 1) (by decide) (M := M) _ (ρ := [some (.d (.int (if a < 0 then -a else a))), some (.d (.int (if b < 0 then -b else b)))]) rfl (abs_nn a) (abs_nn b) (by simp) (by simp) rfl rfl
  unfold gcdLoop at g
  rw [g, gcd_abs]
  simp
theorem at_ok {M : DSt} {ns : List Int} {k : Nat} : Ok (f__law_at [.r (ns.map D.int), .d (.int k)] M) fun p => ∃ c, p = (.d (.int c), M) := by
  unfold f__law_at
  rw [ok_fn]
  by_cases h : k < ns.length
  · obtain ⟨z, hz, e⟩ := atN h
    have h' : (k : Int) < ns.length := by omega
    simp [b__law_at, startD, h', ok_atN e]
  · have h' : ¬ (k : Int) < ns.length := by omega
    simp [b__law_at, startD, h']
theorem purse_ok {M : DSt} {ns : List Int} {k : Nat} (hk : k ≤ 1000) : Ok (f__law_purse [.r (ns.map D.int), .d (.int k)] M) fun p => ∃ x, p = (.c M.length, M ++ [some x]) ∧ ∃ a c q : Int, x = [.int a, .int c, .int q] ∧ 0 ≤ q ∧ q ≤ 1000000 := by
  unfold f__law_purse
  rw [ok_fn]
  simp [b__law_purse, startD, -seqP_nx]
  refine at_ok.mono ?_
  rintro _ ⟨c, rfl⟩
  simp [-seqP_nx]
  refine seqP_nx.mpr ?_
  simp [powOk, mulOk_l (x := 1000) (y := (k : Int)) (by decide) (by decide)]
  exact ⟨_, _, _, ⟨rfl, rfl, rfl⟩, by omega, by omega⟩
theorem mixed_ok {M : DSt} {c k : Int} (h0 : 0 ≤ k) (h1 : k ≤ 10 ^ 13) : Ok (f__law_mixed [.d (.int c), .d (.int k)] M) fun p => ∃ r, p = (.d (.int r), M) := by
  unfold f__law_mixed
  rw [ok_fn]
  simp [b__law_mixed, startD, -seqP_nx, mulOk_r (x := c) (y := 1103515245) (by decide) (by decide), mulOk_l (x := 7919) (y := k) (by decide) (by decide), mulOk_r (x := 7919 * k) (y := k) (by omega) (by omega)]
  have a0 := fmod_nn (c * 1103515245 + 7919 * k * k + k) (show (0 : Int) < 2147483647 by decide)
  have a1 := fmod_lt (c * 1103515245 + 7919 * k * k + k) (show (0 : Int) < 2147483647 by decide)
  generalize (c * 1103515245 + 7919 * k * k + k).fmod 2147483647 = z at *
  refine seqP_nx.mpr ?_
  simp [-seqP_nx, mulOk_r (x := z) (y := z) (by omega) (by omega)]
  refine seqP_nx.mpr ?_
  simp [mulOk_r (x := (z * z).fmod 2147483629) (y := 69621) (by decide) (by decide)]
def DrL (a c m : Int) (b n : Nat) (M : DSt) (o : Out) : Prop := ∃ (k' N : Int), o = .nx [some (.c n), some (.d (.int m)), none, some (.d (.int N)), none] (M.set n (some [.int a, .int c, .int k'])) ∧ 0 ≤ k' ∧ k' ≤ b + 4
theorem draw_ok {M : DSt} {b n : Nat} {m : Int} (h : Pu b n M) (hb : b ≤ 10 ^ 12) (h0 : 0 < m) (h1 : m ≤ 10 ^ 100) : Ok (f__law_draw [.c n, .d (.int m)] M) (DrawnU (b + 4) n m M) := by
  obtain ⟨a, c, k, e, k0, k1⟩ := h
  have hn := (List.getElem?_eq_some_iff.mp e).1
  have hm : m ≠ 0 := by omega
  have dm : divOk m := divOk_bd 400 (A := 10 ^ 100) ⟨by omega, h1⟩ hm (by decide) (by decide) (by decide)
  unfold f__law_draw
  rw [ok_fn]
  simp [b__law_draw, startD, -seqP_nx, celOk e]
  by_cases ha : 0 < a
  · simp [ha, hm, celOk e, -seqP_nx]
    refine seqP_nx.mpr ?_
    simp [celOk e, dm, -seqP_nx]
    refine seqP_nx.mpr ?_
    simp
    have f0 := fmod_nn a h0
    have f1 := fmod_lt a h0
    refine ⟨(a.fmod m).toNat, by omega, by rw [Int.toNat_of_nonneg f0], ⟨a.fdiv m, c, k, ?_, k0, by omega⟩, _, rfl⟩
    rw [List.getElem?_set_self hn]
  · simp [ha, -seqP_nx]
    refine seqP_nx.mpr ?_
    simp [-seqP_nx]
    refine seqP_nx.mpr ?_
    refine seq_by (DrL a c m b n M) ?_ ?_
    · have key : ∀ t : Nat, t ≤ 4 → Ok (forL (stand [] M) (forStep (.name 4) (dWipe [4] (dSeq (dPut (eVar 0) (eC (.int 2)) (e2 (oAdd false) (e2 oIx (eVar 0) (eC (.int 2))) (eC (.int 1))))
      (dAsg (.name 3) (e2 (oAdd false) (e2 (oMulU false) (eVar 3) (eC (.int 2147483587))) (eCall f__law_mixed (aCons (e2 oIx (eVar 0) (eC (.int 1))) (aCons (e2 oIx (eVar 0) (eC (.int 2))) aNil)))))))) (rng 0 t) [some (.c n), some (.d (.int m)), none, some (.d (.int 0)), none] M) (DrL a c m b n M) := by
        intro t ht
        refine forL_by _ (fun i ρ M' => ∃ N : Int, ρ = [some (.c n), some (.d (.int m)), none, some (.d (.int N)), none] ∧ M' = M.set n (some [.int a, .int c, .int (k + i)])) ⟨0, rfl, ?_⟩ ?_ ?_
        · obtain ⟨hn, e⟩ := List.getElem?_eq_some_iff.mp e
          simp only [Int.natCast_zero, Int.add_zero]
          rw [← e, List.set_getElem_self]
        · rintro i x ρ M' hx ⟨N, rfl, rfl⟩
          obtain ⟨hi, rfl⟩ := rng_at.mp hx
          have e1 : ∀ j : Int, (M.set n (some [D.int a, .int c, .int j]))[n]? = some (some [.int a, .int c, .int j]) := fun j => by rw [List.getElem?_set_self hn]
          refine ⟨by simp, ?_⟩
          simp [celOk (e1 _), -seqP_nx]
          refine seqP_nx.mpr ?_
          simp [celOk (e1 _), mulOk_r (x := N) (y := 2147483587) (by decide) (by decide)]
          refine (mixed_ok (by omega) (by omega)).mono ?_
          rintro _ ⟨r, rfl⟩
          simp
          rw [Int.add_assoc]
        · rintro ρ M' ⟨N, rfl, rfl⟩
          refine ⟨by simp, ?_⟩
          exact ⟨_, _, rfl, by omega, by simp at ht ⊢; omega⟩
      by_cases hg : (1000000000 : Int) < m
      · simp [powOk, hg]
        exact key 4 (by decide)
      · simp [powOk, hg]
        exact key 1 (by decide)
    · rintro o ⟨k', N, rfl, q0, q1⟩
      simp [hm]
      have f0 := fmod_nn N h0
      have f1 := fmod_lt N h0
      refine ⟨(N.fmod m).toNat, by omega, by rw [Int.toNat_of_nonneg f0], ⟨a, c, k', ?_, q0, by omega⟩, _, rfl⟩
      rw [List.getElem?_set_self hn]
theorem number_ok {M : DSt} {b n : Nat} {w : Int} (h : Pu b n M) (hb : b ≤ 10 ^ 11) : Ok (f__law_number [.c n, .d (.int w)] M) (DrawnV 9 (b + 8) n M) := by
  unfold f__law_number
  rw [ok_fn]
  by_cases w0 : w = 0
  · simp [b__law_number, startD, w0]
    refine (draw_ok h (by omega) (by decide) (by decide)).mono ?_
    rintro ⟨v, M1⟩ ⟨r, hr, hv, hM1⟩
    simp only at hv
    subst hv
    simp [hM1.take]
    exact ⟨_, ⟨by omega, by omega⟩, rfl, hM1.mono (by omega)⟩
  by_cases w1 : w = 1
  · simp [b__law_number, startD, w1]
    refine (draw_ok h (by omega) (by decide) (by decide)).mono ?_
    rintro ⟨v, M1⟩ ⟨r, hr, hv, hM1⟩
    simp only at hv
    subst hv
    simp [hM1.take]
    exact ⟨_, ⟨by omega, by omega⟩, rfl, hM1.mono (by omega)⟩
  by_cases w2 : w = 2
  · simp [b__law_number, startD, w2]
    refine (draw_ok h (by omega) (by decide) (by decide)).mono ?_
    rintro ⟨v, M1⟩ ⟨r, hr, hv, hM1⟩
    simp only at hv
    subst hv
    simp [hM1.take]
    exact ⟨_, ⟨by omega, by omega⟩, rfl, hM1.mono (by omega)⟩
  simp [b__law_number, startD, w0, w1, w2, powOk, mulOk_l (x := 2) (y := 10 ^ 9) (by decide) (by decide)]
  refine (draw_ok h (by omega) (by decide) (by decide)).mono ?_
  rintro ⟨v, M1⟩ ⟨r, hr, hv, hM1⟩
  simp only at hv
  subst hv
  simp
  refine (draw_ok hM1.1 (by omega) (by decide) (by decide)).mono ?_
  rintro ⟨v, M2⟩ ⟨q, hq, hv, hM2⟩
  simp only at hv
  subst hv
  simp
  refine pick (by omega) (by simpa using hq) fun z hz => ?_
  have ht : M2.take M.length = M2 := List.take_of_length_le (by rw [hM2.len, hM1.len]; exact Nat.le_refl _)
  rw [ht]
  obtain ⟨m, rfl, m0⟩ : ∃ m, z = .int m ∧ Bn 9 m := by
    simp at hz
    rcases hz with rfl | rfl | rfl
    · exact ⟨_, rfl, ⟨by omega, by omega⟩⟩
    · exact ⟨_, rfl, ⟨by decide, by decide⟩⟩
    · exact ⟨_, rfl, ⟨by decide, by decide⟩⟩
  exact ⟨m, m0, rfl, (hM1.trans hM2).mono (by omega)⟩
/-- between the turns of the row -/
def RowL (b n m c w : Nat) (M : DSt) (i : Nat) (ρ : DEnv) (M1 : DSt) : Prop := ∃ zs : List Int, Gu (b + 8 + 12 * i) n M M1 ∧ M1[M.length]? = some (some (zs.map D.int)) ∧ (∀ z ∈ zs, Bn 9 z) ∧ zs.length = i ∧ ρ = [some (.c n), some (.d (.int m)), some (.d (.int c)), some (.d (.int w)), some (.c M.length), none]
theorem RowL.push {b n m c w i b' : Nat} {M M1 : DSt} {zs : List Int} {z : Int} (hg : Gu b' n M M1) (hb : b' ≤ b + 8 + 12 * (i + 1)) (he : M1[M.length]? = some (some (zs.map D.int))) (hz : ∀ z ∈ zs, Bn 9 z) (hl : zs.length = i) (hn : Bn 9 z) :
    RowL b n m c w M (i + 1) [some (.c n), some (.d (.int m)), some (.d (.int c)), some (.d (.int w)), some (.c M.length), none] (M1.set M.length (some (zs.map D.int ++ [D.int z]))) := by
  refine ⟨zs ++ [z], (hg.put (Nat.le_refl _) _).mono hb, ?_, ?_, by simp [hl], rfl⟩
  · rw [List.getElem?_set_self (List.getElem?_eq_some_iff.mp he).1]
    simp
  · intro y hy
    rcases List.mem_append.mp hy with hy | hy
    · exact hz y hy
    · simp at hy
      subst hy
      exact hn
theorem row_ok {M : DSt} {b n m : Nat} (h : Pu b n M) (hb : b ≤ 10 ^ 10) (hm : m ≤ 60) : Ok (f__law_row [.c n, .d (.int m)] M) (RowU 9 (b + 1000) n m M) := by
  unfold f__law_row
  rw [ok_fn]
  simp [b__law_row, startD, -seqP_nx]
  refine (draw_ok h (by omega) (show (0 : Int) < (m : Int) + 1 by omega) (by omega)).mono ?_
  rintro ⟨v, M1⟩ ⟨c, hc, hv, hM1⟩
  simp only at hv
  subst hv
  have hg := h.grown.draw hM1
  simp [-seqP_nx]
  refine seqP_nx.mpr ?_
  simp [-seqP_nx]
  refine (draw_ok hM1.1 (by omega) (by decide) (by decide)).mono ?_
  rintro ⟨v, M2⟩ ⟨w, hw, hv, hM2⟩
  simp only at hv
  subst hv
  replace hg := hg.draw hM2
  have hlen : M2.length = M.length := by rw [hM2.len, hM1.len]
  simp [-seqP_nx]
  refine seqP_nx.mpr ?_
  simp [-seqP_nx]
  refine seqP_nx.mpr ?_
  rw [hlen]
  have hc0 : (M2 ++ [some ([] : List D)])[M.length]? = some (some (([] : List Int).map D.int)) := by
    rw [← hlen]
    simp
  have hg2 := hg.app (some [])
  generalize M2 ++ [some ([] : List D)] = M3 at *
  clear hM1 hM2 hlen hg
  refine seq_by (fun o => ∃ ρ M1, o = .nx ρ M1 ∧ RowL b n m c w M c ρ M1) ?_ ?_
  · simp [-seqP_nx]
    refine ⟨by omega, ?_⟩
    refine forL_by _ (RowL b n m c w M) ⟨[], hg2.mono (by omega), hc0, by simp, rfl, rfl⟩ ?_ ?_
    · rintro i x ρ M1 hx ⟨zs, hg, he, hz, hl, rfl⟩
      obtain ⟨hi, rfl⟩ := rng_at.mp hx
      have hi60 : i < 60 := by omega
      refine ⟨by simp, ?_⟩
      have other : ∀ {M4 : DSt} {b' : Nat} (hg4 : Gu b' n M M4) (hb4 : b' ≤ b + 12 + 12 * i) (he4 : M4[M.length]? = some (some (zs.map D.int))), Ok (dExpr (eM mAppend (eVar 4) (aCons (eCall f__law_number (aCons (eVar 0) (aCons (e2 oMod (eVar 3) (eC (.int 4))) aNil))) aNil)) [some (.c n), some (.d (.int m)), some (.d (.int c)), some (.d (.int w)), some (.c M.length), some (.d (.int i))] M4) fun o => turnP (RowL b n m c w M (i + 1)) (fun o => ∃ ρ M1, o = .nx ρ M1 ∧ RowL b n m c w M c ρ M1) (wipeO [5] o) := by
        intro M4 b' hg4 hb4 he4
        simp
        refine (number_ok hg4.pu (by omega)).mono ?_
        rintro ⟨v, M5⟩ ⟨z, hz9, hv, hM5⟩
        simp only at hv
        subst hv
        have he5 : M5[M.length]? = some (some (zs.map D.int)) := by
          rw [hM5.at (by have := hg4.1; omega)]
          exact he4
        simp [celOk he5]
        refine ⟨by omega, ?_⟩
        exact RowL.push (hg4.draw hM5) (by omega) he5 hz hl hz9
      by_cases w4 : w = 4
      · by_cases i2 : 2 < i
        · have i2' : (2 : Int) < (i : Int) := by omega
          simp [-seqP_nx, w4, i2']
          refine (draw_ok hg.pu (by omega) (by decide) (by decide)).mono ?_
          rintro ⟨v, M4⟩ ⟨r, hr, hv, hM4⟩
          simp only at hv
          subst hv
          have hg4 := hg.draw hM4
          have he4 : M4[M.length]? = some (some (zs.map D.int)) := by
            rw [hM4.at (by have := hg.1; omega)]
            exact he
          by_cases r0 : 0 < r
          · have r0' : (0 : Int) < (r : Int) := by omega
            have hj : i - 3 < zs.length := by omega
            have ej : (i : Int) - 3 = ((i - 3 : Nat) : Int) := by omega
            have ez := ints_at hj
            have bz := hz _ (ints_mem hj)
            generalize zs.getD (i - 3) 0 = z at *
            have f0 := fmod_nn (i : Int) (show (0 : Int) < 3 by decide)
            have f1 := fmod_lt (i : Int) (show (0 : Int) < 3 by decide)
            have bz0 := bz.1
            have bz1 := bz.2
            simp [r0, celOk he4, ej, ok_atN ez, powOk]
            by_cases hs : (if z < 0 then -z else z) < 100000000
            · simp [hs, mulOk_r (x := (i : Int).fmod 3) (y := 1) (by decide) (by decide)]
              refine pick f0 (by simpa using f1) fun q hq => ?_
              obtain ⟨u, rfl, u0, u1⟩ : ∃ u : Int, q = .int u ∧ 1 ≤ u ∧ u ≤ 2 := by
                simp at hq
                rcases hq with rfl | rfl
                · exact ⟨1, rfl, by decide, by decide⟩
                · exact ⟨2, rfl, by decide, by decide⟩
              have hu : u = 1 ∨ u = 2 := by omega
              simp [mulOk_r (x := z) (y := u) (by omega) (by omega), celOk he4]
              refine ⟨by omega, ?_⟩
              have := RowL.push (b := b) (m := m) (c := c) (w := w) (z := z * u) hg4 (by omega) he4 hz hl (by
                have hs' : -100000000 < z ∧ z < 100000000 := by split at hs <;> omega
                rcases hu with rfl | rfl
                · exact ⟨by omega, by omega⟩
                · exact ⟨by omega, by omega⟩)
              simpa [w4] using this
            · simp [hs, mulOk_r (x := (i : Int).fmod 3) (y := 0) (by decide) (by decide)]
              simp [mulOk_r (x := z) (y := 1) (by omega) (by omega), celOk he4]
              refine ⟨by omega, ?_⟩
              have := RowL.push (b := b) (m := m) (c := c) (w := w) (z := z) hg4 (by omega) he4 hz hl bz
              simpa [w4] using this
          · have r0' : ¬ (0 : Int) < (r : Int) := by omega
            have := other hg4 (by omega) he4
            simp only [w4] at this
            simp [r0]
            simpa using this
        · have i2' : ¬ (2 : Int) < (i : Int) := by omega
          have := other hg (by omega) he
          simp only [w4] at this
          simp [-ok_expr, w4, i2']
          simpa [-ok_expr] using this
      · have w4' : ¬ (w : Int) = 4 := by omega
        have := other hg (by omega) he
        simp [-ok_expr, w4']
        simpa [-ok_expr] using this
    · rintro ρ M1 hI
      simp at hI
      exact ⟨by simp, ρ, M1, rfl, hI⟩
  · rintro o ⟨ρ, M1, rfl, zs, hg, he, hz, hl, rfl⟩
    simp
    exact RowU_fin ⟨hz, by omega⟩ (by omega) (hg.mono (by omega)) (Nat.le_refl _) he
theorem must_eq {M : DSt} : f_must [.d (.bl true)] M = some (.d .non, M) := by
  apply ok_eq
  unfold f_must
  rw [ok_fn]
  simp [b_must, startD]
theorem fin_of {l : List Nat} (h : ∀ c ∈ l, c < 128) : strFine (tx l) = true := strFine_tx fun c hc => by have := h c hc; omega
theorem whole_len {l : List Nat} {most : Int} (h : wholeOk l most) : (l.length : Int) ≤ most + 1 := by
  have := h.1.2
  unfold figs at this
  split at this
  · rw [List.length_drop] at this; omega
  · omega
theorem whole_low {l : List Nat} {most : Int} (h : wholeOk l most) : ∀ c ∈ l, c < 128 := by
  have h2 := h.2.1
  unfold figs at h2
  intro c hc
  split at h2
  · rename_i q
    cases l with
    | nil => simp at hc
    | cons a r =>
      simp at q
      subst q
      rcases List.mem_cons.mp hc with e | e
      · omega
      · have := h2 c (by simpa using e)
        simp [isFig] at this
        omega
  · have := h2 c hc
    simp [isFig] at this
    omega
theorem fig_in {c : Nat} : c ∈ [48, 49, 50, 51, 52, 53, 54, 55, 56, 57] ↔ isFig c = true := by
  simp [isFig]
  omega
theorem take1 {l : List Nat} : (tx (l.take 1) == tx [45]) = decide (l.take 1 = [45]) := tx_beq
/-- the loop over the figures -/
theorem fig_loop {M : DSt} {P : Out → Prop} (a b c : Option Dv) (l : List Nat) (h : ∀ x ∈ l, isFig x = true) (hl : P (.nx [a, b, c, none] M)) :
    Ok (forL (stand [] M) (forStep (.name 3) (dWipe [3] (dExpr (eCall f_must (aCons (e2 (oInS false) (eVar 3) (eC v_FIGURES)) aNil))))) (l.map fun c => D.str (tx [c])) [a, b, c, none] M) P := by
  refine forL_by _ (fun i ρ M' => ρ = [a, b, c, none] ∧ M' = M) ⟨rfl, rfl⟩ ?_ ?_
  · rintro i x ρ M1 hx ⟨rfl, rfl⟩
    refine ⟨by simp [stand], ?_⟩
    rw [List.getElem?_map] at hx
    cases e : l[i]? with
    | none => rw [e] at hx; cases hx
    | some y =>
      rw [e] at hx
      cases hx
      have hy := h y (List.mem_of_getElem? e)
      have : y ∈ [48, 49, 50, 51, 52, 53, 54, 55, 56, 57] := fig_in.mpr hy
      simp [v_FIGURES, lit_fig, this, -List.mem_cons, must_eq]
  · rintro ρ M1 ⟨rfl, rfl⟩
    exact ⟨by simp [stand], hl⟩
theorem read_whole_eq {M : DSt} {l : List Nat} {most n : Int} (h : wholeZ l most = some n) (hm : most ≤ 600) : f_read_whole [.d (.str (tx l)), .d (.int most)] M = some (.d (.int n), M) := by
  unfold wholeZ at h
  split at h
  · rename_i hw
    cases h
    have hlen := whole_len hw
    have hlow := whole_low hw
    have hf : strFine (tx l) = true := fin_of hlow
    have hf1 : strFine (tx (l.take 1)) = true := fin_of fun c hc => hlow c (List.mem_of_mem_take hc)
    apply ok_eq
    unfold f_read_whole
    rw [ok_fn]
    simp [b_read_whole, startD, -seqP_nx]
    refine seqP_nx.mpr ?_
    have c1 : L2.cutS (tx l) none (some 1) = tx (l.take 1) := cut_to l 1
    have c2 : L2.cutS (tx l) (some 1) none = tx (l.drop 1) := cut_from l 1
    have hb : l.length ≤ big := by unfold big; omega
    have step : Ok ((dIf (tVal (e2 oEq (eSl (slV false) (eVar 0) pNone (pSome (eC (.int 1)))) (eC (.str "-")))) (dAsg (.name 2) (eSl (slV false) (eVar 0) (pSome (eC (.int 1))) pNone)) dPass) [some (.d (.str (tx l))), some (.d (.int most)), some (.d (.str (tx l))), none] M) fun o => o = .nx [some (.d (.str (tx l))), some (.d (.int most)), some (.d (.str (tx (figs l)))), none] M := by
      simp only [ok_if, ok_tVal, ok_e2, ok_eSl, ok_var, ok_getV0, ok_pNone, ok_pSome, ok_c, ok_asI, ok_slV_s, tx_len, c1, c2, lit_min]
      refine ⟨hb, ?_⟩
      rw [oEq_tx (fun c hc => hlow c (List.mem_of_mem_take hc)) (by simp)]
      unfold figs
      split
      · rename_i q
        simp [q, hb, c2]
      · rename_i q
        simp [q]
    refine seq_by _ step ?_
    rintro o rfl
    refine seqP_nx.mpr ?_
    obtain ⟨⟨w1, w2⟩, w3, w4⟩ := hw
    have hfb : (figs l).length ≤ big := by unfold big; omega
    have hv := intText_whole ⟨⟨w1, w2⟩, w3, w4⟩ hm
    simp [-seqP_nx, hfb, w1, w2, must_eq]
    refine seqP_nx.mpr ?_
    refine seq_by (fun o => o = .nx [some (.d (.str (tx l))), some (.d (.int most)), some (.d (.str (tx (figs l)))), none] M) ?_ ?_
    · simp only [ok_for, ok_iX, ok_var, ok_getV0, ok_getVs, ok_asS, sgn_tx]
      exact fig_loop _ _ _ _ w3 rfl
    · rintro o rfl
      refine seqP_nx.mpr ?_
      simp [-seqP_nx]
      cases ef : figs l with
      | nil => rw [ef] at w1; simp at w1
      | cons a r =>
        have hi : oIx (.d (.str (tx (a :: r)))) (.d (.int 0)) M = some (.d (.str (tx [a])), M) := ix_tx (k := 0) (by simp) (by rw [← ef]; exact hfb)
        have ha : a < 128 := by
          have := w3 a (by rw [ef]; simp)
          simp [isFig] at this
          omega
        rw [hi, lit_0]
        have f1 : strFine (tx [a]) = true := fine_low (by simpa using ha)
        have f2 : strFine (tx [48]) = true := fine_low (by simp)
        rw [ef] at w4
        simp at w4
        simp [-seqP_nx, f1, f2, hf]
        by_cases q : a = 48
        · subst q
          simp at w4
          subst w4
          simp [must_eq, -seqP_nx]
          refine seqP_nx.mpr ?_
          simp [ok_intS hv]
        · simp [q, must_eq, -seqP_nx]
          refine seqP_nx.mpr ?_
          simp [ok_intS hv (by simp; omega)]
  · cases h
/-- within two hundred figures -/
def B2 (z : Int) : Prop := z.natAbs < 10 ^ 200
theorem B2.log {z : Int} (h : B2 z) : z.natAbs.log2 < 1920 := by
  refine log2_lt (Nat.lt_of_lt_of_le h ?_) (by decide)
  decide +kernel
theorem B2.of {k : Nat} {z : Int} (h : Bn k z) (hk : k ≤ 100) : B2 z := by
  unfold B2
  have h2 := h.mono hk
  have a1 := h2.1
  have a2 := h2.2
  have : (z.natAbs : Int) ≤ 10 ^ 100 := by omega
  have e : (10 : Int) ^ 100 = ((10 ^ 100 : Nat) : Int) := by decide +kernel
  rw [e] at this
  have q : (10 : Nat) ^ 100 < 10 ^ 200 := by decide +kernel
  omega
theorem B2.dec {z : Int} (h : B2 z) : wholeZ (decZ z) 200 = some z := wholeZ_dec (k := 200) (by decide) h
theorem B2.len {z : Int} (h : B2 z) : (decZ z).length ≤ 201 := dec_len1 (by decide) h
theorem lit_sl' : PySem.Str.ofString "/" = tx [47] := lit_sl
theorem read_fraction_eq {M : DSt} {f : Int × Int} (h1 : B2 f.1) (h2 : B2 f.2) (hf : Low f) : f_read_fraction [.d (.str (tx (fracL f.1 f.2)))] M = some (.d (frD f), M) := by
  apply ok_eq
  unfold f_read_fraction
  rw [ok_fn]
  have n1 := h1.len
  have n2 := h2.len
  have w1 := read_whole_eq (M := M) h1.dec (by decide)
  have w2 := read_whole_eq (M := M) h2.dec (by decide)
  have hlen : (fracL f.1 f.2).length ≤ big := by
    unfold fracL big
    split
    · omega
    · simp; omega
  have f0 : strFine (tx []) = true := fine_low (by simp)
  have f47 : strFine (tx [47]) = true := fine_low (by simp)
  by_cases q : f.2 = 1
  · have e : PySem.Txt.partition (tx (fracL f.1 f.2)) (tx [47]) = (tx (decZ f.1), tx [], tx []) := by
      unfold fracL
      rw [if_pos q]
      exact part_tx_none (par_dec _)
    rw [q] at e hlen
    simp [b_read_fraction, startD, lit_sl, lit_emp, e, hlen, f0, v_MOST_FIGURES, w1, frD, q]
  · have e : PySem.Txt.partition (tx (fracL f.1 f.2)) (tx [47]) = (tx (decZ f.1), tx [47], tx (decZ f.2)) := by
      unfold fracL
      rw [if_neg q]
      exact part_tx (par_frac _ _)
    obtain ⟨p0, g0⟩ := hf
    have hd := divisor_eq (M := M) f.1 f.2
    rw [g0] at hd
    have q1 : 1 < f.2 := by omega
    simp [b_read_fraction, startD, lit_sl, lit_emp, e, hlen, f0, f47, v_MOST_FIGURES, w1, w2, frD, q1, hd, must_eq]
/-- a row's text -/
def rowL (zs : List Int) : List Nat := TL.joinL [32] (zs.map decZ)
theorem joinL_cons2 {s a b : List Nat} {r : List (List Nat)} : TL.joinL s (a :: b :: r) = a ++ s ++ TL.joinL s (b :: r) := by simp [TL.joinL]
theorem joinL_len {s : List Nat} {n : Nat} : ∀ {ps : List (List Nat)}, (∀ p ∈ ps, p.length ≤ n) → (TL.joinL s ps).length ≤ ps.length * (n + s.length)
  | [], _ => by simp [TL.joinL]
  | [a], h => by
    have := h a (by simp)
    simp [TL.joinL]
    omega
  | a :: b :: r, h => by
    have h1 := h a (by simp)
    have ih := joinL_len (s := s) (n := n) (ps := b :: r) fun p hp => h p (by simp [hp])
    rw [joinL_cons2]
    simp only [List.length_append, List.length_cons] at ih ⊢
    have e : (r.length + 1 + 1) * (n + s.length) = (r.length + 1) * (n + s.length) + (n + s.length) := by rw [Nat.add_mul _ 1, Nat.one_mul]
    omega
theorem joinL_mem {s : List Nat} {c : Nat} : ∀ {ps : List (List Nat)}, c ∈ TL.joinL s ps → c ∈ s ∨ ∃ p ∈ ps, c ∈ p
  | [], h => by simp [TL.joinL] at h
  | [a], h => by
    simp [TL.joinL] at h
    exact .inr ⟨a, by simp, h⟩
  | a :: b :: r, h => by
    rw [joinL_cons2] at h
    rcases List.mem_append.mp h with h | h
    · rcases List.mem_append.mp h with h | h
      · exact .inr ⟨a, by simp, h⟩
      · exact .inl h
    · rcases joinL_mem h with h | ⟨p, hp, h⟩
      · exact .inl h
      · exact .inr ⟨p, by simp [hp], h⟩
theorem joinL_nil {s : List Nat} {ps : List (List Nat)} (h : ∀ p ∈ ps, p ≠ []) : TL.joinL s ps = [] ↔ ps = [] := by
  cases ps with
  | nil => simp [TL.joinL]
  | cons a r =>
    have ha := h a (by simp)
    cases r with
    | nil => simp [TL.joinL, ha]
    | cons b r => rw [joinL_cons2]; simp [ha]
theorem sum_le {l : List Nat} {n : Nat} (h : ∀ x ∈ l, x ≤ n) : l.sum ≤ l.length * n := by
  induction l with
  | nil => simp
  | cons a r ih =>
    have h1 := h a (by simp)
    have h2 := ih fun x hx => h x (by simp [hx])
    simp only [List.sum_cons, List.length_cons, Nat.add_mul, Nat.one_mul]
    omega
theorem strsD_map {α : Type} {f : α → PySem.Str} : ∀ {l : List α}, strsD (l.map fun a => D.str (f a)) = some (l.map f)
  | [] => rfl
  | a :: l => by simp [strsD, strsD_map (l := l)]
/-- " ".join of some texts -/
theorem join_ok {M : DSt} {s : PySem.Str} {c : List Nat} {α : Type} {f : α → List Nat} {l : List α} {n : Nat} {P : Dv × DSt → Prop} (hs : s = tx c) (hl : ∀ a ∈ l, (f a).length ≤ n) (hn : l.length * (n + c.length) ≤ big) : Ok (oJoin s (.d (.lst (l.map fun a => D.str (tx (f a))))) M) P ↔ P (.d (.str (tx (TL.joinL c (l.map f)))), M) := by
  subst hs
  rw [ok_join strsD_map]
  · rw [← join_tx, List.map_map]
    exact Iff.rfl
  · have h1 : ((l.map fun a => tx (f a)).map (·.length)).sum ≤ l.length * n := by
      have := sum_le (l := (l.map fun a => tx (f a)).map (·.length)) (n := n) (by
        intro x hx
        simp at hx
        obtain ⟨a, ha, rfl⟩ := hx
        exact hl a ha)
      simpa using this
    have e : l.length * (n + c.length) = l.length * n + l.length * c.length := Nat.mul_add _ _ _
    simp only [List.length_map, tx_len] at *
    omega
/-- within nine figures -/
def B9 (z : Int) : Prop := z.natAbs < 10 ^ 9
theorem B9.dec {z : Int} (h : B9 z) : wholeZ (decZ z) 9 = some z := wholeZ_dec (k := 9) (by decide) h
theorem B9.len {z : Int} (h : B9 z) : (decZ z).length ≤ 10 := dec_len1 (by decide) h
theorem B9.b2 {z : Int} (h : B9 z) : B2 z := Nat.lt_trans h (by decide +kernel)
theorem row_low {zs : List Int} : ∀ c ∈ rowL zs, c < 128 := fun c hc => by
  rcases joinL_mem hc with h | ⟨p, hp, h⟩
  · simp at h; omega
  · obtain ⟨z, _, rfl⟩ := List.mem_map.mp hp
    exact dec_low z c h
theorem rowL_nil {zs : List Int} : rowL zs = [] ↔ zs = [] := by
  unfold rowL
  rw [joinL_nil (by
    intro p hp
    obtain ⟨z, _, rfl⟩ := List.mem_map.mp hp
    exact dec_ne z)]
  simp
theorem spl_row {zs : List Int} (h : zs ≠ []) : TL.spl [32] 0 [] (rowL zs) = zs.map decZ := spl_join1 (by simpa using h) (by
  intro p hp
  obtain ⟨z, _, rfl⟩ := List.mem_map.mp hp
  exact dec_free (by decide) (by decide))
theorem lowest_eq {M : DSt} {k : Nat} {t b : Int} (h : 0 < b) (hb : Bn k b) (hk : k ≤ 2000) : f__law_lowest [.d (.int t), .d (.int b)] M = some (.d (frD (madeZ t b)), M) := by
  apply ok_eq
  unfold f__law_lowest
  rw [ok_fn]
  have hn : ¬ b < 0 := by omega
  have hs := (signG_bn (t := t) (by omega) hb).div (signG_ne (by omega)) hk
  unfold signG at hs
  rw [if_neg hn] at hs
  simp [b__law_lowest, startD]
  have g := gcd_while (i := 2) (j := 3) (by decide) (M := M) _ (ρ := [some (.d (.int t)), some (.d (.int b)), some (.d (.int (if t < 0 then -t else t))), some (.d (.int b))]) rfl (abs_nn t) (by omega) (by simp) (by simp) rfl rfl
  have ga := gcd_abs t b
  rw [if_neg hn] at ga
  unfold gcdLoop at g
  rw [g, ga]
  simp [hs, frD, madeZ, signG, hn]
theorem t27 : Bn 28 ((10 : Int) ^ 27) := Bn.of ⟨by decide +kernel, by decide +kernel⟩
theorem t27v : (10 : Int) ^ 27 = 1000000000000000000000000000 := by decide +kernel
theorem b28 {r : Nat} (h : (r : Int) < 1000000000000000000000000000) : Bn 28 (r : Int) := by
  have e1 : (10 : Int) ^ 28 = 10000000000000000000000000000 := by decide +kernel
  refine Bn.of ⟨?_, ?_⟩ <;> rw [e1] <;> omega
def VaI (b n : Nat) (m : Int) (M : DSt) (i : Nat) (ρ : DEnv) (M' : DSt) : Prop := ∃ N : Int, 0 ≤ N ∧ Bn (30 * i) N ∧ Lu (b + 4 * i) n M M' ∧ ρ = [some (.c n), some (.d (.int m)), some (.d (.int N)), none]
theorem vast_ok {M : DSt} {b n : Nat} {m : Int} (h : Pu b n M) (hb : b ≤ 10 ^ 11) (h0 : 0 < m) : Ok (f__law_vast [.c n, .d (.int m)] M) (DrawnU (b + 32) n m M) := by
  unfold f__law_vast
  rw [ok_fn]
  simp [b__law_vast, startD, -seqP_nx]
  refine seqP_nx.mpr ?_
  refine seq_by (fun o => ∃ ρ M1, o = .nx ρ M1 ∧ VaI b n m M 8 ρ M1) ?_ ?_
  · simp [-seqP_nx]
    refine forL_by _ (VaI b n m M) ⟨0, by omega, Bn.of ⟨by decide +kernel, by decide +kernel⟩, h.like.mono (by omega), rfl⟩ ?_ ?_
    · rintro i x ρ M1 hx ⟨N, n0, nb, hM1, rfl⟩
      obtain ⟨hi, rfl⟩ := rng_at.mp hx
      refine ⟨by simp, ?_⟩
      have hm := Bn.ok nb t27 (by omega) (by omega)
      rw [t27v] at hm
      simp [powOk, hm]
      refine (draw_ok hM1.1 (by omega) (by decide) (by decide)).mono ?_
      rintro ⟨v, M2⟩ ⟨r, hr, hv, hM2⟩
      simp only at hv
      subst hv
      simp
      have b1 := nb.mul t27
      rw [t27v] at b1
      exact ⟨N * 1000000000000000000000000000 + (r : Int), by have := Int.mul_nonneg n0 (show (0 : Int) ≤ 1000000000000000000000000000 by decide); omega, (b1.add ((b28 hr).mono (by omega))).mono (by omega), (hM1.trans hM2).mono (by omega), rfl⟩
    · rintro ρ M1 hI
      exact ⟨by simp, ρ, M1, rfl, hI⟩
  · rintro o ⟨ρ, M1, rfl, N, n0, nb, hM1, rfl⟩
    refine seqP_nx.mpr ?_
    have a0 := fmod_nn N h0
    have a1 := fmod_lt N h0
    simp [show m ≠ 0 by omega, hM1.take]
    obtain ⟨r, hr⟩ := Int.eq_ofNat_of_zero_le a0
    rw [hr] at a1 ⊢
    exact ⟨r, a1, rfl, hM1⟩
/-- a drawn fraction -/
def PartO (b n : Nat) (M : DSt) (p : Dv × DSt) : Prop := ∃ f : Int × Int, Low f ∧ B2 f.1 ∧ B2 f.2 ∧ p.1 = .d (frD f) ∧ Lu b n M p.2
theorem b2_bd {z : Int} (h : bd (10 ^ 200 - 1) z) : B2 z := by
  unfold B2
  have a1 := h.1
  have a2 := h.2
  have e : (10 : Int) ^ 200 = ((10 ^ 200 : Nat) : Int) := by decide +kernel
  have q : (0 : Nat) < 10 ^ 200 := by decide +kernel
  rw [e] at a1 a2
  generalize (10 : Nat) ^ 200 = T at *
  omega
theorem big_pow : ((10 : Int) ^ 50) ^ 4 = 10 ^ 200 := by decide +kernel
theorem fifty : powOkW ((10 : Int) ^ 50) 4 := ⟨by decide, by decide, by decide +kernel⟩
def T200 : Int := 10 ^ 200 - 1
theorem T200_b : bd (10 ^ 200 - 1) T200 := ⟨by decide +kernel, by decide +kernel⟩
theorem T200_pos : 12 ≤ T200 := by decide +kernel
theorem part_ok {M : DSt} {b n : Nat} (h : Pu b n M) (hb : b ≤ 10 ^ 10) : Ok (f__law_part [.c n] M) (PartO (b + 200) n M) := by
  unfold f__law_part
  rw [ok_fn]
  simp [b__law_part, startD, -seqP_nx, powOk]
  refine ⟨⟨by decide, by decide, by decide +kernel⟩, ?_⟩
  refine (draw_ok h (by omega) (by decide) (by decide)).mono ?_
  rintro ⟨v, M1⟩ ⟨r, hr, hv, hM1⟩
  simp only at hv
  subst hv
  simp [-seqP_nx]
  refine pick (by omega) (by simpa using hr) fun z hz => ?_
  obtain ⟨s, rfl, s0, s1⟩ : ∃ s : Int, z = .int s ∧ 9 ≤ s ∧ s ≤ T200 := by
    simp at hz
    rcases hz with rfl | rfl | rfl | rfl | rfl
    · exact ⟨_, rfl, by decide, by decide +kernel⟩
    · exact ⟨_, rfl, by decide, by decide +kernel⟩
    · exact ⟨_, rfl, by decide, by decide +kernel⟩
    · exact ⟨_, rfl, by decide, by decide +kernel⟩
    · exact ⟨_, rfl, by decide +kernel, by decide +kernel⟩
  clear hz
  refine seqP_nx.mpr ?_
  simp [-seqP_nx, mulOk_l (x := 2) (y := s) (by decide) (by decide)]
  refine (vast_ok hM1.1 (by omega) (by omega)).mono ?_
  rintro ⟨v, M2⟩ ⟨t, ht, hv, hM2⟩
  simp only at hv
  subst hv
  simp [-seqP_nx]
  refine seqP_nx.mpr ?_
  simp
  refine (draw_ok hM2.1 (by omega) (by decide) (by decide)).mono ?_
  rintro ⟨v, M3⟩ ⟨q, hq, hv, hM3⟩
  simp only at hv
  subst hv
  simp
  refine (vast_ok hM3.1 (by omega) (by omega)).mono ?_
  rintro ⟨v, M4⟩ ⟨u, hu, hv, hM4⟩
  simp only at hv
  subst hv
  simp
  refine (draw_ok hM4.1 (by omega) (by decide) (by decide)).mono ?_
  rintro ⟨v, M5⟩ ⟨w, hw, hv, hM5⟩
  simp only at hv
  subst hv
  simp
  refine pick (by omega) (by simpa using hw) fun z hz => ?_
  have T12 := T200_pos
  obtain ⟨B, rfl, B0, B1⟩ : ∃ B : Int, z = .int B ∧ 1 ≤ B ∧ B ≤ T200 := by
    simp at hz
    rcases hz with rfl | rfl | rfl | rfl
    · exact ⟨_, rfl, by omega, by omega⟩
    · exact ⟨_, rfl, by omega, by omega⟩
    · exact ⟨_, rfl, by omega, by omega⟩
    · exact ⟨_, rfl, by omega, by omega⟩
  have bT : bd (10 ^ 200 - 1) ((t : Int) - s) := ⟨by have := T200_b.1; have := T200_b.2; omega, by have := T200_b.1; have := T200_b.2; omega⟩
  have bB : bd (10 ^ 200 - 1) B := ⟨by have := T200_b.1; have := T200_b.2; omega, by have := T200_b.1; have := T200_b.2; omega⟩
  have hB : Bn 200 B := Bn.of ⟨by have := bB.1; omega, by have := bB.2; omega⟩
  have hl := fun M => lowest_eq (M := M) (t := (t : Int) - s) (by omega) hB (by decide)
  have hlen : M5.take M.length = M5 := List.take_of_length_le (by rw [hM5.len, hM4.len, hM3.len, hM2.len, hM1.len]; exact Nat.le_refl _)
  simp [hl, hlen]
  exact ⟨madeZ ((t : Int) - s) B, made_low (by omega), b2_bd (bd_fdiv bT), b2_bd (bd_fdiv bB), rfl, ((((hM1.trans hM2).trans hM3).trans hM4).trans hM5).mono (by omega)⟩
def N9 (z : Int) : Prop := -1000000000 < z ∧ z < 1000000000
def DrawnN (b n : Nat) (M : DSt) (p : Dv × DSt) : Prop := ∃ z : Int, N9 z ∧ p.1 = .d (.int z) ∧ Lu b n M p.2
def RowT (b n m : Nat) (M : DSt) (p : Dv × DSt) : Prop := ∃ (zs : List Int) (M' : DSt), (∀ z ∈ zs, N9 z) ∧ zs.length ≤ m ∧ Lu b n M M' ∧ p = (.c M.length, M' ++ [some (zs.map D.int)])
theorem number_ok2 {M : DSt} {b n : Nat} {w : Int} (h : Pu b n M) (hb : b ≤ 10 ^ 11) : Ok (f__law_number [.c n, .d (.int w)] M) (DrawnN (b + 8) n M) := by
  unfold f__law_number
  rw [ok_fn]
  by_cases w0 : w = 0
  · simp [b__law_number, startD, w0]
    refine (draw_ok h (by omega) (by decide) (by decide)).mono ?_
    rintro ⟨v, M1⟩ ⟨r, hr, hv, hM1⟩
    simp only at hv
    subst hv
    simp [hM1.take]
    exact ⟨_, ⟨by omega, by omega⟩, rfl, hM1.mono (by omega)⟩
  by_cases w1 : w = 1
  · simp [b__law_number, startD, w1]
    refine (draw_ok h (by omega) (by decide) (by decide)).mono ?_
    rintro ⟨v, M1⟩ ⟨r, hr, hv, hM1⟩
    simp only at hv
    subst hv
    simp [hM1.take]
    exact ⟨_, ⟨by omega, by omega⟩, rfl, hM1.mono (by omega)⟩
  by_cases w2 : w = 2
  · simp [b__law_number, startD, w2]
    refine (draw_ok h (by omega) (by decide) (by decide)).mono ?_
    rintro ⟨v, M1⟩ ⟨r, hr, hv, hM1⟩
    simp only at hv
    subst hv
    simp [hM1.take]
    exact ⟨_, ⟨by omega, by omega⟩, rfl, hM1.mono (by omega)⟩
  simp [b__law_number, startD, w0, w1, w2, powOk, mulOk_l (x := 2) (y := 10 ^ 9) (by decide) (by decide)]
  refine (draw_ok h (by omega) (by decide) (by decide)).mono ?_
  rintro ⟨v, M1⟩ ⟨r, hr, hv, hM1⟩
  simp only at hv
  subst hv
  simp
  refine (draw_ok hM1.1 (by omega) (by decide) (by decide)).mono ?_
  rintro ⟨v, M2⟩ ⟨q, hq, hv, hM2⟩
  simp only at hv
  subst hv
  simp
  refine pick (by omega) (by simpa using hq) fun z hz => ?_
  have ht : M2.take M.length = M2 := List.take_of_length_le (by rw [hM2.len, hM1.len]; exact Nat.le_refl _)
  rw [ht]
  obtain ⟨m, rfl, m0⟩ : ∃ m, z = .int m ∧ N9 m := by
    simp at hz
    rcases hz with rfl | rfl | rfl
    · exact ⟨_, rfl, ⟨by omega, by omega⟩⟩
    · exact ⟨_, rfl, ⟨by decide, by decide⟩⟩
    · exact ⟨_, rfl, ⟨by decide, by decide⟩⟩
  exact ⟨m, m0, rfl, (hM1.trans hM2).mono (by omega)⟩
def RowN (b n m c w : Nat) (M : DSt) (i : Nat) (ρ : DEnv) (M1 : DSt) : Prop := ∃ zs : List Int, Gu (b + 8 + 12 * i) n M M1 ∧ M1[M.length]? = some (some (zs.map D.int)) ∧ (∀ z ∈ zs, N9 z) ∧ zs.length = i ∧ ρ = [some (.c n), some (.d (.int m)), some (.d (.int c)), some (.d (.int w)), some (.c M.length), none]
theorem RowN.push {b n m c w i b' : Nat} {M M1 : DSt} {zs : List Int} {z : Int} (hg : Gu b' n M M1) (hb : b' ≤ b + 8 + 12 * (i + 1)) (he : M1[M.length]? = some (some (zs.map D.int))) (hz : ∀ z ∈ zs, N9 z) (hl : zs.length = i) (hn : N9 z) :
    RowN b n m c w M (i + 1) [some (.c n), some (.d (.int m)), some (.d (.int c)), some (.d (.int w)), some (.c M.length), none] (M1.set M.length (some (zs.map D.int ++ [D.int z]))) := by
  refine ⟨zs ++ [z], (hg.put (Nat.le_refl _) _).mono hb, ?_, ?_, by simp [hl], rfl⟩
  · rw [List.getElem?_set_self (List.getElem?_eq_some_iff.mp he).1]
    simp
  · intro y hy
    rcases List.mem_append.mp hy with hy | hy
    · exact hz y hy
    · simp at hy
      subst hy
      exact hn
theorem row_ok2 {M : DSt} {b n m : Nat} (h : Pu b n M) (hb : b ≤ 10 ^ 10) (hm : m ≤ 200) : Ok (f__law_row [.c n, .d (.int m)] M) (RowT (b + 3000) n m M) := by
  unfold f__law_row
  rw [ok_fn]
  simp [b__law_row, startD, -seqP_nx]
  refine (draw_ok h (by omega) (show (0 : Int) < (m : Int) + 1 by omega) (by omega)).mono ?_
  rintro ⟨v, M1⟩ ⟨c, hc, hv, hM1⟩
  simp only at hv
  subst hv
  have hg := h.grown.draw hM1
  simp [-seqP_nx]
  refine seqP_nx.mpr ?_
  simp [-seqP_nx]
  refine (draw_ok hM1.1 (by omega) (by decide) (by decide)).mono ?_
  rintro ⟨v, M2⟩ ⟨w, hw, hv, hM2⟩
  simp only at hv
  subst hv
  replace hg := hg.draw hM2
  have hlen : M2.length = M.length := by rw [hM2.len, hM1.len]
  simp [-seqP_nx]
  refine seqP_nx.mpr ?_
  simp [-seqP_nx]
  refine seqP_nx.mpr ?_
  rw [hlen]
  have hc0 : (M2 ++ [some ([] : List D)])[M.length]? = some (some (([] : List Int).map D.int)) := by
    rw [← hlen]
    simp
  have hg2 := hg.app (some [])
  generalize M2 ++ [some ([] : List D)] = M3 at *
  clear hM1 hM2 hlen hg
  refine seq_by (fun o => ∃ ρ M1, o = .nx ρ M1 ∧ RowN b n m c w M c ρ M1) ?_ ?_
  · simp [-seqP_nx]
    refine ⟨by omega, ?_⟩
    refine forL_by _ (RowN b n m c w M) ⟨[], hg2.mono (by omega), hc0, by simp, rfl, rfl⟩ ?_ ?_
    · rintro i x ρ M1 hx ⟨zs, hg, he, hz, hl, rfl⟩
      obtain ⟨hi, rfl⟩ := rng_at.mp hx
      have hi60 : i < 200 := by omega
      refine ⟨by simp, ?_⟩
      have other : ∀ {M4 : DSt} {b' : Nat} (hg4 : Gu b' n M M4) (hb4 : b' ≤ b + 12 + 12 * i) (he4 : M4[M.length]? = some (some (zs.map D.int))), Ok (dExpr (eM mAppend (eVar 4) (aCons (eCall f__law_number (aCons (eVar 0) (aCons (e2 oMod (eVar 3) (eC (.int 4))) aNil))) aNil)) [some (.c n), some (.d (.int m)), some (.d (.int c)), some (.d (.int w)), some (.c M.length), some (.d (.int i))] M4) fun o => turnP (RowN b n m c w M (i + 1)) (fun o => ∃ ρ M1, o = .nx ρ M1 ∧ RowN b n m c w M c ρ M1) (wipeO [5] o) := by
        intro M4 b' hg4 hb4 he4
        simp
        refine (number_ok2 hg4.pu (by omega)).mono ?_
        rintro ⟨v, M5⟩ ⟨z, hz9, hv, hM5⟩
        simp only at hv
        subst hv
        have he5 : M5[M.length]? = some (some (zs.map D.int)) := by
          rw [hM5.at (by have := hg4.1; omega)]
          exact he4
        simp [celOk he5]
        refine ⟨by omega, ?_⟩
        exact RowN.push (hg4.draw hM5) (by omega) he5 hz hl hz9
      by_cases w4 : w = 4
      · by_cases i2 : 2 < i
        · have i2' : (2 : Int) < (i : Int) := by omega
          simp [-seqP_nx, w4, i2']
          refine (draw_ok hg.pu (by omega) (by decide) (by decide)).mono ?_
          rintro ⟨v, M4⟩ ⟨r, hr, hv, hM4⟩
          simp only at hv
          subst hv
          have hg4 := hg.draw hM4
          have he4 : M4[M.length]? = some (some (zs.map D.int)) := by
            rw [hM4.at (by have := hg.1; omega)]
            exact he
          by_cases r0 : 0 < r
          · have r0' : (0 : Int) < (r : Int) := by omega
            have hj : i - 3 < zs.length := by omega
            have ej : (i : Int) - 3 = ((i - 3 : Nat) : Int) := by omega
            have ez := ints_at hj
            have bz := hz _ (ints_mem hj)
            generalize zs.getD (i - 3) 0 = z at *
            have f0 := fmod_nn (i : Int) (show (0 : Int) < 3 by decide)
            have f1 := fmod_lt (i : Int) (show (0 : Int) < 3 by decide)
            have bz0 := bz.1
            have bz1 := bz.2
            simp [r0, celOk he4, ej, ok_atN ez, powOk]
            by_cases hs : (if z < 0 then -z else z) < 100000000
            · simp [hs, mulOk_r (x := (i : Int).fmod 3) (y := 1) (by decide) (by decide)]
              refine pick f0 (by simpa using f1) fun q hq => ?_
              obtain ⟨u, rfl, u0, u1⟩ : ∃ u : Int, q = .int u ∧ 1 ≤ u ∧ u ≤ 2 := by
                simp at hq
                rcases hq with rfl | rfl
                · exact ⟨1, rfl, by decide, by decide⟩
                · exact ⟨2, rfl, by decide, by decide⟩
              have hu : u = 1 ∨ u = 2 := by omega
              simp [mulOk_r (x := z) (y := u) (by omega) (by omega), celOk he4]
              refine ⟨by omega, ?_⟩
              have := RowN.push (b := b) (m := m) (c := c) (w := w) (z := z * u) hg4 (by omega) he4 hz hl (by
                have hs' : -100000000 < z ∧ z < 100000000 := by split at hs <;> omega
                rcases hu with rfl | rfl
                · exact ⟨by omega, by omega⟩
                · exact ⟨by omega, by omega⟩)
              simpa [w4] using this
            · simp [hs, mulOk_r (x := (i : Int).fmod 3) (y := 0) (by decide) (by decide)]
              simp [mulOk_r (x := z) (y := 1) (by omega) (by omega), celOk he4]
              refine ⟨by omega, ?_⟩
              have := RowN.push (b := b) (m := m) (c := c) (w := w) (z := z) hg4 (by omega) he4 hz hl bz
              simpa [w4] using this
          · have r0' : ¬ (0 : Int) < (r : Int) := by omega
            have := other hg4 (by omega) he4
            simp only [w4] at this
            simp [r0]
            simpa using this
        · have i2' : ¬ (2 : Int) < (i : Int) := by omega
          have := other hg (by omega) he
          simp only [w4] at this
          simp [-ok_expr, w4, i2']
          simpa [-ok_expr] using this
      · have w4' : ¬ (w : Int) = 4 := by omega
        have := other hg (by omega) he
        simp [-ok_expr, w4']
        simpa [-ok_expr] using this
    · rintro ρ M1 hI
      simp at hI
      exact ⟨by simp, ρ, M1, rfl, hI⟩
  · rintro o ⟨ρ, M1, rfl, zs, hg, he, hz, hl, rfl⟩
    simp
    exact (ok_finC (Nat.le_refl _) he).mpr ⟨zs, _, hz, by omega, (hg.mono (by omega)).take, rfl⟩
theorem N9.b9 {z : Int} (h : N9 z) : B9 z := by
  have := h.1
  have := h.2
  unfold B9
  have e : (10 : Nat) ^ 9 = 1000000000 := by decide
  omega
theorem N9.bn {z : Int} (h : N9 z) : Bn 9 z := Bn.of ⟨by have := h.1; omega, by have := h.2; omega⟩
theorem ints_shp {zs : List Int} {n : Nat} : (D.lst (zs.map D.int)).shp (n + 1) = true := by simp [D.shp]
theorem fr_shp {f : Int × Int} {n : Nat} : (frD f).shp (n + 1) = true := by simp [frD, D.shp]
theorem most_at {r : Nat} (h : (r : Int) < 8) : ∃ q : Nat, atD [.int 12, .int 60, .int 200] ((r : Int).fdiv 3) = some (.int (q : Int)) ∧ q ≤ 200 := by
  have : r = 0 ∨ r = 1 ∨ r = 2 ∨ r = 3 ∨ r = 4 ∨ r = 5 ∨ r = 6 ∨ r = 7 := by omega
  rcases this with rfl | rfl | rfl | rfl | rfl | rfl | rfl | rfl
  · exact ⟨12, rfl, by decide⟩
  · exact ⟨12, rfl, by decide⟩
  · exact ⟨12, rfl, by decide⟩
  · exact ⟨60, rfl, by decide⟩
  · exact ⟨60, rfl, by decide⟩
  · exact ⟨60, rfl, by decide⟩
  · exact ⟨200, rfl, by decide⟩
  · exact ⟨200, rfl, by decide⟩
abbrev Nr := Option ((Int × Int) × Nat)
/-- the words behind the place -/
def tailW : Nr → List (List Nat)
  | none => [[110, 111, 110, 101]]
  | some (f, q) => [fracL f.1 f.2, decZ q]
def lineL (i : Nat) (r : Nr) : List Nat := TL.joinL [32] (decZ i :: tailW r)
def nthN (rows : List Nr) (i : Nat) : Nr := rows.getD i none
def linesL (rows : List Nr) : List (List Nat) := (List.range rows.length).map fun i => lineL i (nthN rows i)
def tabL (rows : List Nr) : List Nat := TL.joinL [10] (linesL rows)
def NearOk (n : Nat) (r : Nr) : Prop := ∀ f q, r = some (f, q) → Low f ∧ 0 ≤ f.1 ∧ B2 f.1 ∧ B2 f.2 ∧ q < n
def TabOk (rows : List Nr) : Prop := (∀ r ∈ rows, NearOk rows.length r) ∧ rows.length ≤ 200
theorem nth_ok {rows : List Nr} (h : TabOk rows) (i : Nat) : NearOk rows.length (nthN rows i) := by
  unfold nthN
  rw [List.getD_eq_getElem?_getD]
  cases e : rows[i]? with
  | none => intro f q h; simp at h
  | some r => exact h.1 r (List.mem_of_getElem? e)
theorem rows_nth (rows : List Nr) : rows.map bestD = (List.range rows.length).map fun i => bestD (nthN rows i) := by
  apply List.ext_getElem?
  intro i
  simp only [List.getElem?_map]
  by_cases h : i < rows.length
  · simp [h, nthN]
  · simp [h]
theorem enum_rows (rows : List Nr) : enumD 0 (rows.map bestD) = (List.range rows.length).map fun i => D.tup [.int (i : Nat), bestD (nthN rows i)] := by
  have := enumD_range (xs := rows.map bestD) (g := fun i => bestD (nthN rows i)) fun i h => by
    rw [rows_nth] at h ⊢
    simp at h
    simp [h]
  simpa using this
theorem b9_nat {n : Nat} (h : n < 1000) : B9 (n : Int) := by
  unfold B9
  have e : (10 : Nat) ^ 9 = 1000000000 := by decide
  omega
theorem frac_len {f : Int × Int} (h1 : B2 f.1) (h2 : B2 f.2) : (fracL f.1 f.2).length ≤ 410 := by
  have n1 := h1.len
  have n2 := h2.len
  unfold fracL
  split
  · omega
  · simp; omega
theorem tail_len {n : Nat} (hn : n ≤ 200) {r : Nr} (h : NearOk n r) : ∀ w ∈ tailW r, w.length ≤ 410 := by
  cases r with
  | none => intro w hw; simp [tailW] at hw; subst hw; simp
  | some x =>
    obtain ⟨f, q⟩ := x
    obtain ⟨_, _, h1, h2, hq⟩ := h f q rfl
    intro w hw
    simp [tailW] at hw
    rcases hw with rfl | rfl
    · exact frac_len h1 h2
    · have := (b9_nat (n := q) (by omega)).len
      omega
theorem tail_low {r : Nr} : ∀ w ∈ tailW r, ∀ c ∈ w, c < 128 := by
  cases r with
  | none => intro w hw c hc; simp [tailW] at hw; subst hw; simp at hc; omega
  | some x =>
    obtain ⟨f, q⟩ := x
    intro w hw c hc
    simp [tailW] at hw
    rcases hw with rfl | rfl
    · exact frac_low _ _ c hc
    · exact dec_low _ c hc
theorem tail_free {r : Nr} {s : Nat} (h1 : s ≠ 45) (h2 : isFig s = false) (h3 : s ≠ 47) (h4 : s < 100) : ∀ w ∈ tailW r, s ∉ w := by
  cases r with
  | none => intro w hw; simp [tailW] at hw; subst hw; simp; omega
  | some x =>
    obtain ⟨f, q⟩ := x
    intro w hw
    simp [tailW] at hw
    rcases hw with rfl | rfl
    · exact frac_free h1 h2 h3
    · exact dec_free h1 h2
theorem line_low {i : Nat} {r : Nr} : ∀ c ∈ lineL i r, c < 128 := by
  intro c hc
  rcases joinL_mem hc with h | ⟨p, hp, h⟩
  · simp at h; omega
  · rcases List.mem_cons.mp hp with rfl | hp
    · exact dec_low _ c h
    · exact tail_low p hp c h
theorem line_free {i : Nat} {r : Nr} : 10 ∉ lineL i r := by
  intro hc
  rcases joinL_mem hc with h | ⟨p, hp, h⟩
  · simp at h
  · rcases List.mem_cons.mp hp with rfl | hp
    · exact dec_free (by decide) (by decide) h
    · exact tail_free (by decide) (by decide) (by decide) (by decide) p hp h
theorem line_len {n i : Nat} (hn : n ≤ 200) (hi : i < 200) {r : Nr} (h : NearOk n r) : (lineL i r).length ≤ 2000 := by
  have := joinL_len (s := [32]) (n := 410) (ps := decZ i :: tailW r) (by
    intro p hp
    rcases List.mem_cons.mp hp with rfl | hp
    · have := (b9_nat (n := i) (by omega)).len
      omega
    · exact tail_len hn h p hp)
  unfold lineL
  cases r with
  | none => simp [tailW] at this ⊢; omega
  | some x => simp [tailW] at this ⊢; omega
theorem line_ne {i : Nat} {r : Nr} : lineL i r ≠ [] := by
  intro h
  have := (joinL_nil (s := [32]) (ps := decZ i :: tailW r) (by
    intro p hp
    rcases List.mem_cons.mp hp with rfl | hp
    · exact dec_ne _
    · cases r with
      | none => simp [tailW] at hp; subst hp; simp
      | some x =>
        simp [tailW] at hp
        rcases hp with rfl | rfl
        · exact frac_ne _ _
        · exact dec_ne _)).mp h
  simp at this
theorem spl_line {i : Nat} {r : Nr} : TL.spl [32] 0 [] (lineL i r) = decZ i :: tailW r := spl_join1 (by simp) (by
  intro p hp
  rcases List.mem_cons.mp hp with rfl | hp
  · exact dec_free (by decide) (by decide)
  · exact tail_free (by decide) (by decide) (by decide) (by decide) p hp)
theorem spl_tab {rows : List Nr} (h : rows ≠ []) : TL.spl [10] 0 [] (tabL rows) = linesL rows := spl_join1 (by simpa [linesL] using h) (by
  intro p hp
  obtain ⟨i, _, rfl⟩ := List.mem_map.mp hp
  exact line_free)
theorem tab_nil {rows : List Nr} : tabL rows = [] ↔ rows = [] := by
  unfold tabL
  rw [joinL_nil (by
    intro p hp
    obtain ⟨i, _, rfl⟩ := List.mem_map.mp hp
    exact line_ne)]
  simp [linesL]
theorem tab_low {rows : List Nr} : ∀ c ∈ tabL rows, c < 128 := fun c hc => by
  rcases joinL_mem hc with h | ⟨p, hp, h⟩
  · simp at h; omega
  · obtain ⟨i, _, rfl⟩ := List.mem_map.mp hp
    exact line_low c h
theorem tab_len {rows : List Nr} (h : TabOk rows) : (tabL rows).length ≤ big := by
  have := joinL_len (s := [10]) (n := 2000) (ps := linesL rows) (by
    intro p hp
    obtain ⟨i, hi, rfl⟩ := List.mem_map.mp hp
    have := List.mem_range.mp hi
    exact line_len h.2 (by have := h.2; omega) (nth_ok h i))
  have h2 := h.2
  have : (linesL rows).length = rows.length := by simp [linesL]
  unfold tabL big
  simp at *
  omega
theorem join_okC {M : DSt} {v : Dv} {s : PySem.Str} {c : List Nat} {α : Type} {f : α → List Nat} {l : List α} {n : Nat} {P : Dv × DSt → Prop} (hv : lv M v = some (l.map fun a => D.str (tx (f a)))) (hs : s = tx c) (hl : ∀ a ∈ l, (f a).length ≤ n) (hn : l.length * (n + c.length) ≤ big) : Ok (oJoin s v M) P ↔ P (.d (.str (tx (TL.joinL c (l.map f)))), M) := by
  rw [← join_ok (P := P) hs hl hn]
  unfold oJoin
  rw [hv]
  rfl
theorem join3 {M : DSt} {a b c : List Nat} {P : Dv × DSt → Prop} (h : a.length + b.length + c.length ≤ 10000) : Ok (oJoin (PySem.Str.ofString " ") (.d (.lst [.str (tx a), .str (tx b), .str (tx c)])) M) P ↔ P (.d (.str (tx (TL.joinL [32] [a, b, c]))), M) := by
  rw [lit_bl, ok_join (ys := [tx a, tx b, tx c]) rfl (by simp; omega)]
  rw [← join_tx]
  exact Iff.rfl
def tailD (r : Nr) : D := .lst ((tailW r).map fun w => D.str (tx w))
theorem lit_none1 : D.eqv (.lst [.str (tx [110, 111, 110, 101])]) (.lst [.str (PySem.Str.ofString "none")]) = true := by
  rw [lit_none]
  simp [D.eqv, D.eqvs]
theorem read_near_eq {M : DSt} {n : Nat} (hn : n ≤ 200) {r : Nr} (h : NearOk n r) : f_read_near [.d (tailD r), .d (.int (n : Int))] M = some (.d (bestD r), M) := by
  apply ok_eq
  unfold f_read_near
  rw [ok_fn]
  have s0 : (D.lst [.str (PySem.Str.ofString "none")]).shp 9 = true := by
    rw [lit_none]
    simp [D.shp]
    exact fine_low (by decide)
  have s1 : (tailD r).shp 9 = true := by
    simp only [tailD, D.shp, List.all_map, List.all_eq_true]
    intro w hw
    exact fine_low (tail_low w hw)
  cases r with
  | none =>
    have : Ok (oEq (.d (tailD none)) (.d (.lst [.str (PySem.Str.ofString "none")])) M) fun p => p = (.d (.bl true), M) := by
      rw [ok_eqD s1 s0]
      rw [show D.eqv (tailD none) (.lst [.str (PySem.Str.ofString "none")]) = true from lit_none1]
    simp [b_read_near, startD, mkL]
    refine this.mono ?_
    rintro _ rfl
    simp [bestD]
  | some x =>
    obtain ⟨f, q⟩ := x
    obtain ⟨hf, f0, h1, h2, hq⟩ := h f q rfl
    have : Ok (oEq (.d (tailD (some (f, q)))) (.d (.lst [.str (PySem.Str.ofString "none")])) M) fun p => p = (.d (.bl false), M) := by
      rw [ok_eqD s1 s0]
      rw [show D.eqv (tailD (some (f, q))) (.lst [.str (PySem.Str.ofString "none")]) = false by simp [tailD, tailW, D.eqv, D.eqvs]]
    have w1 := fun M => read_fraction_eq (M := M) h1 h2 hf
    have w2 := fun M => read_whole_eq (M := M) (b9_nat (n := q) (by omega)).dec (by decide)
    simp [b_read_near, startD, mkL, -seqP_nx]
    refine this.mono ?_
    rintro _ rfl
    simp [-seqP_nx]
    refine seqP_nx.mpr ?_
    simp [tailD, tailW, must_eq, -seqP_nx]
    refine seqP_nx.mpr ?_
    simp [w1, w2, v_FEW_FIGURES, frD, -seqP_nx]
    refine seqP_nx.mpr ?_
    have q1 : (q : Int) < (n : Int) := by omega
    simp [f0, hq, must_eq, bestD, frD]
theorem read_table_eq {M : DSt} {rows : List Nr} (h : TabOk rows) : f_read_table [.d (.str (tx (tabL rows)))] M = some (.c M.length, M ++ [some (rows.map bestD)]) := by
  apply ok_eq
  unfold f_read_table
  rw [ok_fn]
  have h200 := h.2
  have f0 : strFine (tx []) = true := fine_low (by simp)
  have fr : strFine (tx (tabL rows)) = true := fine_low tab_low
  simp [b_read_table, startD, lit_emp, lit_bl, lit_nl, f0, fr, -seqP_nx, tab_nil]
  by_cases q : rows = []
  · subst q
    simp [mkL]
  · have hn := tab_len h
    have hll : (linesL rows).length = rows.length := by simp [linesL]
    simp [q, -seqP_nx]
    refine seqP_nx.mpr ?_
    simp [hn, split_tx (show 10 < 256 by decide), spl_tab q, -seqP_nx]
    refine seqP_nx.mpr ?_
    have hl' : (rows.length : Int) ≤ 200 := by omega
    simp [v_MOST_NUMBERS, hl', hll, must_eq, -seqP_nx]
    refine seqP_nx.mpr ?_
    simp [mkL, -seqP_nx]
    refine seqP_nx.mpr ?_
    generalize hE : [some (Dv.d (D.str (tx (tabL rows)))), some (Dv.d (D.lst (List.map (D.str ∘ tx) (linesL rows)))), some (Dv.c M.length), none, none, none] = env
    refine seq_by (fun o => o = .nx env (M ++ [some (rows.map bestD)])) ?_ ?_
    · subst hE
      have en : enumD 0 (List.map (D.str ∘ tx) (linesL rows)) = (List.range rows.length).map fun i => D.tup [.int (i : Nat), .str (tx (lineL i (nthN rows i)))] := by
        have := enumD_range (xs := List.map (D.str ∘ tx) (linesL rows)) (g := fun i => .str (tx (lineL i (nthN rows i)))) fun i hi => by
          simp [linesL] at hi ⊢
          simp [hi]
        simpa [hll] using this
      simp [-seqP_nx, en]
      refine forL_app (f := fun i : Nat => D.tup [.int (i : Nat), .str (tx (lineL i (nthN rows i)))]) _ (fun i => bestD (nthN rows i)) (by intro xs; simp [stand]) ?_ (by rw [rows_nth]; simp)
      intro i hi xs hx
      have hi2 := List.mem_range.mp hi
      simp at hx
      have hb := (b9_nat (n := i) (by omega)).b2
      have hn := nth_ok h i
      have lg : i.log2 < 1920 := by simpa using hb.log
      have hlen := line_len h200 (show i < 200 by omega) hn
      have fd : strFine (tx (decZ (i : Int))) = true := dec_fine _
      have rn := fun M => read_near_eq (M := M) h200 hn
      have hc : cutD (D.str (tx (decZ (i : Int))) :: List.map (D.str ∘ tx) (tailW (nthN rows i))) (some 1) none = (tailW (nthN rows i)).map fun w => D.str (tx w) := by
        simp [cutD, sIxD]
        rw [List.take_of_length_le]
        · simp
        · simp
      simp [split_tx (show 32 < 256 by decide), spl_line, show (lineL i (nthN rows i)).length ≤ 1000000 by omega, mkL, lg, fd, must_eq, -seqP_nx]
      refine seqP_nx.mpr ?_
      have e2 : D.lst ((tailW (nthN rows i)).map fun w => D.str (tx w)) = tailD (nthN rows i) := rfl
      simp [hll, hc, lg, fd, must_eq, e2, rn, celOk]
      omega
    · rintro o rfl
      refine seqP_nx.mpr ?_
      subst hE
      simp
def TabI (b n m : Nat) (M : DSt) (i : Nat) (ρ : DEnv) (M1 : DSt) : Prop := ∃ rows : List Nr, rows.length = i ∧ (∀ r ∈ rows, NearOk m r) ∧ Gu (b + 300 * i) n M M1 ∧ M1[M.length]? = some (some (rows.map bestD)) ∧ ρ = [some (.c n), some (.d (.int (m : Int))), some (.c M.length), none, none, none, none]
def TabO (b n : Nat) (M : DSt) (p : Dv × DSt) : Prop := ∃ (rows : List Nr) (M' : DSt), TabOk rows ∧ Lu b n M M' ∧ p = (.c M.length, M' ++ [some (rows.map bestD)])
theorem B2.ab {z : Int} (h : B2 z) : B2 (if z < 0 then -z else z) := by
  unfold B2 at *
  split <;> omega
theorem low_ab {f : Int × Int} (h : Low f) : Low ((if f.1 < 0 then -f.1 else f.1), f.2) := by
  obtain ⟨h1, h2⟩ := h
  refine ⟨h1, ?_⟩
  split
  · simpa using h2
  · exact h2
theorem many_at {a b r : Nat} (ha : a ≤ 200) (hb : b ≤ 200) (h : (r : Int) < 12) : ∃ q : Nat, atD [.int (a : Int), .int (b : Int), .int 200] ((r : Int).fdiv 5) = some (.int (q : Int)) ∧ q ≤ 200 := by
  have : r = 0 ∨ r = 1 ∨ r = 2 ∨ r = 3 ∨ r = 4 ∨ r = 5 ∨ r = 6 ∨ r = 7 ∨ r = 8 ∨ r = 9 ∨ r = 10 ∨ r = 11 := by omega
  rcases this with rfl | rfl | rfl | rfl | rfl | rfl | rfl | rfl | rfl | rfl | rfl | rfl
  · exact ⟨a, rfl, ha⟩
  · exact ⟨a, rfl, ha⟩
  · exact ⟨a, rfl, ha⟩
  · exact ⟨a, rfl, ha⟩
  · exact ⟨a, rfl, ha⟩
  · exact ⟨b, rfl, hb⟩
  · exact ⟨b, rfl, hb⟩
  · exact ⟨b, rfl, hb⟩
  · exact ⟨b, rfl, hb⟩
  · exact ⟨b, rfl, hb⟩
  · exact ⟨200, rfl, by decide⟩
  · exact ⟨200, rfl, by decide⟩
theorem table_ok {M : DSt} {b n : Nat} (h : Pu b n M) (hb : b ≤ 10 ^ 9) : Ok (f__law_table [.c n] M) (TabO (b + 100000) n M) := by
  unfold f__law_table
  rw [ok_fn]
  simp [b__law_table, startD, -seqP_nx]
  refine (draw_ok h (by omega) (by decide) (by decide)).mono ?_
  rintro ⟨v, M1⟩ ⟨a, ha, hv, hM1⟩
  simp only at hv
  subst hv
  simp [-seqP_nx]
  refine (draw_ok hM1.1 (by omega) (by decide) (by decide)).mono ?_
  rintro ⟨v, M2⟩ ⟨c, hc, hv, hM2⟩
  simp only at hv
  subst hv
  simp [-seqP_nx]
  refine (draw_ok hM2.1 (by omega) (by decide) (by decide)).mono ?_
  rintro ⟨v, M3⟩ ⟨r, hr, hv, hM3⟩
  simp only at hv
  subst hv
  obtain ⟨m, hm, m200⟩ := many_at (a := a) (b := c) (by omega) (by omega) hr
  simp [hm, -seqP_nx]
  refine seqP_nx.mpr ?_
  simp [-seqP_nx, mkL]
  refine seqP_nx.mpr ?_
  have hlen : M3.length = M.length := by rw [hM3.len, hM2.len, hM1.len]
  have hg : Gu (b + 12) n M M3 := ((h.grown.draw hM1).draw hM2).draw hM3 |>.mono (by omega)
  have hg2 := hg.app (some [])
  have hc0 : (M3 ++ [some ([] : List D)])[M.length]? = some (some (([] : List Nr).map bestD)) := by
    rw [← hlen]
    simp
  rw [hlen]
  generalize M3 ++ [some ([] : List D)] = M4 at *
  refine seq_by (fun o => ∃ ρ M1, o = .nx ρ M1 ∧ TabI (b + 12) n m M m ρ M1) ?_ ?_
  · simp [-seqP_nx]
    refine ⟨by omega, ?_⟩
    refine forL_by _ (TabI (b + 12) n m M) ⟨[], rfl, by simp, hg2.mono (by omega), hc0, rfl⟩ ?_ ?_
    · rintro i x ρ M5 hx ⟨rows, hl, hr, hg5, hc5, rfl⟩
      obtain ⟨hi, rfl⟩ := rng_at.mp hx
      refine ⟨by simp [stand], ?_⟩
      simp [-seqP_nx]
      refine (part_ok hg5.pu (by omega)).mono ?_
      rintro ⟨v, M6⟩ ⟨f, hf, h1, h2, hv, hM6⟩
      simp only at hv
      subst hv
      have hg6 := hg5.draw hM6
      refine seqP_nx.mpr ?_
      simp [frD, -seqP_nx]
      refine seqP_nx.mpr ?_
      simp [-seqP_nx]
      refine (draw_ok hM6.1 (by omega) (by omega) (by omega)).mono ?_
      rintro ⟨v, M7⟩ ⟨q, hq, hv, hM7⟩
      simp only at hv
      subst hv
      have hg7 := hg6.draw hM7
      simp [-seqP_nx]
      refine seqP_nx.mpr ?_
      simp [-seqP_nx]
      refine (draw_ok hM7.1 (by omega) (by decide) (by decide)).mono ?_
      rintro ⟨v, M8⟩ ⟨w, hw, hv, hM8⟩
      simp only at hv
      subst hv
      have hg8 := hg7.draw hM8
      simp
      refine pick (by split <;> omega) (by simp; split <;> omega) fun z hz => ?_
      obtain ⟨r', rfl, hr'⟩ : ∃ r' : Nr, z = bestD r' ∧ NearOk m r' := by
        simp at hz
        rcases hz with rfl | rfl | rfl
        · exact ⟨none, rfl, fun f q e => by cases e⟩
        · refine ⟨some (((if f.1 < 0 then -f.1 else f.1), f.2), q), rfl, fun f' q' e => ?_⟩
          cases e
          exact ⟨low_ab hf, abs_nn _, h1.ab, h2, by omega⟩
        · refine ⟨some (((if f.1 < 0 then -f.1 else f.1), f.2), i), rfl, fun f' q' e => ?_⟩
          cases e
          exact ⟨low_ab hf, abs_nn _, h1.ab, h2, hi⟩
      have hnl : M.length ≠ n := by have := hg5.1; omega
      have hc8 : M8[M.length]? = some (some (rows.map bestD)) := by
        rw [hM8.at hnl, hM7.at hnl, hM6.at hnl]
        exact hc5
      simp [celOk hc8]
      refine ⟨by omega, rows ++ [r'], by simp [hl], ?_, (hg8.put (Nat.le_refl _) _).mono (by omega), ?_, rfl⟩
      · intro r hr2
        rcases List.mem_append.mp hr2 with e | e
        · exact hr r e
        · simp at e
          subst e
          exact hr'
      · rw [List.getElem?_set_self (List.getElem?_eq_some_iff.mp hc8).1]
        simp
    · rintro ρ M5 hI
      simp at hI
      exact ⟨by simp [stand], ρ, M5, rfl, hI⟩
  · rintro o ⟨ρ, M5, rfl, rows, hl, hr, hg5, hc5, rfl⟩
    refine seqP_nx.mpr ?_
    simp
    exact (ok_finC (Nat.le_refl _) hc5).mpr ⟨rows, _, ⟨by rw [hl]; exact hr, by omega⟩, (hg5.mono (by omega)).take, rfl⟩
theorem best_shp {r : Nr} {n : Nat} : (bestD r).shp (n + 2) = true := by
  cases r with
  | none => simp [bestD, D.shp]
  | some x => simp [bestD, frD, D.shp]
theorem bests_shp {rows : List Nr} {n : Nat} : (D.lst (rows.map bestD)).shp (n + 3) = true := by
  simp only [D.shp, List.all_map, List.all_eq_true]
  intro r _
  exact best_shp
def KindU (b n : Nat) (M : DSt) (p : Dv × DSt) : Prop := ∃ kd : Kd, p.1 = .d kd.s ∧ Lu b n M p.2
def LengthU (b n : Nat) (M : DSt) (p : Dv × DSt) : Prop := ∃ l : Nat, 1 ≤ l ∧ l ≤ 40 ∧ p.1 = .d (.int l) ∧ Lu b n M p.2
def GapU (b n : Nat) (M : DSt) (p : Dv × DSt) : Prop := ∃ l : Nat, 1 ≤ l ∧ l ≤ 200 ∧ p.1 = .d (.int l) ∧ Lu b n M p.2
def Kn (good : Bool) (sd : D) : Prop := if good = true then ∃ kd : Kd, sd = kd.s else ∃ s, sd = .str s ∧ ∀ kd : Kd, D.eqv kd.s (.str s) = false
def okG (g : Int) : Prop := 1 ≤ g ∧ g ≤ 200
def ref (good : Bool) (g l : Int) : Option String := if good = false then some "NoKind" else if ¬ (1 ≤ g ∧ g ≤ 200) then some "NoGap" else if ¬ (1 ≤ l ∧ l ≤ 40) then some "NoLength" else none
def okPl (n : Nat) (l p : Int) : Prop := 0 ≤ p ∧ p + l ≤ n
instance {n : Nat} {l p : Int} : Decidable (okPl n l p) := by unfold okPl; infer_instance
theorem place_iff {n : Nat} {l : Nat} {p : Int} : (0 ≤ p ∧ p < ((n + 1 - l : Nat) : Int)) ↔ okPl n l p := by
  unfold okPl
  omega
theorem read_row_dat {M : DSt} {zs : List Int} (h : ∀ z ∈ zs, B9 z) (hl : zs.length ≤ 200) : f_read_row [.d (.str (tx (rowL zs)))] M = some (.d (.lst (zs.map D.int)), M) := by
  apply ok_eq
  unfold f_read_row
  rw [ok_fn]
  have f0 : strFine (tx []) = true := fine_low (by simp)
  have fr : strFine (tx (rowL zs)) = true := fine_low row_low
  simp [b_read_row, startD, lit_emp, lit_bl, f0, fr, -seqP_nx, rowL_nil]
  by_cases q : zs = []
  · subst q
    simp [mkL]
  · have hn : (rowL zs).length ≤ big := by
      have := joinL_len (s := [32]) (n := 10) (ps := zs.map decZ) (by
        intro p hp
        obtain ⟨z, hz, rfl⟩ := List.mem_map.mp hp
        exact (h z hz).len)
      unfold rowL big
      simp at this
      omega
    simp [q, -seqP_nx]
    refine seqP_nx.mpr ?_
    simp [hn, split_tx (show 32 < 256 by decide), spl_row q, -seqP_nx]
    refine seqP_nx.mpr ?_
    have hl' : (zs.length : Int) ≤ 200 := by omega
    simp [v_MOST_NUMBERS, hl', must_eq, -seqP_nx]
    refine seqP_nx.mpr ?_
    simp
    refine ⟨by omega, ?_⟩
    refine comp_map (f := fun z => D.str (tx (decZ z))) (fun z => .int z) (by simp) ?_ ?_
    · intro z hz
      simp [v_FEW_FIGURES, read_whole_eq (h z hz).dec]
    · simp [mkL]
theorem N9.row {xs : List Int} (h : ∀ z ∈ xs, N9 z) (hl : xs.length ≤ 40) : Row 9 xs := ⟨fun z hz => (h z hz).bn, by omega⟩
theorem tab_nr {k : Nat} {kd : Kd} {xs : List Int} {gap l : Nat} (hx : Row k xs) (hk : k ≤ 20) (h40 : xs.length ≤ 40) (l0 : 1 ≤ l) : TabOk (tableZ kd xs gap l) := by
  have hf := stretches_fine hx l0
  have hl := stretches_len (xs := xs) (l := l)
  refine ⟨?_, by rw [tableZ_len]; omega⟩
  intro r hr f q e
  subst e
  unfold tableZ at hr
  obtain ⟨p, hp, e⟩ := List.mem_map.mp hr
  have hp := List.mem_range.mp hp
  obtain ⟨⟨q1, q2, q3⟩, _⟩ := (nearTo_spec (kd := kd) (gap := gap) (fun s hs => (hf.1 s hs).2) hp (Nat.le_refl _)).2 f q e
  have bn := nearTo_bn kd hf hp (Nat.le_refl _) e
  have pos : 0 < (nthZ (stretchesZ xs l) p).length := (hf.1 _ (getD_mem hp)).2
  have eql : (nthZ (stretchesZ xs l) p).length = (nthZ (stretchesZ xs l) q).length := by
    rw [nth_stretch (by rw [← hl]; exact hp), nth_stretch (by rw [← hl]; exact q1), cutZ_len (by omega), cutZ_len (by omega)]
  have low := farAt_low (kd := kd) (p := p) (q := q) (fun s hs => (hf.1 s hs).2) hp
  have nn := far_nn (kd := kd) eql pos
  refine ⟨q3 ▸ low, ?_, B2.of bn.1 (by omega), B2.of bn.2 (by omega), ?_⟩
  · have hp2 := low.1
    have e2 : farZ kd (nthZ (stretchesZ xs l) p) (nthZ (stretchesZ xs l) q) = f := q3.symm
    rw [e2] at nn
    simp [lessZ] at nn
    exact nn
  · rw [tableZ_len, ← hl]
    exact q1
/-- the places apart from one -/
def apZ (n gap p : Nat) : List Nat := (List.range n).filter fun q => decide (gap ≤ (p - q) + (q - p))
theorem mem_apZ {n gap p q : Nat} : q ∈ apZ n gap p ↔ q < n ∧ gap ≤ (p - q) + (q - p) := by simp [apZ]
theorem filt_fm {α β : Type} {l : List α} {c : α → Bool} {g : α → β} : (l.filterMap fun x => if c x = true then some (g x) else none) = (l.filter c).map g := by
  induction l with
  | nil => rfl
  | cons a l ih =>
    by_cases h : c a = true
    · simp [h, ih]
    · simp [h, ih]
theorem any_txt {c : List Nat} {L : List (List Nat)} : ((L.map fun w => D.str (tx w)).any fun b => D.eqv b (.str (tx c))) = decide (c ∈ L) := by
  induction L with
  | nil => simp
  | cons a L ih =>
    simp only [List.map_cons, List.any_cons, ih, D.eqv, tx_beq]
    by_cases h : a = c
    · subst h; simp
    · have : ¬ c = a := fun e => h e.symm
      simp [h, this]
theorem best_inj : ∀ {a b : Nr}, D.eqv (bestD a) (bestD b) = decide (a = b)
  | none, none => by simp [bestD, D.eqv]
  | none, some (f, q) => by simp [bestD, D.eqv]
  | some (f, q), none => by simp [bestD, D.eqv]
  | some ((a, b), q), some ((c, d), r) => by
    simp only [bestD, frD, D.eqv, D.eqvs, Bool.and_true]
    by_cases h1 : a = c <;> by_cases h2 : b = d <;> by_cases h3 : q = r <;> simp [h1, h2, h3]
    omega
theorem bests_inj : ∀ {A B : List Nr}, D.eqvs (A.map bestD) (B.map bestD) = decide (A = B)
  | [], [] => by simp [D.eqvs]
  | [], b :: B => by simp [D.eqvs]
  | a :: A, [] => by simp [D.eqvs]
  | a :: A, b :: B => by
    simp only [List.map_cons, D.eqvs, best_inj, bests_inj (A := A) (B := B)]
    by_cases h1 : a = b <;> by_cases h2 : A = B <;> simp [h1, h2]
theorem bests_eq {A B : List Nr} (h : A.map bestD = B.map bestD) : A = B := by
  have := bests_inj (A := A) (B := B)
  rw [h] at this
  have r : D.eqvs (B.map bestD) (B.map bestD) = true := by rw [bests_inj]; simp
  rw [r] at this
  simpa using this.symm
theorem tab_inj {A B : List Nr} (hA : TabOk A) (hB : TabOk B) (h : tabL A = tabL B) : A = B := by
  have a := read_table_eq (M := []) hA
  have b := read_table_eq (M := []) hB
  rw [h, b] at a
  have := congrArg (fun o => o.map fun p => p.2) a
  simp at this
  exact (bests_eq (by simpa using this)).symm
/-- what the last turn left -/
def lastD : Option (List Nr) → D
  | none => .lst []
  | some R => .lst [.lst (R.map bestD), .str (tx (tabL R))]
theorem lines_eq (T : List Nr) : (List.replicate (if tabL T = [] then (0 : Int) else 1).toNat (List.map (D.str ∘ tx) (TL.spl [10] 0 [] (tabL T)))).flatten = (linesL T).map fun w => D.str (tx w) := by
  by_cases h : T = []
  · subst h
    simp [tab_nil, linesL]
  · have h2 : tabL T ≠ [] := fun e => h (tab_nil.mp e)
    simp [h2, spl_tab h]
theorem lines_len {T : List Nr} (h : TabOk T) : (TL.spl [10] 0 [] (tabL T)).length * (if tabL T = [] then (0 : Int) else 1).toNat ≤ 1000000 := by
  by_cases h : T = []
  · subst h
    simp [tab_nil]
  · have h2 : tabL T ≠ [] := fun e => h (tab_nil.mp e)
    rename_i hT
    have := hT.2
    simp [h2, spl_tab h, linesL]
    omega
theorem nth_tab {kd : Kd} {xs : List Int} {gap l p : Nat} (h : p < xs.length + 1 - l) : nthN (tableZ kd xs gap l) p = nearZ kd (stretchesZ xs l) gap p := by
  unfold nthN tableZ
  rw [List.getD_eq_getElem?_getD]
  simp [stretches_len, h]
theorem last_shp {R : Option (List Nr)} : (lastD R).shp 9 = true := by
  cases R with
  | none => simp [lastD, D.shp]
  | some R =>
    have := bests_shp (rows := R) (n := 5)
    have f : strFine (tx (tabL R)) = true := fine_low tab_low
    simp [lastD, D.shp] at this ⊢
    exact ⟨this, f⟩
theorem kds {kd : Kd} : kd.s = kd.s := rfl
end Lk87
end PUk87
section PWk87
set_option Elab.async false
set_option linter.all false
set_option maxRecDepth 100000
set_option maxHeartbeats 4000000
namespace Lk87
open PySem PySem.Spec PyProof.Rows L2 Rw
def topS (i : Nat) : Stmt := PySem.Challenge.pw_rowecho_k87_texts_of_nothing.main.body.getD i (.Pass ⟨0, 0, 0, 0⟩)
abbrev s__law_at : Stmt := topS 29
abbrev s__law_purse : Stmt := topS 31
abbrev s__law_mixed : Stmt := topS 30
abbrev s__law_draw : Stmt := topS 32
abbrev s__law_fraction_text : Stmt := topS 38
abbrev s__law_table_text : Stmt := topS 40
abbrev s__law_lowest : Stmt := topS 35
abbrev s__law_vast : Stmt := topS 36
abbrev s__law_part : Stmt := topS 37
abbrev s__law_table : Stmt := topS 39
abbrev s__law_number : Stmt := topS 33
abbrev s__law_row : Stmt := topS 34
abbrev s__law_text : Stmt := topS 48
abbrev s__law_whole_of : Stmt := topS 42
abbrev s__law_fraction_of : Stmt := topS 43
abbrev s__law_row_of : Stmt := topS 44
abbrev s__law_near_of : Stmt := topS 45
abbrev s__law_table_of : Stmt := topS 46
abbrev s_must : Stmt := topS 22
abbrev s_read_whole : Stmt := topS 23
abbrev s_divisor : Stmt := topS 16
abbrev s_read_fraction : Stmt := topS 24
abbrev s__law_class : Stmt := topS 41
abbrev s_read_row : Stmt := topS 25
abbrev s_read_near : Stmt := topS 26
abbrev s_read_table : Stmt := topS 27
abbrev s__law_judged : Stmt := topS 47
abbrev s__law_bent : Stmt := topS 49
abbrev s__law_odd : Stmt := topS 50
abbrev s_law : Stmt := topS 51
theorem sc__law_at : FnScope ["_law_script", "_law_k"] ["_law_script", "_law_k"] (defScope s__law_at) := ⟨rfl, rfl, rfl, by decide +kernel, rfl, by decide +kernel, by decide +kernel⟩
theorem sc__law_purse : FnScope ["_law_script", "_law_at_here", "_law_cell"] ["_law_script", "_law_at_here"] (defScope s__law_purse) := ⟨rfl, rfl, rfl, by decide +kernel, rfl, by decide +kernel, by decide +kernel⟩
theorem sc__law_mixed : FnScope ["_law_cell", "_law_k", "_law_number_here"] ["_law_cell", "_law_k"] (defScope s__law_mixed) := ⟨rfl, rfl, rfl, by decide +kernel, rfl, by decide +kernel, by decide +kernel⟩
theorem sc__law_draw : FnScope ["_law_purse_here", "_law_out_of", "_law_drawn", "_law_number_here", "_law_k"] ["_law_purse_here", "_law_out_of"] (defScope s__law_draw) := ⟨rfl, rfl, rfl, by decide +kernel, rfl, by decide +kernel, by decide +kernel⟩
theorem sc__law_fraction_text : FnScope ["_law_part_here"] ["_law_part_here"] (defScope s__law_fraction_text) := ⟨rfl, rfl, rfl, by decide +kernel, rfl, by decide +kernel, by decide +kernel⟩
theorem sc__law_table_text : FnScope ["_law_rows", "_law_lines", "_law_place", "_law_near"] ["_law_rows"] (defScope s__law_table_text) := ⟨rfl, rfl, rfl, by decide +kernel, rfl, by decide +kernel, by decide +kernel⟩
theorem sc__law_lowest : FnScope ["_law_top", "_law_bottom", "_law_one", "_law_other"] ["_law_top", "_law_bottom"] (defScope s__law_lowest) := ⟨rfl, rfl, rfl, by decide +kernel, rfl, by decide +kernel, by decide +kernel⟩
theorem sc__law_vast : FnScope ["_law_purse_here", "_law_out_of", "_law_number_here", "_law_turn"] ["_law_purse_here", "_law_out_of"] (defScope s__law_vast) := ⟨rfl, rfl, rfl, by decide +kernel, rfl, by decide +kernel, by decide +kernel⟩
theorem sc__law_part : FnScope ["_law_purse_here", "_law_size", "_law_top"] ["_law_purse_here"] (defScope s__law_part) := ⟨rfl, rfl, rfl, by decide +kernel, rfl, by decide +kernel, by decide +kernel⟩
theorem sc__law_table : FnScope ["_law_purse_here", "_law_many", "_law_found", "_law_place", "_law_part_here", "_law_near", "_law_some"] ["_law_purse_here"] (defScope s__law_table) := ⟨rfl, rfl, rfl, by decide +kernel, rfl, by decide +kernel, by decide +kernel⟩
theorem sc__law_number : FnScope ["_law_purse_here", "_law_way"] ["_law_purse_here", "_law_way"] (defScope s__law_number) := ⟨rfl, rfl, rfl, by decide +kernel, rfl, by decide +kernel, by decide +kernel⟩
theorem sc__law_row : FnScope ["_law_purse_here", "_law_most", "_law_many", "_law_way", "_law_found", "_law_k"] ["_law_purse_here", "_law_most"] (defScope s__law_row) := ⟨rfl, rfl, rfl, by decide +kernel, rfl, by decide +kernel, by decide +kernel⟩
theorem sc__law_text : FnScope ["_law_purse_here", "_law_way", "_law_number_here"] ["_law_purse_here"] (defScope s__law_text) := ⟨rfl, rfl, rfl, by decide +kernel, rfl, by decide +kernel, by decide +kernel⟩
theorem sc__law_whole_of : FnScope ["_law_text_here", "_law_most", "_law_figures", "_law_sign"] ["_law_text_here", "_law_most"] (defScope s__law_whole_of) := ⟨rfl, rfl, rfl, by decide +kernel, rfl, by decide +kernel, by decide +kernel⟩
theorem sc__law_fraction_of : FnScope ["_law_text_here", "_law_words", "_law_numbers", "_law_word"] ["_law_text_here"] (defScope s__law_fraction_of) := ⟨rfl, rfl, rfl, by decide +kernel, rfl, by decide +kernel, by decide +kernel⟩
theorem sc__law_row_of : FnScope ["_law_text_here", "_law_numbers", "_law_word"] ["_law_text_here"] (defScope s__law_row_of) := ⟨rfl, rfl, rfl, by decide +kernel, rfl, by decide +kernel, by decide +kernel⟩
theorem sc__law_near_of : FnScope ["_law_words", "_law_many", "_law_part_here", "_law_place"] ["_law_words", "_law_many"] (defScope s__law_near_of) := ⟨rfl, rfl, rfl, by decide +kernel, rfl, by decide +kernel, by decide +kernel⟩
theorem sc__law_table_of : FnScope ["_law_text_here", "_law_lines", "_law_found", "_law_place", "_law_line", "_law_words", "_law_near"] ["_law_text_here"] (defScope s__law_table_of) := ⟨rfl, rfl, rfl, by decide +kernel, rfl, by decide +kernel, by decide +kernel⟩
theorem sc_must : FnScope ["fine"] ["fine"] (defScope s_must) := ⟨rfl, rfl, rfl, by decide +kernel, rfl, by decide +kernel, by decide +kernel⟩
theorem sc_read_whole : FnScope ["text", "most", "figures", "sign"] ["text", "most"] (defScope s_read_whole) := ⟨rfl, rfl, rfl, by decide +kernel, rfl, by decide +kernel, by decide +kernel⟩
theorem sc_divisor : FnScope ["one", "other"] ["one", "other"] (defScope s_divisor) := ⟨rfl, rfl, rfl, by decide +kernel, rfl, by decide +kernel, by decide +kernel⟩
theorem sc_read_fraction : FnScope ["text", "top", "stroke", "bottom", "found"] ["text"] (defScope s_read_fraction) := ⟨rfl, rfl, rfl, by decide +kernel, rfl, by decide +kernel, by decide +kernel⟩
theorem sc__law_class : FnScope ["_law_caught", "_law_some", "_law_names"] ["_law_caught"] (defScope s__law_class) := ⟨rfl, rfl, rfl, by decide +kernel, rfl, by decide +kernel, by decide +kernel⟩
theorem sc_read_row : FnScope ["text", "words", "word"] ["text"] (defScope s_read_row) := ⟨rfl, rfl, rfl, by decide +kernel, rfl, by decide +kernel, by decide +kernel⟩
theorem sc_read_near : FnScope ["words", "many", "found"] ["words", "many"] (defScope s_read_near) := ⟨rfl, rfl, rfl, by decide +kernel, rfl, by decide +kernel, by decide +kernel⟩
theorem sc_read_table : FnScope ["text", "lines", "found", "place", "line", "words"] ["text"] (defScope s_read_table) := ⟨rfl, rfl, rfl, by decide +kernel, rfl, by decide +kernel, by decide +kernel⟩
theorem sc__law_judged : FnScope ["_law_text_here", "_law_dues", "_law_way", "_law_caught", "_law_found", "e"] ["_law_text_here"] (defScope s__law_judged) := ⟨rfl, rfl, rfl, by decide +kernel, rfl, by decide +kernel, by decide +kernel⟩
theorem sc__law_bent : FnScope ["_law_purse_here", "_law_text_here", "_law_way", "_law_at_here", "_law_sign", "_law_signs", "_law_by", "_law_words", "_law_one", "_law_kind", "_law_left"] ["_law_purse_here", "_law_text_here"] (defScope s__law_bent) := ⟨rfl, rfl, rfl, by decide +kernel, rfl, by decide +kernel, by decide +kernel⟩
theorem sc__law_odd : FnScope ["_law_some", "_law_many", "_law_nines", "_law_last", "_law_lines", "_law_place"] [] (defScope s__law_odd) := ⟨rfl, rfl, rfl, by decide +kernel, rfl, by decide +kernel, by decide +kernel⟩
theorem sc_law : FnScope ["_law_script", "_law_k", "_law_purse_here", "_law_text_here", "_law_turn"] ["_law_script"] (defScope s_law) := ⟨rfl, rfl, rfl, by decide +kernel, rfl, by decide +kernel, by decide +kernel⟩
section
variable {P : Program} {w : World} {K : PySem.W.Frag} {mg : Str → Option Value} {base : Heap}
theorem ok__law_at {f : Addr} {fd : FuncData} (F : Fun K "_law_at" "_law_at" s__law_at f fd) (z_len : mg "len" = none) :
    FnOk P w K mg base CX0 1 f fd ["_law_script", "_law_k"] (spD K f__law_at 2) := by
  refine fn_ok F sc__law_at fun cdv A outer s H E hr => ?_
  have nd := sc__law_at.nd
  exact (b_cons (s_if (t_cmp k_lt (d_var 1) (d_len z_len (a_cons (d_var 0) a_nil))) (b_one (s_ret (d_ix (d_var 0) (d_var 1)))) b_nil)
    (b_one (s_ret d_int)))
theorem ok__law_purse {f : Addr} {fd : FuncData} (F : Fun K "_law_purse" "_law_purse" s__law_purse f fd) (h__law_at : Has P w K mg base "_law_at" 1 2 f__law_at) (z_max : mg "max" = none) :
    FnOk P w K mg base CX0 2 f fd ["_law_script", "_law_at_here"] (spD K f__law_purse 2) := by
  refine fn_ok F sc__law_purse fun cdv A outer s H E hr => ?_
  have nd := sc__law_purse.nd
  exact (b_cons (s_set 2 nd (d_def h__law_at hr (a_cons (d_var 0) (a_cons (d_var 1) a_nil))))
    (b_one (s_ret (d_lst true (a_cons (d_max2 z_max (a_cons (d_sub (d_var 2) (d_pow d_int d_int)) (a_cons d_int a_nil))) (a_cons (d_var 2) (a_cons (d_mulU false d_int (d_var 1)) a_nil)))))))
theorem ok__law_mixed {f : Addr} {fd : FuncData} (F : Fun K "_law_mixed" "_law_mixed" s__law_mixed f fd)  :
    FnOk P w K mg base CX0 1 f fd ["_law_cell", "_law_k"] (spD K f__law_mixed 2) := by
  refine fn_ok F sc__law_mixed fun cdv A outer s H E hr => ?_
  have nd := sc__law_mixed.nd
  exact (b_cons (s_set 2 nd (d_mod (d_add false (d_add false (d_mulU false (d_var 0) d_int) (d_mulU false (d_mulU false d_int (d_var 1)) (d_var 1))) (d_var 1)) d_int))
    (b_cons (s_set 2 nd (d_mod (d_mulU false (d_var 2) (d_var 2)) d_int))
    (b_one (s_ret (d_mod (d_mulU false (d_var 2) d_int) d_int)))))
theorem ok__law_draw {f : Addr} {fd : FuncData} (F : Fun K "_law_draw" "_law_draw" s__law_draw f fd) (h__law_mixed : Has P w K mg base "_law_mixed" 1 2 f__law_mixed) (z_int : mg "int" = none) (z_range : mg "range" = none) :
    FnOk P w K mg base CX0 2 f fd ["_law_purse_here", "_law_out_of"] (spD K f__law_draw 2) := by
  refine fn_ok F sc__law_draw fun cdv A outer s H E hr => ?_
  have nd := sc__law_draw.nd
  exact (b_cons (s_if (t_cmp k_gt (d_ix (d_var 0) d_int) d_int) (b_cons (s_set 2 nd (d_mod (d_ix (d_var 0) d_int) (d_var 1)))
      (b_cons (s_put (d_var 0) d_int (d_div (d_ix (d_var 0) d_int) (d_var 1)))
      (b_one (s_ret (d_var 2))))) b_nil)
    (b_cons (s_set 3 nd d_int)
    (b_cons (s_for (i_r1 z_range (a_cons (d_ix (d_lst false (a_cons d_int (a_cons d_int a_nil))) (d_intf z_int (a_cons (d_cmp k_gt (d_var 1) (d_pow d_int d_int)) a_nil))) a_nil)) (g_name 4 nd) (b_wipe [4] (b_cons (s_put (d_var 0) d_int (d_add false (d_ix (d_var 0) d_int) d_int))
      (b_one (s_set 3 nd (d_add false (d_mulU false (d_var 3) d_int) (d_def h__law_mixed hr (a_cons (d_ix (d_var 0) d_int) (a_cons (d_ix (d_var 0) d_int) a_nil)))))))))
    (b_one (s_ret (d_mod (d_var 3) (d_var 1)))))))
theorem ok__law_fraction_text {f : Addr} {fd : FuncData} (F : Fun K "_law_fraction_text" "_law_fraction_text" s__law_fraction_text f fd) (z_str : mg "str" = none) :
    FnOk P w K mg base CX0 1 f fd ["_law_part_here"] (spD K f__law_fraction_text 1) := by
  refine fn_ok F sc__law_fraction_text fun cdv A outer s H E hr => ?_
  have nd := sc__law_fraction_text.nd
  exact (b_cons (s_if (t_cmp (k_eq hr) (d_ix (d_var 0) d_int) d_int) (b_one (s_ret (d_str1 z_str (a_cons (d_ix (d_var 0) d_int) a_nil)))) b_nil)
    (b_one (s_ret (d_add false (d_add false (d_str1 z_str (a_cons (d_ix (d_var 0) d_int) a_nil)) d_str) (d_str1 z_str (a_cons (d_ix (d_var 0) d_int) a_nil))))))
theorem ok__law_table_text {f : Addr} {fd : FuncData} (F : Fun K "_law_table_text" "_law_table_text" s__law_table_text f fd) (h__law_fraction_text : Has P w K mg base "_law_fraction_text" 1 1 f__law_fraction_text) (z_str : mg "str" = none) (z_enumerate : mg "enumerate" = none) :
    FnOk P w K mg base CX0 2 f fd ["_law_rows"] (spD K f__law_table_text 1) := by
  refine fn_ok F sc__law_table_text fun cdv A outer s H E hr => ?_
  have nd := sc__law_table_text.nd
  exact (b_cons (s_set 1 nd (d_lst true a_nil))
    (b_cons (s_for (i_en z_enumerate (a_cons (d_var 0) a_nil)) (g_tup (g_cons (g_name 2 nd) (g_cons (g_name 3 nd) g_nil))) (b_wipe [2, 3] (b_one (s_if (t_isN (d_var 3)) (b_one (s_expr (d_append (d_var 1) (a_cons (d_add false (d_str1 z_str (a_cons (d_var 2) a_nil)) d_str) a_nil)))) (b_one (s_expr (d_append (d_var 1) (a_cons (d_add false (d_add false (d_add false (d_add false (d_str1 z_str (a_cons (d_var 2) a_nil)) d_str) (d_def h__law_fraction_text hr (a_cons (d_ix (d_var 3) d_int) a_nil))) d_str) (d_str1 z_str (a_cons (d_ix (d_var 3) d_int) a_nil))) a_nil))))))))
    (b_one (s_ret (d_join (d_var 1))))))
theorem ok__law_lowest {f : Addr} {fd : FuncData} (F : Fun K "_law_lowest" "_law_lowest" s__law_lowest f fd) (z_abs : mg "abs" = none) :
    FnOk P w K mg base CX0 1 f fd ["_law_top", "_law_bottom"] (spD K f__law_lowest 2) := by
  refine fn_ok F sc__law_lowest fun cdv A outer s H E hr => ?_
  have nd := sc__law_lowest.nd
  exact (b_cons (s_par 2 3 nd (d_abs z_abs (a_cons (d_var 0) a_nil)) (d_var 1))
    (b_cons (s_while (t_cmp k_gt (d_var 3) d_int) (b_one (s_par 2 3 nd (d_var 3) (d_mod (d_var 2) (d_var 3)))))
    (b_one (s_ret (d_tup (a_cons (d_div (d_var 0) (d_var 2)) (a_cons (d_div (d_var 1) (d_var 2)) a_nil)))))))
theorem ok__law_vast {f : Addr} {fd : FuncData} (F : Fun K "_law_vast" "_law_vast" s__law_vast f fd) (h__law_draw : Has P w K mg base "_law_draw" 2 2 f__law_draw) (z_range : mg "range" = none) :
    FnOk P w K mg base CX0 3 f fd ["_law_purse_here", "_law_out_of"] (spD K f__law_vast 2) := by
  refine fn_ok F sc__law_vast fun cdv A outer s H E hr => ?_
  have nd := sc__law_vast.nd
  exact (b_cons (s_set 2 nd d_int)
    (b_cons (s_for (i_r1 z_range (a_cons d_int a_nil)) (g_name 3 nd) (b_wipe [3] (b_one (s_set 2 nd (d_add false (d_mulU false (d_var 2) (d_pow d_int d_int)) (d_def h__law_draw hr (a_cons (d_var 0) (a_cons (d_pow d_int d_int) a_nil))))))))
    (b_one (s_ret (d_mod (d_var 2) (d_var 1))))))
theorem ok__law_part {f : Addr} {fd : FuncData} (F : Fun K "_law_part" "_law_part" s__law_part f fd) (h__law_draw : Has P w K mg base "_law_draw" 2 2 f__law_draw) (h__law_vast : Has P w K mg base "_law_vast" 3 2 f__law_vast) (h__law_lowest : Has P w K mg base "_law_lowest" 1 2 f__law_lowest) :
    FnOk P w K mg base CX0 4 f fd ["_law_purse_here"] (spD K f__law_part 1) := by
  refine fn_ok F sc__law_part fun cdv A outer s H E hr => ?_
  have nd := sc__law_part.nd
  exact (b_cons (s_set 1 nd (d_ix (d_lst false (a_cons d_int (a_cons d_int (a_cons (d_pow d_int d_int) (a_cons (d_pow d_int d_int) (a_cons (d_sub (d_powW (d_pow d_int d_int) d_int) d_int) a_nil)))))) (d_def h__law_draw (hr.mono (by decide)) (a_cons (d_var 0) (a_cons d_int a_nil)))))
    (b_cons (s_set 2 nd (d_sub (d_def h__law_vast hr (a_cons (d_var 0) (a_cons (d_add false (d_mulU false d_int (d_var 1)) d_int) a_nil))) (d_var 1)))
    (b_one (s_ret (d_def h__law_lowest (hr.mono (by decide)) (a_cons (d_var 2) (a_cons (d_ix (d_lst false (a_cons d_int (a_cons (d_add false d_int (d_def h__law_draw (hr.mono (by decide)) (a_cons (d_var 0) (a_cons d_int a_nil)))) (a_cons (d_var 1) (a_cons (d_add false d_int (d_def h__law_vast hr (a_cons (d_var 0) (a_cons (d_var 1) a_nil)))) a_nil))))) (d_def h__law_draw (hr.mono (by decide)) (a_cons (d_var 0) (a_cons d_int a_nil)))) a_nil)))))))
theorem ok__law_table {f : Addr} {fd : FuncData} (F : Fun K "_law_table" "_law_table" s__law_table f fd) (h__law_draw : Has P w K mg base "_law_draw" 2 2 f__law_draw) (h__law_part : Has P w K mg base "_law_part" 4 1 f__law_part) (z_abs : mg "abs" = none) (z_min : mg "min" = none) (z_range : mg "range" = none) :
    FnOk P w K mg base CX0 5 f fd ["_law_purse_here"] (spD K f__law_table 1) := by
  refine fn_ok F sc__law_table fun cdv A outer s H E hr => ?_
  have nd := sc__law_table.nd
  exact (b_cons (s_set 1 nd (d_ix (d_lst false (a_cons (d_def h__law_draw (hr.mono (by decide)) (a_cons (d_var 0) (a_cons d_int a_nil))) (a_cons (d_def h__law_draw (hr.mono (by decide)) (a_cons (d_var 0) (a_cons d_int a_nil))) (a_cons d_int a_nil)))) (d_div (d_def h__law_draw (hr.mono (by decide)) (a_cons (d_var 0) (a_cons d_int a_nil))) d_int)))
    (b_cons (s_set 2 nd (d_lst true a_nil))
    (b_cons (s_for (i_r1 z_range (a_cons (d_var 1) a_nil)) (g_name 3 nd) (b_wipe [3, 4, 5, 6] (b_cons (s_set 4 nd (d_def h__law_part hr (a_cons (d_var 0) a_nil)))
      (b_cons (s_set 5 nd (d_tup (a_cons (d_abs z_abs (a_cons (d_ix (d_var 4) d_int) a_nil)) (a_cons (d_ix (d_var 4) d_int) a_nil))))
      (b_cons (s_set 6 nd (d_lst false (a_cons d_non (a_cons (d_tup (a_cons (d_var 5) (a_cons (d_def h__law_draw (hr.mono (by decide)) (a_cons (d_var 0) (a_cons (d_var 1) a_nil))) a_nil))) (a_cons (d_tup (a_cons (d_var 5) (a_cons (d_var 3) a_nil))) a_nil)))))
      (b_one (s_expr (d_append (d_var 2) (a_cons (d_ix (d_var 6) (d_min2 z_min (a_cons (d_def h__law_draw (hr.mono (by decide)) (a_cons (d_var 0) (a_cons d_int a_nil))) (a_cons d_int a_nil)))) a_nil)))))))))
    (b_one (s_ret (d_var 2))))))
theorem ok__law_number {f : Addr} {fd : FuncData} (F : Fun K "_law_number" "_law_number" s__law_number f fd) (h__law_draw : Has P w K mg base "_law_draw" 2 2 f__law_draw) :
    FnOk P w K mg base CX0 3 f fd ["_law_purse_here", "_law_way"] (spD K f__law_number 2) := by
  refine fn_ok F sc__law_number fun cdv A outer s H E hr => ?_
  have nd := sc__law_number.nd
  exact (b_cons (s_if (t_cmp (k_eq hr) (d_var 1) d_int) (b_one (s_ret (d_def h__law_draw hr (a_cons (d_var 0) (a_cons d_int a_nil))))) b_nil)
    (b_cons (s_if (t_cmp (k_eq hr) (d_var 1) d_int) (b_one (s_ret (d_sub (d_def h__law_draw hr (a_cons (d_var 0) (a_cons d_int a_nil))) d_int))) b_nil)
    (b_cons (s_if (t_cmp (k_eq hr) (d_var 1) d_int) (b_one (s_ret (d_sub (d_def h__law_draw hr (a_cons (d_var 0) (a_cons d_int a_nil))) d_int))) b_nil)
    (b_one (s_ret (d_ix (d_lst false (a_cons (d_add false (d_sub (d_def h__law_draw hr (a_cons (d_var 0) (a_cons (d_sub (d_mulU false d_int (d_pow d_int d_int)) d_int) a_nil))) (d_pow d_int d_int)) d_int) (a_cons (d_sub (d_pow d_int d_int) d_int) (a_cons (d_sub d_int (d_pow d_int d_int)) a_nil)))) (d_def h__law_draw hr (a_cons (d_var 0) (a_cons d_int a_nil)))))))))
theorem ok__law_row {f : Addr} {fd : FuncData} (F : Fun K "_law_row" "_law_row" s__law_row f fd) (h__law_draw : Has P w K mg base "_law_draw" 2 2 f__law_draw) (h__law_number : Has P w K mg base "_law_number" 3 2 f__law_number) (z_abs : mg "abs" = none) (z_int : mg "int" = none) (z_range : mg "range" = none) :
    FnOk P w K mg base CX0 4 f fd ["_law_purse_here", "_law_most"] (spD K f__law_row 2) := by
  refine fn_ok F sc__law_row fun cdv A outer s H E hr => ?_
  have nd := sc__law_row.nd
  exact (b_cons (s_set 2 nd (d_def h__law_draw (hr.mono (by decide)) (a_cons (d_var 0) (a_cons (d_add false (d_var 1) d_int) a_nil))))
    (b_cons (s_set 3 nd (d_def h__law_draw (hr.mono (by decide)) (a_cons (d_var 0) (a_cons d_int a_nil))))
    (b_cons (s_set 4 nd (d_lst true a_nil))
    (b_cons (s_for (i_r1 z_range (a_cons (d_var 2) a_nil)) (g_name 5 nd) (b_wipe [5] (b_one (s_if (t_w (w_and (t_cmp (k_eq hr) (d_var 3) d_int) (w_and (t_cmp k_gt (d_var 5) d_int) (w_and1 (t_cmp k_gt (d_def h__law_draw (hr.mono (by decide)) (a_cons (d_var 0) (a_cons d_int a_nil))) d_int))))) (b_one (s_expr (d_append (d_var 4) (a_cons (d_mulU false (d_ix (d_var 4) (d_sub (d_var 5) d_int)) (d_ix (d_lst false (a_cons d_int (a_cons d_int (a_cons d_int a_nil)))) (d_mulU false (d_mod (d_var 5) d_int) (d_intf z_int (a_cons (d_cmp k_lt (d_abs z_abs (a_cons (d_ix (d_var 4) (d_sub (d_var 5) d_int)) a_nil)) (d_pow d_int d_int)) a_nil))))) a_nil)))) (b_one (s_expr (d_append (d_var 4) (a_cons (d_def h__law_number hr (a_cons (d_var 0) (a_cons (d_mod (d_var 3) d_int) a_nil))) a_nil))))))))
    (b_one (s_ret (d_var 4)))))))
theorem ok__law_text {f : Addr} {fd : FuncData} (F : Fun K "_law_text" "_law_text" s__law_text f fd) (h__law_draw : Has P w K mg base "_law_draw" 2 2 f__law_draw) (h__law_fraction_text : Has P w K mg base "_law_fraction_text" 1 1 f__law_fraction_text) (h__law_part : Has P w K mg base "_law_part" 4 1 f__law_part) (h__law_row : Has P w K mg base "_law_row" 4 2 f__law_row) (h__law_table_text : Has P w K mg base "_law_table_text" 2 1 f__law_table_text) (h__law_table : Has P w K mg base "_law_table" 5 1 f__law_table) (z_str : mg "str" = none) :
    FnOk P w K mg base CX0 6 f fd ["_law_purse_here"] (spD K f__law_text 1) := by
  refine fn_ok F sc__law_text fun cdv A outer s H E hr => ?_
  have nd := sc__law_text.nd
  exact (b_cons (s_set 1 nd (d_def h__law_draw (hr.mono (by decide)) (a_cons (d_var 0) (a_cons d_int a_nil))))
    (b_cons (s_if (t_cmp (k_eq hr) (d_var 1) d_int) (b_one (s_ret (d_def h__law_fraction_text (hr.mono (by decide)) (a_cons (d_def h__law_part (hr.mono (by decide)) (a_cons (d_var 0) a_nil)) a_nil)))) b_nil)
    (b_cons (s_if (t_cmp (k_eq hr) (d_var 1) d_int) (b_one (s_ret (d_join (d_lc false [("_law_number_here", 2)] nd (i_seq (d_frz (d_def h__law_row (hr.mono (by decide)) (a_cons (d_var 0) (a_cons d_int a_nil))))) (by kernel_rfl) (fun _ _ _ _ _ => (g_name 2 nd)) (fun _ _ _ _ _ => c_nil) (fun _ _ _ _ _ => (d_str1 z_str (a_cons (d_var 2) a_nil))))))) b_nil)
    (b_one (s_ret (d_def h__law_table_text (hr.mono (by decide)) (a_cons (d_slU false (d_frz (d_def h__law_table hr (a_cons (d_var 0) a_nil))) o_none (o_some d_int)) a_nil)))))))
theorem ok__law_whole_of {f : Addr} {fd : FuncData} (F : Fun K "_law_whole_of" "_law_whole_of" s__law_whole_of f fd) (z_len : mg "len" = none) (z_int : mg "int" = none) :
    FnOk P w K mg base CX0 1 f fd ["_law_text_here", "_law_most"] (spD K f__law_whole_of 2) := by
  refine fn_ok F sc__law_whole_of fun cdv A outer s H E hr => ?_
  have nd := sc__law_whole_of.nd
  exact (b_cons (s_set 2 nd (d_var 0))
    (b_cons (s_if (t_cmp (k_eq hr) (d_slV false (d_var 0) o_none (o_some d_int)) d_str) (b_one (s_set 2 nd (d_slV false (d_var 0) (o_some d_int) o_none))) b_nil)
    (b_cons (s_if (t_w (w_or (t_cmp (k_eq hr) (d_var 2) d_str) (w_or (t_cmp k_gt (d_len z_len (a_cons (d_var 2) a_nil)) (d_var 1)) (w_or1 (t_cmp k_gt (d_len z_len (a_cons (d_lc false [("_law_sign", 3)] nd (i_str (d_var 2)) (by kernel_rfl) (fun _ _ _ _ _ => (g_name 3 nd)) (fun _ _ _ _ _ => (c_one (t_cmp k_notInS (d_var 3) d_str))) (fun _ _ _ _ _ => (d_var 3))) a_nil)) d_int))))) (b_one (s_ret d_non)) b_nil)
    (b_cons (s_if (t_w (w_and (t_cmp (k_eq hr) (d_ix (d_var 2) d_int) d_str) (w_and1 (t_cmp (k_ne hr) (d_var 0) d_str)))) (b_one (s_ret d_non)) b_nil)
    (b_one (s_ret (d_intS z_int (a_cons (d_var 0) a_nil))))))))
theorem ok__law_fraction_of {f : Addr} {fd : FuncData} (F : Fun K "_law_fraction_of" "_law_fraction_of" s__law_fraction_of f fd) (h__law_whole_of : Has P w K mg base "_law_whole_of" 1 2 f__law_whole_of) (h__law_lowest : Has P w K mg base "_law_lowest" 1 2 f__law_lowest) (z_len : mg "len" = none) :
    FnOk P w K mg base CX0 2 f fd ["_law_text_here"] (spD K f__law_fraction_of 1) := by
  refine fn_ok F sc__law_fraction_of fun cdv A outer s H E hr => ?_
  have nd := sc__law_fraction_of.nd
  exact (b_cons (s_set 1 nd (d_split false (d_var 0) d_str))
    (b_cons (s_setLc 2 false [("_law_word", 3)] nd (i_seq (d_var 1)) (by kernel_rfl) (fun _ _ _ _ _ => (g_name 3 nd)) (fun _ _ _ _ _ => c_nil) (fun _ _ _ _ _ => (d_def h__law_whole_of hr (a_cons (d_var 3) (a_cons d_int a_nil)))) (sw_true rfl rfl rfl (by decide +kernel)))
    (b_cons (s_if (t_w (w_or (t_cmp k_gt (d_len z_len (a_cons (d_var 1) a_nil)) d_int) (w_or1 (t_cmp k_in d_non (d_var 2))))) (b_one (s_ret d_non)) b_nil)
    (b_cons (s_if (t_cmp (k_eq hr) (d_len z_len (a_cons (d_var 2) a_nil)) d_int) (b_one (s_ret (d_tup (a_cons (d_ix (d_var 2) d_int) (a_cons d_int a_nil))))) b_nil)
    (b_cons (s_if (t_w (w_or (t_cmp k_lt (d_ix (d_var 2) d_int) d_int) (w_or1 (t_cmp (k_ne hr) (d_def h__law_lowest hr (a_cons (d_ix (d_var 2) d_int) (a_cons (d_ix (d_var 2) d_int) a_nil))) (d_tup (a_cons (d_ix (d_var 2) d_int) (a_cons (d_ix (d_var 2) d_int) a_nil))))))) (b_one (s_ret d_non)) b_nil)
    (b_one (s_ret (d_tup (a_cons (d_ix (d_var 2) d_int) (a_cons (d_ix (d_var 2) d_int) a_nil))))))))))
theorem ok__law_row_of {f : Addr} {fd : FuncData} (F : Fun K "_law_row_of" "_law_row_of" s__law_row_of f fd) (h__law_whole_of : Has P w K mg base "_law_whole_of" 1 2 f__law_whole_of) (z_len : mg "len" = none) :
    FnOk P w K mg base CX0 2 f fd ["_law_text_here"] (spD K f__law_row_of 1) := by
  refine fn_ok F sc__law_row_of fun cdv A outer s H E hr => ?_
  have nd := sc__law_row_of.nd
  exact (b_cons (s_if (t_cmp (k_eq hr) (d_var 0) d_str) (b_one (s_ret (d_lst false a_nil))) b_nil)
    (b_cons (s_setLc 1 false [("_law_word", 2)] nd (i_seq (d_split false (d_var 0) d_str)) (by kernel_rfl) (fun _ _ _ _ _ => (g_name 2 nd)) (fun _ _ _ _ _ => c_nil) (fun _ _ _ _ _ => (d_def h__law_whole_of hr (a_cons (d_var 2) (a_cons d_int a_nil)))) (sw_true rfl rfl rfl (by decide +kernel)))
    (b_cons (s_if (t_w (w_or (t_cmp k_in d_non (d_var 1)) (w_or1 (t_cmp k_gt (d_len z_len (a_cons (d_var 1) a_nil)) d_int)))) (b_one (s_ret d_non)) b_nil)
    (b_one (s_ret (d_var 1))))))
theorem ok__law_near_of {f : Addr} {fd : FuncData} (F : Fun K "_law_near_of" "_law_near_of" s__law_near_of f fd) (h__law_fraction_of : Has P w K mg base "_law_fraction_of" 2 1 f__law_fraction_of) (h__law_whole_of : Has P w K mg base "_law_whole_of" 1 2 f__law_whole_of) (z_len : mg "len" = none) :
    FnOk P w K mg base CX0 3 f fd ["_law_words", "_law_many"] (spD K f__law_near_of 2) := by
  refine fn_ok F sc__law_near_of fun cdv A outer s H E hr => ?_
  have nd := sc__law_near_of.nd
  exact (b_cons (s_if (t_cmp (k_ne hr) (d_len z_len (a_cons (d_var 0) a_nil)) d_int) (b_one (s_ret d_non)) b_nil)
    (b_cons (s_set 2 nd (d_def h__law_fraction_of hr (a_cons (d_ix (d_var 0) d_int) a_nil)))
    (b_cons (s_set 3 nd (d_def h__law_whole_of (hr.mono (by decide)) (a_cons (d_ix (d_var 0) d_int) (a_cons d_int a_nil))))
    (b_cons (s_if (t_w (w_or (t_isN (d_var 2)) (w_or (t_isN (d_var 3)) (w_or (t_cmp k_lt (d_ix (d_var 2) d_int) d_int) (w_or (t_cmp k_lt (d_var 3) d_int) (w_or1 (t_cmp k_ge (d_var 3) (d_var 1)))))))) (b_one (s_ret d_non)) b_nil)
    (b_one (s_ret (d_tup (a_cons (d_var 2) (a_cons (d_var 3) a_nil)))))))))
theorem ok__law_table_of {f : Addr} {fd : FuncData} (F : Fun K "_law_table_of" "_law_table_of" s__law_table_of f fd) (h__law_near_of : Has P w K mg base "_law_near_of" 3 2 f__law_near_of) (z_len : mg "len" = none) (z_str : mg "str" = none) (z_enumerate : mg "enumerate" = none) :
    FnOk P w K mg base CX0 4 f fd ["_law_text_here"] (spD K f__law_table_of 1) := by
  refine fn_ok F sc__law_table_of fun cdv A outer s H E hr => ?_
  have nd := sc__law_table_of.nd
  exact (b_cons (s_if (t_cmp (k_eq hr) (d_var 0) d_str) (b_one (s_ret (d_lst true a_nil))) b_nil)
    (b_cons (s_set 1 nd (d_split false (d_var 0) d_str))
    (b_cons (s_set 2 nd (d_lst true a_nil))
    (b_cons (s_for (i_en z_enumerate (a_cons (d_var 1) a_nil)) (g_tup (g_cons (g_name 3 nd) (g_cons (g_name 4 nd) g_nil))) (b_wipe [3, 4, 5, 6] (b_cons (s_set 5 nd (d_split false (d_var 4) d_str))
      (b_cons (s_set 6 nd (d_def h__law_near_of hr (a_cons (d_slU false (d_var 5) (o_some d_int) o_none) (a_cons (d_len z_len (a_cons (d_var 1) a_nil)) a_nil))))
      (b_cons (s_if (t_w (w_or (t_cmp (k_ne hr) (d_ix (d_var 5) d_int) (d_str1 z_str (a_cons (d_var 3) a_nil))) (w_or (t_w (w_and (t_isN (d_var 6)) (w_and1 (t_cmp (k_ne hr) (d_slU false (d_var 5) (o_some d_int) o_none) (d_lst false (a_cons d_str a_nil)))))) (w_or1 (t_cmp k_gt (d_len z_len (a_cons (d_var 1) a_nil)) d_int))))) (b_one (s_ret d_non)) b_nil)
      (b_one (s_expr (d_append (d_var 2) (a_cons (d_var 6) a_nil)))))))))
    (b_one (s_ret (d_var 2)))))))
theorem ok_must {f : Addr} {fd : FuncData} (F : Fun K "must" "must" s_must f fd)  :
    FnOk P w K mg base CX0 1 f fd ["fine"] (spD K f_must 1) := by
  refine fn_ok F sc_must fun cdv A outer s H E hr => ?_
  have nd := sc_must.nd
  exact (b_one (s_if (t_not (t_val (d_var 0))) (b_one s_never) b_nil))
theorem okx_must {f : Addr} {fd : FuncData} (F : Fun K "must" "must" s_must f fd) {C_NoText : Addr} (O_NoText : OwnX K mg "NoText" C_NoText) :
    FnOk P w K mg base (L2.CX P w) 1 f fd ["fine"] (spX K x_must 1) := by
  refine fn_okX F sc_must fun cdv A outer s H E hr tk => ?_
  have nd := sc_must.nd
  exact (x_here (x_if (t_not (t_val (d_var 0))) (x_here (x_raise O_NoText tk)) x_no))
theorem ok_read_whole {f : Addr} {fd : FuncData} (F : Fun K "read_whole" "read_whole" s_read_whole f fd) (h_must : Has P w K mg base "must" 1 1 f_must) (z_len : mg "len" = none) (z_int : mg "int" = none) {u_FIGURES : Value} {vv_FIGURES : V} (m_FIGURES : mg "FIGURES" = some u_FIGURES) (r_FIGURES : RelV vv_FIGURES u_FIGURES) (q_FIGURES : ∀ G, Rv K G vv_FIGURES v_FIGURES) :
    FnOk P w K mg base CX0 2 f fd ["text", "most"] (spD K f_read_whole 2) := by
  refine fn_ok F sc_read_whole fun cdv A outer s H E hr => ?_
  have nd := sc_read_whole.nd
  exact (b_cons (s_set 2 nd (d_var 0))
    (b_cons (s_if (t_cmp (k_eq hr) (d_slV false (d_var 0) o_none (o_some d_int)) d_str) (b_one (s_set 2 nd (d_slV false (d_var 0) (o_some d_int) o_none))) b_nil)
    (b_cons (s_expr (d_def h_must hr (a_cons (d_chain k_lt k_le d_int (d_len z_len (a_cons (d_var 2) a_nil)) (d_var 1)) a_nil)))
    (b_cons (s_for (i_str (d_var 2)) (g_name 3 nd) (b_wipe [3] (b_one (s_expr (d_def h_must hr (a_cons (d_cmp k_inS (d_var 3) (d_glob rfl m_FIGURES r_FIGURES q_FIGURES)) a_nil))))))
    (b_cons (s_expr (d_def h_must hr (a_cons (d_or (d_cmp (k_ne hr) (d_ix (d_var 2) d_int) d_str) (d_one (d_cmp (k_eq hr) (d_var 0) d_str))) a_nil)))
    (b_one (s_ret (d_intS z_int (a_cons (d_var 0) a_nil)))))))))
theorem okx_read_whole {f : Addr} {fd : FuncData} (F : Fun K "read_whole" "read_whole" s_read_whole f fd) (h_must : Has P w K mg base "must" 1 1 f_must) (hx_must : HasX P w K mg base "must" 1 1 x_must) (z_len : mg "len" = none) (z_int : mg "int" = none) {u_FIGURES : Value} {vv_FIGURES : V} (m_FIGURES : mg "FIGURES" = some u_FIGURES) (r_FIGURES : RelV vv_FIGURES u_FIGURES) (q_FIGURES : ∀ G, Rv K G vv_FIGURES v_FIGURES) :
    FnOk P w K mg base (L2.CX P w) 2 f fd ["text", "most"] (spX K x_read_whole 2) := by
  refine fn_okX F sc_read_whole fun cdv A outer s H E hr tk => ?_
  have nd := sc_read_whole.nd
  exact (x_cons (s_set 2 nd (d_var 0)) (x_cons (s_if (t_cmp (k_eq hr) (d_slV false (d_var 0) o_none (o_some d_int)) d_str) (b_one (s_set 2 nd (d_slV false (d_var 0) (o_some d_int) o_none))) b_nil) (x_alt (x_here (x_expr (x_call hx_must hr tk (a_cons (d_chain k_lt k_le d_int (d_len z_len (a_cons (d_var 2) a_nil)) (d_var 1)) a_nil)))) (x_cons (s_expr (d_def h_must hr (a_cons (d_chain k_lt k_le d_int (d_len z_len (a_cons (d_var 2) a_nil)) (d_var 1)) a_nil))) (x_alt (x_here (x_forB (i_str (d_var 2)) (g_name 3 nd) (b_wipe [3] (b_one (s_expr (d_def h_must hr (a_cons (d_cmp k_inS (d_var 3) (d_glob rfl m_FIGURES r_FIGURES q_FIGURES)) a_nil))))) (x_here (x_expr (x_call hx_must hr tk (a_cons (d_cmp k_inS (d_var 3) (d_glob rfl m_FIGURES r_FIGURES q_FIGURES)) a_nil)))))) (x_cons (s_forX (i_str (d_var 2)) (g_name 3 nd) (b_wipe [3] (b_one (s_expr (d_def h_must hr (a_cons (d_cmp k_inS (d_var 3) (d_glob rfl m_FIGURES r_FIGURES q_FIGURES)) a_nil)))))) (x_here (x_expr (x_call hx_must hr tk (a_cons (d_or (d_cmp (k_ne hr) (d_ix (d_var 2) d_int) d_str) (d_one (d_cmp (k_eq hr) (d_var 0) d_str))) a_nil))))))))))
theorem ok_divisor {f : Addr} {fd : FuncData} (F : Fun K "divisor" "divisor" s_divisor f fd) (z_abs : mg "abs" = none) :
    FnOk P w K mg base CX0 1 f fd ["one", "other"] (spD K f_divisor 2) := by
  refine fn_ok F sc_divisor fun cdv A outer s H E hr => ?_
  have nd := sc_divisor.nd
  exact (b_cons (s_set 0 nd (d_abs z_abs (a_cons (d_var 0) a_nil)))
    (b_cons (s_set 1 nd (d_abs z_abs (a_cons (d_var 1) a_nil)))
    (b_cons (s_while (t_cmp k_gt (d_var 1) d_int) (b_one (s_par 0 1 nd (d_var 1) (d_mod (d_var 0) (d_var 1)))))
    (b_one (s_ret (d_var 0))))))
theorem ok_read_fraction {f : Addr} {fd : FuncData} (F : Fun K "read_fraction" "read_fraction" s_read_fraction f fd) (h_read_whole : Has P w K mg base "read_whole" 2 2 f_read_whole) (h_must : Has P w K mg base "must" 1 1 f_must) (h_divisor : Has P w K mg base "divisor" 1 2 f_divisor) {u_MOST_FIGURES : Value} {vv_MOST_FIGURES : V} (m_MOST_FIGURES : mg "MOST_FIGURES" = some u_MOST_FIGURES) (r_MOST_FIGURES : RelV vv_MOST_FIGURES u_MOST_FIGURES) (q_MOST_FIGURES : ∀ G, Rv K G vv_MOST_FIGURES v_MOST_FIGURES) :
    FnOk P w K mg base CX0 3 f fd ["text"] (spD K f_read_fraction 1) := by
  refine fn_ok F sc_read_fraction fun cdv A outer s H E hr => ?_
  have nd := sc_read_fraction.nd
  exact (b_cons (s_asg (d_part (d_var 0) d_str) (g_tup (g_cons (g_name 1 nd) (g_cons (g_name 2 nd) (g_cons (g_name 3 nd) g_nil)))))
    (b_cons (s_if (t_cmp (k_eq hr) (d_var 2) d_str) (b_one (s_ret (d_tup (a_cons (d_def h_read_whole hr (a_cons (d_var 1) (a_cons (d_glob rfl m_MOST_FIGURES r_MOST_FIGURES q_MOST_FIGURES) a_nil))) (a_cons d_int a_nil))))) b_nil)
    (b_cons (s_set 4 nd (d_tup (a_cons (d_def h_read_whole hr (a_cons (d_var 1) (a_cons (d_glob rfl m_MOST_FIGURES r_MOST_FIGURES q_MOST_FIGURES) a_nil))) (a_cons (d_def h_read_whole hr (a_cons (d_var 3) (a_cons (d_glob rfl m_MOST_FIGURES r_MOST_FIGURES q_MOST_FIGURES) a_nil))) a_nil))))
    (b_cons (s_expr (d_def h_must (hr.mono (by decide)) (a_cons (d_and (d_cmp k_gt (d_ix (d_var 4) d_int) d_int) (d_one (d_cmp (k_eq hr) (d_def h_divisor (hr.mono (by decide)) (a_cons (d_ix (d_var 4) d_int) (a_cons (d_ix (d_var 4) d_int) a_nil))) d_int))) a_nil)))
    (b_one (s_ret (d_var 4)))))))
theorem okx_read_fraction {f : Addr} {fd : FuncData} (F : Fun K "read_fraction" "read_fraction" s_read_fraction f fd) (h_read_whole : Has P w K mg base "read_whole" 2 2 f_read_whole) (h_must : Has P w K mg base "must" 1 1 f_must) (h_divisor : Has P w K mg base "divisor" 1 2 f_divisor) (hx_read_whole : HasX P w K mg base "read_whole" 2 2 x_read_whole) (hx_must : HasX P w K mg base "must" 1 1 x_must) {u_MOST_FIGURES : Value} {vv_MOST_FIGURES : V} (m_MOST_FIGURES : mg "MOST_FIGURES" = some u_MOST_FIGURES) (r_MOST_FIGURES : RelV vv_MOST_FIGURES u_MOST_FIGURES) (q_MOST_FIGURES : ∀ G, Rv K G vv_MOST_FIGURES v_MOST_FIGURES) :
    FnOk P w K mg base (L2.CX P w) 3 f fd ["text"] (spX K x_read_fraction 1) := by
  refine fn_okX F sc_read_fraction fun cdv A outer s H E hr tk => ?_
  have nd := sc_read_fraction.nd
  exact (x_cons (s_asg (d_part (d_var 0) d_str) (g_tup (g_cons (g_name 1 nd) (g_cons (g_name 2 nd) (g_cons (g_name 3 nd) g_nil))))) (x_alt (x_here (x_if (t_cmp (k_eq hr) (d_var 2) d_str) (x_here (x_ret (x_tup (xa_here (x_call hx_read_whole hr tk (a_cons (d_var 1) (a_cons (d_glob rfl m_MOST_FIGURES r_MOST_FIGURES q_MOST_FIGURES) a_nil))))))) x_no)) (x_cons (s_if (t_cmp (k_eq hr) (d_var 2) d_str) (b_one (s_ret (d_tup (a_cons (d_def h_read_whole hr (a_cons (d_var 1) (a_cons (d_glob rfl m_MOST_FIGURES r_MOST_FIGURES q_MOST_FIGURES) a_nil))) (a_cons d_int a_nil))))) b_nil) (x_alt (x_here (x_set 4 nd (x_tup (xa_alt (xa_here (x_call hx_read_whole hr tk (a_cons (d_var 1) (a_cons (d_glob rfl m_MOST_FIGURES r_MOST_FIGURES q_MOST_FIGURES) a_nil)))) (xa_then (d_def h_read_whole hr (a_cons (d_var 1) (a_cons (d_glob rfl m_MOST_FIGURES r_MOST_FIGURES q_MOST_FIGURES) a_nil))) (xa_here (x_call hx_read_whole hr tk (a_cons (d_var 3) (a_cons (d_glob rfl m_MOST_FIGURES r_MOST_FIGURES q_MOST_FIGURES) a_nil))))))))) (x_cons (s_set 4 nd (d_tup (a_cons (d_def h_read_whole hr (a_cons (d_var 1) (a_cons (d_glob rfl m_MOST_FIGURES r_MOST_FIGURES q_MOST_FIGURES) a_nil))) (a_cons (d_def h_read_whole hr (a_cons (d_var 3) (a_cons (d_glob rfl m_MOST_FIGURES r_MOST_FIGURES q_MOST_FIGURES) a_nil))) a_nil)))) (x_here (x_expr (x_call hx_must (hr.mono (by decide)) tk (a_cons (d_and (d_cmp k_gt (d_ix (d_var 4) d_int) d_int) (d_one (d_cmp (k_eq hr) (d_def h_divisor (hr.mono (by decide)) (a_cons (d_ix (d_var 4) d_int) (a_cons (d_ix (d_var 4) d_int) a_nil))) d_int))) a_nil)))))))))
theorem ok__law_class {f : Addr} {fd : FuncData} (F : Fun K "_law_class" "_law_class" s__law_class f fd) (z_isinstance : mg "isinstance" = none) (z_ValueError : mg "ValueError" = none) {C_NoLength : Addr} (O_NoLength : OwnX K mg "NoLength" C_NoLength) {C_NoText : Addr} (O_NoText : OwnX K mg "NoText" C_NoText) {C_NoGap : Addr} (O_NoGap : OwnX K mg "NoGap" C_NoGap) {C_NoKind : Addr} (O_NoKind : OwnX K mg "NoKind" C_NoKind) {C_Full : Addr} (O_Full : OwnX K mg "Full" C_Full) {C_NoNumber : Addr} (O_NoNumber : OwnX K mg "NoNumber" C_NoNumber) {C_NoPlace : Addr} (O_NoPlace : OwnX K mg "NoPlace" C_NoPlace) {C_NoDeed : Addr} (O_NoDeed : OwnX K mg "NoDeed" C_NoDeed) {C_Empty : Addr} (O_Empty : OwnX K mg "Empty" C_Empty) {C_NoTracks : Addr} (O_NoTracks : OwnX K mg "NoTracks" C_NoTracks) {C_NoBounds : Addr} (O_NoBounds : OwnX K mg "NoBounds" C_NoBounds) {C_NoLine : Addr} (O_NoLine : OwnX K mg "NoLine" C_NoLine) {C_NoCount : Addr} (O_NoCount : OwnX K mg "NoCount" C_NoCount) (I_NoText : OwnI K mg "NoText" C_NoText) (kn_NoLength : PySem.W.kitOne K (.type "NoneType") (.ref C_NoLength) = some false) (ki_NoText_NoLength : PySem.W.kitOne K (.ref C_NoText) (.ref C_NoLength) = some false) (kn_NoGap : PySem.W.kitOne K (.type "NoneType") (.ref C_NoGap) = some false) (ki_NoText_NoGap : PySem.W.kitOne K (.ref C_NoText) (.ref C_NoGap) = some false) (kn_NoKind : PySem.W.kitOne K (.type "NoneType") (.ref C_NoKind) = some false) (ki_NoText_NoKind : PySem.W.kitOne K (.ref C_NoText) (.ref C_NoKind) = some false) (kn_Full : PySem.W.kitOne K (.type "NoneType") (.ref C_Full) = some false) (ki_NoText_Full : PySem.W.kitOne K (.ref C_NoText) (.ref C_Full) = some false) (kn_NoNumber : PySem.W.kitOne K (.type "NoneType") (.ref C_NoNumber) = some false) (ki_NoText_NoNumber : PySem.W.kitOne K (.ref C_NoText) (.ref C_NoNumber) = some false) (kn_NoPlace : PySem.W.kitOne K (.type "NoneType") (.ref C_NoPlace) = some false) (ki_NoText_NoPlace : PySem.W.kitOne K (.ref C_NoText) (.ref C_NoPlace) = some false) (kn_NoText : PySem.W.kitOne K (.type "NoneType") (.ref C_NoText) = some false) (ki_NoText_NoText : PySem.W.kitOne K (.ref C_NoText) (.ref C_NoText) = some true) (kn_NoDeed : PySem.W.kitOne K (.type "NoneType") (.ref C_NoDeed) = some false) (ki_NoText_NoDeed : PySem.W.kitOne K (.ref C_NoText) (.ref C_NoDeed) = some false) (kn_Empty : PySem.W.kitOne K (.type "NoneType") (.ref C_Empty) = some false) (ki_NoText_Empty : PySem.W.kitOne K (.ref C_NoText) (.ref C_Empty) = some false) (kn_NoTracks : PySem.W.kitOne K (.type "NoneType") (.ref C_NoTracks) = some false) (ki_NoText_NoTracks : PySem.W.kitOne K (.ref C_NoText) (.ref C_NoTracks) = some false) (kn_NoBounds : PySem.W.kitOne K (.type "NoneType") (.ref C_NoBounds) = some false) (ki_NoText_NoBounds : PySem.W.kitOne K (.ref C_NoText) (.ref C_NoBounds) = some false) (kn_NoLine : PySem.W.kitOne K (.type "NoneType") (.ref C_NoLine) = some false) (ki_NoText_NoLine : PySem.W.kitOne K (.ref C_NoText) (.ref C_NoLine) = some false) (kn_NoCount : PySem.W.kitOne K (.type "NoneType") (.ref C_NoCount) = some false) (ki_NoText_NoCount : PySem.W.kitOne K (.ref C_NoText) (.ref C_NoCount) = some false) (kn_ValueError : PySem.W.kitOne K (.type "NoneType") (.type "ValueError") = some false) (ki_NoText_ValueError : PySem.W.kitOne K (.ref C_NoText) (.type "ValueError") = some true) :
    FnOk P w K mg base CX0 1 f fd ["_law_caught"] (spD K f__law_class 1) := by
  refine fn_ok F sc__law_class fun cdv A outer s H E hr => ?_
  have nd := sc__law_class.nd
  exact (b_cons (s_set 1 nd (d_lst true (a_cons (d_isX (all := ["NoText"]) (cs := []) z_isinstance (d_var 0) (ClsV.own _) (pe_own O_NoKind) ⟨kn_NoKind, (isf_cons I_NoText ki_NoText_NoKind isf_nil)⟩) (a_cons (d_isX (all := ["NoText"]) (cs := []) z_isinstance (d_var 0) (ClsV.own _) (pe_own O_NoGap) ⟨kn_NoGap, (isf_cons I_NoText ki_NoText_NoGap isf_nil)⟩) (a_cons (d_isX (all := ["NoText"]) (cs := []) z_isinstance (d_var 0) (ClsV.own _) (pe_own O_NoLength) ⟨kn_NoLength, (isf_cons I_NoText ki_NoText_NoLength isf_nil)⟩) a_nil)))))
    (b_cons (s_set 1 nd (d_add true (d_var 1) (d_lst false (a_cons (d_isX (all := ["NoText"]) (cs := []) z_isinstance (d_var 0) (ClsV.own _) (pe_own O_NoPlace) ⟨kn_NoPlace, (isf_cons I_NoText ki_NoText_NoPlace isf_nil)⟩) (a_cons (d_isX (all := ["NoText"]) (cs := []) z_isinstance (d_var 0) (ClsV.own _) (pe_own O_NoNumber) ⟨kn_NoNumber, (isf_cons I_NoText ki_NoText_NoNumber isf_nil)⟩) (a_cons (d_isX (all := ["NoText"]) (cs := []) z_isinstance (d_var 0) (ClsV.own _) (pe_own O_Full) ⟨kn_Full, (isf_cons I_NoText ki_NoText_Full isf_nil)⟩) a_nil))))))
    (b_cons (s_set 1 nd (d_add true (d_var 1) (d_lst false (a_cons (d_isX (all := ["NoText"]) (cs := []) z_isinstance (d_var 0) (ClsV.own _) (pe_own O_Empty) ⟨kn_Empty, (isf_cons I_NoText ki_NoText_Empty isf_nil)⟩) (a_cons (d_isX (all := ["NoText"]) (cs := []) z_isinstance (d_var 0) (ClsV.own _) (pe_own O_NoDeed) ⟨kn_NoDeed, (isf_cons I_NoText ki_NoText_NoDeed isf_nil)⟩) (a_cons (d_isX (all := ["NoText"]) (cs := ["NoText"]) z_isinstance (d_var 0) (ClsV.own _) (pe_own O_NoText) ⟨kn_NoText, (isf_cons I_NoText ki_NoText_NoText isf_nil)⟩) a_nil))))))
    (b_cons (s_set 1 nd (d_add true (d_var 1) (d_lst false (a_cons (d_isX (all := ["NoText"]) (cs := []) z_isinstance (d_var 0) (ClsV.own _) (pe_own O_NoLine) ⟨kn_NoLine, (isf_cons I_NoText ki_NoText_NoLine isf_nil)⟩) (a_cons (d_isX (all := ["NoText"]) (cs := []) z_isinstance (d_var 0) (ClsV.own _) (pe_own O_NoBounds) ⟨kn_NoBounds, (isf_cons I_NoText ki_NoText_NoBounds isf_nil)⟩) (a_cons (d_isX (all := ["NoText"]) (cs := []) z_isinstance (d_var 0) (ClsV.own _) (pe_own O_NoTracks) ⟨kn_NoTracks, (isf_cons I_NoText ki_NoText_NoTracks isf_nil)⟩) a_nil))))))
    (b_cons (s_expr (d_append (d_var 1) (a_cons (d_isX (all := ["NoText"]) (cs := []) z_isinstance (d_var 0) (ClsV.own _) (pe_own O_NoCount) ⟨kn_NoCount, (isf_cons I_NoText ki_NoText_NoCount isf_nil)⟩) a_nil)))
    (b_cons (s_if (t_isN (d_var 0)) (b_one (s_ret d_str)) b_nil)
    (b_cons (s_if (t_w (w_or (t_not (t_val (d_isX (all := ["NoText"]) (cs := ["NoText"]) z_isinstance (d_var 0) (ClsV.ty _) (pe_ve z_ValueError) ⟨kn_ValueError, (isf_cons I_NoText ki_NoText_ValueError isf_nil)⟩))) (w_or1 (t_cmp (k_ne hr) (d_count (d_var 1) (a_cons d_bl a_nil)) d_int)))) (b_one (s_ret d_str)) b_nil)
    (b_cons (s_set 2 nd (d_lst false (a_cons d_str (a_cons d_str (a_cons d_str (a_cons d_str (a_cons d_str (a_cons d_str (a_cons d_str (a_cons d_str (a_cons d_str (a_cons d_str a_nil))))))))))))
    (b_one (s_ret (d_ix (d_add false (d_var 2) (d_lst false (a_cons d_str (a_cons d_str (a_cons d_str a_nil))))) (d_index (d_var 1) (a_cons d_bl a_nil)))))))))))))
theorem ok_read_row {f : Addr} {fd : FuncData} (F : Fun K "read_row" "read_row" s_read_row f fd) (h_must : Has P w K mg base "must" 1 1 f_must) (h_read_whole : Has P w K mg base "read_whole" 2 2 f_read_whole) (z_len : mg "len" = none) {u_MOST_NUMBERS : Value} {vv_MOST_NUMBERS : V} (m_MOST_NUMBERS : mg "MOST_NUMBERS" = some u_MOST_NUMBERS) (r_MOST_NUMBERS : RelV vv_MOST_NUMBERS u_MOST_NUMBERS) (q_MOST_NUMBERS : ∀ G, Rv K G vv_MOST_NUMBERS v_MOST_NUMBERS) {u_FEW_FIGURES : Value} {vv_FEW_FIGURES : V} (m_FEW_FIGURES : mg "FEW_FIGURES" = some u_FEW_FIGURES) (r_FEW_FIGURES : RelV vv_FEW_FIGURES u_FEW_FIGURES) (q_FEW_FIGURES : ∀ G, Rv K G vv_FEW_FIGURES v_FEW_FIGURES) :
    FnOk P w K mg base CX0 3 f fd ["text"] (spD K f_read_row 1) := by
  refine fn_ok F sc_read_row fun cdv A outer s H E hr => ?_
  have nd := sc_read_row.nd
  exact (b_cons (s_if (t_cmp (k_eq hr) (d_var 0) d_str) (b_one (s_ret (d_lst false a_nil))) b_nil)
    (b_cons (s_set 1 nd (d_split false (d_var 0) d_str))
    (b_cons (s_expr (d_def h_must (hr.mono (by decide)) (a_cons (d_cmp k_le (d_len z_len (a_cons (d_var 1) a_nil)) (d_glob rfl m_MOST_NUMBERS r_MOST_NUMBERS q_MOST_NUMBERS)) a_nil)))
    (b_one (s_ret (d_lc false [("word", 2)] nd (i_seq (d_var 1)) (by kernel_rfl) (fun _ _ _ _ _ => (g_name 2 nd)) (fun _ _ _ _ _ => c_nil) (fun _ _ _ _ _ => (d_def h_read_whole hr (a_cons (d_var 2) (a_cons (d_glob rfl m_FEW_FIGURES r_FEW_FIGURES q_FEW_FIGURES) a_nil))))))))))
theorem okx_read_row {f : Addr} {fd : FuncData} (F : Fun K "read_row" "read_row" s_read_row f fd) (h_must : Has P w K mg base "must" 1 1 f_must) (h_read_whole : Has P w K mg base "read_whole" 2 2 f_read_whole) (hx_must : HasX P w K mg base "must" 1 1 x_must) (hx_read_whole : HasX P w K mg base "read_whole" 2 2 x_read_whole) (z_len : mg "len" = none) {u_MOST_NUMBERS : Value} {vv_MOST_NUMBERS : V} (m_MOST_NUMBERS : mg "MOST_NUMBERS" = some u_MOST_NUMBERS) (r_MOST_NUMBERS : RelV vv_MOST_NUMBERS u_MOST_NUMBERS) (q_MOST_NUMBERS : ∀ G, Rv K G vv_MOST_NUMBERS v_MOST_NUMBERS) {u_FEW_FIGURES : Value} {vv_FEW_FIGURES : V} (m_FEW_FIGURES : mg "FEW_FIGURES" = some u_FEW_FIGURES) (r_FEW_FIGURES : RelV vv_FEW_FIGURES u_FEW_FIGURES) (q_FEW_FIGURES : ∀ G, Rv K G vv_FEW_FIGURES v_FEW_FIGURES) :
    FnOk P w K mg base (L2.CX P w) 3 f fd ["text"] (spX K x_read_row 1) := by
  refine fn_okX F sc_read_row fun cdv A outer s H E hr tk => ?_
  have nd := sc_read_row.nd
  exact (x_cons (s_if (t_cmp (k_eq hr) (d_var 0) d_str) (b_one (s_ret (d_lst false a_nil))) b_nil) (x_cons (s_set 1 nd (d_split false (d_var 0) d_str)) (x_alt (x_here (x_expr (x_call hx_must (hr.mono (by decide)) tk (a_cons (d_cmp k_le (d_len z_len (a_cons (d_var 1) a_nil)) (d_glob rfl m_MOST_NUMBERS r_MOST_NUMBERS q_MOST_NUMBERS)) a_nil)))) (x_cons (s_expr (d_def h_must (hr.mono (by decide)) (a_cons (d_cmp k_le (d_len z_len (a_cons (d_var 1) a_nil)) (d_glob rfl m_MOST_NUMBERS r_MOST_NUMBERS q_MOST_NUMBERS)) a_nil))) (x_here (x_ret (x_lc [("word", 2)] tk nd (i_seq (d_var 1)) (by kernel_rfl) (fun _ _ _ _ _ => (g_name 2 nd)) (fun _ _ _ _ _ => (d_def h_read_whole hr (a_cons (d_var 2) (a_cons (d_glob rfl m_FEW_FIGURES r_FEW_FIGURES q_FEW_FIGURES) a_nil)))) (fun _ _ _ _ _ _ hp => (k_call hp hx_read_whole hr (a_cons (d_var 2) (a_cons (d_glob rfl m_FEW_FIGURES r_FEW_FIGURES q_FEW_FIGURES) a_nil)))))))))))
theorem ok_read_near {f : Addr} {fd : FuncData} (F : Fun K "read_near" "read_near" s_read_near f fd) (h_must : Has P w K mg base "must" 1 1 f_must) (h_read_whole : Has P w K mg base "read_whole" 2 2 f_read_whole) (h_read_fraction : Has P w K mg base "read_fraction" 3 1 f_read_fraction) (z_len : mg "len" = none) {u_FEW_FIGURES : Value} {vv_FEW_FIGURES : V} (m_FEW_FIGURES : mg "FEW_FIGURES" = some u_FEW_FIGURES) (r_FEW_FIGURES : RelV vv_FEW_FIGURES u_FEW_FIGURES) (q_FEW_FIGURES : ∀ G, Rv K G vv_FEW_FIGURES v_FEW_FIGURES) :
    FnOk P w K mg base CX0 4 f fd ["words", "many"] (spD K f_read_near 2) := by
  refine fn_ok F sc_read_near fun cdv A outer s H E hr => ?_
  have nd := sc_read_near.nd
  exact (b_cons (s_if (t_cmp (k_eq hr) (d_var 0) (d_lst false (a_cons d_str a_nil))) (b_one (s_ret d_non)) b_nil)
    (b_cons (s_expr (d_def h_must (hr.mono (by decide)) (a_cons (d_cmp (k_eq hr) (d_len z_len (a_cons (d_var 0) a_nil)) d_int) a_nil)))
    (b_cons (s_set 2 nd (d_tup (a_cons (d_def h_read_fraction hr (a_cons (d_ix (d_var 0) d_int) a_nil)) (a_cons (d_def h_read_whole (hr.mono (by decide)) (a_cons (d_ix (d_var 0) d_int) (a_cons (d_glob rfl m_FEW_FIGURES r_FEW_FIGURES q_FEW_FIGURES) a_nil))) a_nil))))
    (b_cons (s_expr (d_def h_must (hr.mono (by decide)) (a_cons (d_and (d_cmp k_ge (d_ix (d_ix (d_var 2) d_int) d_int) d_int) (d_one (d_chain k_le k_lt d_int (d_ix (d_var 2) d_int) (d_var 1)))) a_nil)))
    (b_one (s_ret (d_var 2)))))))
theorem okx_read_near {f : Addr} {fd : FuncData} (F : Fun K "read_near" "read_near" s_read_near f fd) (h_must : Has P w K mg base "must" 1 1 f_must) (h_read_whole : Has P w K mg base "read_whole" 2 2 f_read_whole) (h_read_fraction : Has P w K mg base "read_fraction" 3 1 f_read_fraction) (hx_must : HasX P w K mg base "must" 1 1 x_must) (hx_read_fraction : HasX P w K mg base "read_fraction" 3 1 x_read_fraction) (hx_read_whole : HasX P w K mg base "read_whole" 2 2 x_read_whole) (z_len : mg "len" = none) {u_FEW_FIGURES : Value} {vv_FEW_FIGURES : V} (m_FEW_FIGURES : mg "FEW_FIGURES" = some u_FEW_FIGURES) (r_FEW_FIGURES : RelV vv_FEW_FIGURES u_FEW_FIGURES) (q_FEW_FIGURES : ∀ G, Rv K G vv_FEW_FIGURES v_FEW_FIGURES) :
    FnOk P w K mg base (L2.CX P w) 4 f fd ["words", "many"] (spX K x_read_near 2) := by
  refine fn_okX F sc_read_near fun cdv A outer s H E hr tk => ?_
  have nd := sc_read_near.nd
  exact (x_cons (s_if (t_cmp (k_eq hr) (d_var 0) (d_lst false (a_cons d_str a_nil))) (b_one (s_ret d_non)) b_nil) (x_alt (x_here (x_expr (x_call hx_must (hr.mono (by decide)) tk (a_cons (d_cmp (k_eq hr) (d_len z_len (a_cons (d_var 0) a_nil)) d_int) a_nil)))) (x_cons (s_expr (d_def h_must (hr.mono (by decide)) (a_cons (d_cmp (k_eq hr) (d_len z_len (a_cons (d_var 0) a_nil)) d_int) a_nil))) (x_alt (x_here (x_set 2 nd (x_tup (xa_alt (xa_here (x_call hx_read_fraction hr tk (a_cons (d_ix (d_var 0) d_int) a_nil))) (xa_then (d_def h_read_fraction hr (a_cons (d_ix (d_var 0) d_int) a_nil)) (xa_here (x_call hx_read_whole (hr.mono (by decide)) tk (a_cons (d_ix (d_var 0) d_int) (a_cons (d_glob rfl m_FEW_FIGURES r_FEW_FIGURES q_FEW_FIGURES) a_nil))))))))) (x_cons (s_set 2 nd (d_tup (a_cons (d_def h_read_fraction hr (a_cons (d_ix (d_var 0) d_int) a_nil)) (a_cons (d_def h_read_whole (hr.mono (by decide)) (a_cons (d_ix (d_var 0) d_int) (a_cons (d_glob rfl m_FEW_FIGURES r_FEW_FIGURES q_FEW_FIGURES) a_nil))) a_nil)))) (x_here (x_expr (x_call hx_must (hr.mono (by decide)) tk (a_cons (d_and (d_cmp k_ge (d_ix (d_ix (d_var 2) d_int) d_int) d_int) (d_one (d_chain k_le k_lt d_int (d_ix (d_var 2) d_int) (d_var 1)))) a_nil)))))))))
theorem ok_read_table {f : Addr} {fd : FuncData} (F : Fun K "read_table" "read_table" s_read_table f fd) (h_must : Has P w K mg base "must" 1 1 f_must) (h_read_near : Has P w K mg base "read_near" 4 2 f_read_near) (z_len : mg "len" = none) (z_str : mg "str" = none) (z_enumerate : mg "enumerate" = none) {u_MOST_NUMBERS : Value} {vv_MOST_NUMBERS : V} (m_MOST_NUMBERS : mg "MOST_NUMBERS" = some u_MOST_NUMBERS) (r_MOST_NUMBERS : RelV vv_MOST_NUMBERS u_MOST_NUMBERS) (q_MOST_NUMBERS : ∀ G, Rv K G vv_MOST_NUMBERS v_MOST_NUMBERS) :
    FnOk P w K mg base CX0 5 f fd ["text"] (spD K f_read_table 1) := by
  refine fn_ok F sc_read_table fun cdv A outer s H E hr => ?_
  have nd := sc_read_table.nd
  exact (b_cons (s_if (t_cmp (k_eq hr) (d_var 0) d_str) (b_one (s_ret (d_lst true a_nil))) b_nil)
    (b_cons (s_set 1 nd (d_split false (d_var 0) d_str))
    (b_cons (s_expr (d_def h_must (hr.mono (by decide)) (a_cons (d_cmp k_le (d_len z_len (a_cons (d_var 1) a_nil)) (d_glob rfl m_MOST_NUMBERS r_MOST_NUMBERS q_MOST_NUMBERS)) a_nil)))
    (b_cons (s_set 2 nd (d_lst true a_nil))
    (b_cons (s_for (i_en z_enumerate (a_cons (d_var 1) a_nil)) (g_tup (g_cons (g_name 3 nd) (g_cons (g_name 4 nd) g_nil))) (b_wipe [3, 4, 5] (b_cons (s_set 5 nd (d_split false (d_var 4) d_str))
      (b_cons (s_expr (d_def h_must (hr.mono (by decide)) (a_cons (d_cmp (k_eq hr) (d_ix (d_var 5) d_int) (d_str1 z_str (a_cons (d_var 3) a_nil))) a_nil)))
      (b_one (s_expr (d_append (d_var 2) (a_cons (d_def h_read_near hr (a_cons (d_slU false (d_var 5) (o_some d_int) o_none) (a_cons (d_len z_len (a_cons (d_var 1) a_nil)) a_nil))) a_nil))))))))
    (b_one (s_ret (d_var 2))))))))
theorem okx_read_table {f : Addr} {fd : FuncData} (F : Fun K "read_table" "read_table" s_read_table f fd) (h_must : Has P w K mg base "must" 1 1 f_must) (h_read_near : Has P w K mg base "read_near" 4 2 f_read_near) (hx_must : HasX P w K mg base "must" 1 1 x_must) (hx_read_near : HasX P w K mg base "read_near" 4 2 x_read_near) (z_len : mg "len" = none) (z_str : mg "str" = none) (z_enumerate : mg "enumerate" = none) {u_MOST_NUMBERS : Value} {vv_MOST_NUMBERS : V} (m_MOST_NUMBERS : mg "MOST_NUMBERS" = some u_MOST_NUMBERS) (r_MOST_NUMBERS : RelV vv_MOST_NUMBERS u_MOST_NUMBERS) (q_MOST_NUMBERS : ∀ G, Rv K G vv_MOST_NUMBERS v_MOST_NUMBERS) :
    FnOk P w K mg base (L2.CX P w) 5 f fd ["text"] (spX K x_read_table 1) := by
  refine fn_okX F sc_read_table fun cdv A outer s H E hr tk => ?_
  have nd := sc_read_table.nd
  exact (x_cons (s_if (t_cmp (k_eq hr) (d_var 0) d_str) (b_one (s_ret (d_lst true a_nil))) b_nil) (x_cons (s_set 1 nd (d_split false (d_var 0) d_str)) (x_alt (x_here (x_expr (x_call hx_must (hr.mono (by decide)) tk (a_cons (d_cmp k_le (d_len z_len (a_cons (d_var 1) a_nil)) (d_glob rfl m_MOST_NUMBERS r_MOST_NUMBERS q_MOST_NUMBERS)) a_nil)))) (x_cons (s_expr (d_def h_must (hr.mono (by decide)) (a_cons (d_cmp k_le (d_len z_len (a_cons (d_var 1) a_nil)) (d_glob rfl m_MOST_NUMBERS r_MOST_NUMBERS q_MOST_NUMBERS)) a_nil))) (x_cons (s_set 2 nd (d_lst true a_nil)) (x_here (x_forB (i_en z_enumerate (a_cons (d_var 1) a_nil)) (g_tup (g_cons (g_name 3 nd) (g_cons (g_name 4 nd) g_nil))) (b_wipe [3, 4, 5] (b_cons (s_set 5 nd (d_split false (d_var 4) d_str))
      (b_cons (s_expr (d_def h_must (hr.mono (by decide)) (a_cons (d_cmp (k_eq hr) (d_ix (d_var 5) d_int) (d_str1 z_str (a_cons (d_var 3) a_nil))) a_nil)))
      (b_one (s_expr (d_append (d_var 2) (a_cons (d_def h_read_near hr (a_cons (d_slU false (d_var 5) (o_some d_int) o_none) (a_cons (d_len z_len (a_cons (d_var 1) a_nil)) a_nil))) a_nil))))))) (x_cons (s_set 5 nd (d_split false (d_var 4) d_str)) (x_alt (x_here (x_expr (x_call hx_must (hr.mono (by decide)) tk (a_cons (d_cmp (k_eq hr) (d_ix (d_var 5) d_int) (d_str1 z_str (a_cons (d_var 3) a_nil))) a_nil)))) (x_cons (s_expr (d_def h_must (hr.mono (by decide)) (a_cons (d_cmp (k_eq hr) (d_ix (d_var 5) d_int) (d_str1 z_str (a_cons (d_var 3) a_nil))) a_nil))) (x_here (x_expr (x_append (d_var 2) (xa_here (x_call hx_read_near hr tk (a_cons (d_slU false (d_var 5) (o_some d_int) o_none) (a_cons (d_len z_len (a_cons (d_var 1) a_nil)) a_nil)))))))))))))))))
theorem ok__law_judged {f : Addr} {fd : FuncData} (F : Fun K "_law_judged" "_law_judged" s__law_judged f fd) (h__law_table_of : Has P w K mg base "_law_table_of" 4 1 f__law_table_of) (h__law_row_of : Has P w K mg base "_law_row_of" 2 1 f__law_row_of) (h__law_fraction_of : Has P w K mg base "_law_fraction_of" 2 1 f__law_fraction_of) (h_read_fraction : Has P w K mg base "read_fraction" 3 1 f_read_fraction) (h_read_row : Has P w K mg base "read_row" 3 1 f_read_row) (h_read_table : Has P w K mg base "read_table" 5 1 f_read_table) (h__law_class : Has P w K mg base "_law_class" 1 1 f__law_class) (hx_read_fraction : HasX P w K mg base "read_fraction" 3 1 x_read_fraction) (hx_read_row : HasX P w K mg base "read_row" 3 1 x_read_row) (hx_read_table : HasX P w K mg base "read_table" 5 1 x_read_table) (z_range : mg "range" = none) {C_NoText : Addr} (O_NoText : OwnX K mg "NoText" C_NoText) {C_EchoError : Addr} (O_EchoError : OwnX K mg "EchoError" C_EchoError) (xs_NoText_EchoError : PySem.W.subIn K (.ref C_NoText) (.ref C_EchoError) = some true) :
    FnOk P w K mg base CX0 6 f fd ["_law_text_here"] (spD K f__law_judged 1) := by
  refine fn_ok F sc__law_judged fun cdv A outer s H E hr => ?_
  have nd := sc__law_judged.nd
  exact (b_cons (s_set 1 nd (d_lst false (a_cons (d_def h__law_fraction_of (hr.mono (by decide)) (a_cons (d_var 0) a_nil)) (a_cons (d_def h__law_row_of (hr.mono (by decide)) (a_cons (d_var 0) a_nil)) (a_cons (d_frz (d_def h__law_table_of (hr.mono (by decide)) (a_cons (d_var 0) a_nil))) a_nil)))))
    (b_cons (s_for (i_r1 z_range (a_cons d_int a_nil)) (g_name 2 nd) (b_wipe [2, 3, 4, 5] (b_cons (s_set 3 nd d_non)
      (b_cons (s_set 4 nd d_non)
      (b_cons (s_tryAs 5 3 nd ⟨rfl, by decide, Or.inl O_EchoError.gC⟩ (fun pn xe => (b_one (s_if (t_cmp (k_eq hr) (d_var 2) d_int) (b_one (s_set 4 nd (d_def h_read_fraction (hr.mono (by decide)) (a_cons (d_var 0) a_nil)))) (b_one (s_if (t_cmp (k_eq hr) (d_var 2) d_int) (b_one (s_set 4 nd (d_def h_read_row (hr.mono (by decide)) (a_cons (d_var 0) a_nil)))) (b_one (s_set 4 nd (d_frz (d_def h_read_table hr (a_cons (d_var 0) a_nil)))))))))) (fun W pn xe tk => (x_here (x_if (t_cmp (k_eq hr) (d_var 2) d_int) (x_here (x_set 4 nd (x_call hx_read_fraction (hr.mono (by decide)) tk (a_cons (d_var 0) a_nil)))) (x_here (x_if (t_cmp (k_eq hr) (d_var 2) d_int) (x_here (x_set 4 nd (x_call hx_read_row (hr.mono (by decide)) tk (a_cons (d_var 0) a_nil)))) (x_here (x_set 4 nd (x_call hx_read_table hr tk (a_cons (d_var 0) a_nil))))))))) (he_cons (exm_by O_NoText O_EchoError xs_NoText_EchoError) he_nil))
      (b_cons (s_if (t_w (w_and (t_isN (d_ix (d_var 1) (d_var 2))) (w_and1 (t_cmp (k_ne hr) (d_def h__law_class (hr.mono (by decide)) (a_cons (d_var 3) a_nil)) d_str)))) (b_one (s_ret d_bl)) b_nil)
      (b_one (s_if (t_w (w_and (t_notN (d_ix (d_var 1) (d_var 2))) (w_and1 (t_w (w_or (t_notN (d_var 3)) (w_or1 (t_cmp (k_ne hr) (d_var 4) (d_ix (d_var 1) (d_var 2))))))))) (b_one (s_ret d_bl)) b_nil))))))))
    (b_one (s_ret d_bl))))
theorem ok__law_bent {f : Addr} {fd : FuncData} (F : Fun K "_law_bent" "_law_bent" s__law_bent f fd) (h__law_draw : Has P w K mg base "_law_draw" 2 2 f__law_draw) (z_len : mg "len" = none) (z_int : mg "int" = none) :
    FnOk P w K mg base CX0 3 f fd ["_law_purse_here", "_law_text_here"] (spD K f__law_bent 2) := by
  refine fn_ok F sc__law_bent fun cdv A outer s H E hr => ?_
  have nd := sc__law_bent.nd
  exact (b_cons (s_set 2 nd (d_def h__law_draw hr (a_cons (d_var 0) (a_cons d_int a_nil))))
    (b_cons (s_set 3 nd (d_def h__law_draw hr (a_cons (d_var 0) (a_cons (d_add false (d_len z_len (a_cons (d_var 1) a_nil)) d_int) a_nil))))
    (b_cons (s_set 4 nd (d_ix d_str (d_def h__law_draw hr (a_cons (d_var 0) (a_cons d_int a_nil)))))
    (b_cons (s_if (t_cmp (k_eq hr) (d_def h__law_draw hr (a_cons (d_var 0) (a_cons d_int a_nil))) d_int) (b_cons (s_set 5 nd d_str)
      (b_one (s_set 4 nd (d_ix (d_var 5) (d_def h__law_draw hr (a_cons (d_var 0) (a_cons (d_len z_len (a_cons (d_var 5) a_nil)) a_nil))))))) b_nil)
    (b_cons (s_if (t_cmp k_lt (d_var 2) d_int) (b_one (s_ret (d_add false (d_add false (d_slV false (d_var 1) o_none (o_some (d_var 3))) (d_var 4)) (d_slV false (d_var 1) (o_some (d_var 3)) o_none)))) b_nil)
    (b_cons (s_if (t_cmp k_lt (d_var 2) d_int) (b_one (s_ret (d_add false (d_slV false (d_var 1) o_none (o_some (d_var 3))) (d_slV false (d_var 1) (o_some (d_add false (d_var 3) d_int)) o_none)))) b_nil)
    (b_cons (s_if (t_cmp k_lt (d_var 2) d_int) (b_one (s_ret (d_add false (d_add false (d_slV false (d_var 1) o_none (o_some (d_var 3))) (d_var 4)) (d_slV false (d_var 1) (o_some (d_add false (d_var 3) d_int)) o_none)))) b_nil)
    (b_cons (s_set 6 nd (d_ix (d_lst false (a_cons d_str (a_cons d_str (a_cons d_str a_nil)))) (d_sub (d_var 2) d_int)))
    (b_cons (s_set 7 nd (d_split false (d_var 1) (d_var 6)))
    (b_cons (s_set 8 nd (d_ix (d_var 7) (d_def h__law_draw hr (a_cons (d_var 0) (a_cons (d_len z_len (a_cons (d_var 7) a_nil)) a_nil)))))
    (b_cons (s_set 3 nd (d_def h__law_draw hr (a_cons (d_var 0) (a_cons (d_len z_len (a_cons (d_var 7) a_nil)) a_nil))))
    (b_cons (s_set 9 nd (d_def h__law_draw hr (a_cons (d_var 0) (a_cons d_int a_nil))))
    (b_cons (s_set 10 nd (d_slU false (d_var 7) (o_some (d_add false (d_var 3) (d_intf z_int (a_cons (d_cmp (k_ne hr) (d_var 9) d_int) a_nil)))) o_none))
    (b_one (s_ret (d_joinV (d_var 6) (d_add false (d_add false (d_slU false (d_var 7) o_none (o_some (d_var 3))) (d_slU false (d_lst false (a_cons (d_var 8) a_nil)) o_none (o_some (d_intf z_int (a_cons (d_cmp k_gt (d_var 9) d_int) a_nil))))) (d_var 10))))))))))))))))))
theorem ok__law_odd {f : Addr} {fd : FuncData} (F : Fun K "_law_odd" "_law_odd" s__law_odd f fd) (z_str : mg "str" = none) (z_range : mg "range" = none) :
    FnOk P w K mg base CX0 1 f fd [] (spD K f__law_odd 0) := by
  refine fn_ok F sc__law_odd fun cdv A outer s H E hr => ?_
  have nd := sc__law_odd.nd
  exact (b_cons (s_set 0 nd (d_lst true (a_cons d_str (a_cons d_str (a_cons d_str (a_cons d_str (a_cons d_str (a_cons d_str (a_cons d_str (a_cons d_str (a_cons d_str (a_cons d_str (a_cons d_str (a_cons d_str a_nil))))))))))))))
    (b_cons (s_set 0 nd (d_add true (d_var 0) (d_lst false (a_cons d_str (a_cons d_str (a_cons d_str (a_cons d_str (a_cons d_str a_nil))))))))
    (b_cons (s_set 0 nd (d_add true (d_var 0) (d_lst false (a_cons d_str (a_cons d_str (a_cons d_str (a_cons d_str (a_cons d_str (a_cons d_str (a_cons d_str (a_cons d_str (a_cons d_str a_nil))))))))))))
    (b_cons (s_set 0 nd (d_add true (d_var 0) (d_lst false (a_cons d_str (a_cons d_str (a_cons d_str (a_cons d_str (a_cons d_str a_nil))))))))
    (b_cons (s_set 0 nd (d_add true (d_var 0) (d_lst false (a_cons d_str (a_cons d_str (a_cons d_str (a_cons d_str (a_cons d_str a_nil))))))))
    (b_cons (s_set 0 nd (d_add true (d_var 0) (d_lst false (a_cons d_str (a_cons d_str (a_cons d_str a_nil))))))
    (b_cons (s_set 0 nd (d_add true (d_var 0) (d_lst false (a_cons d_str (a_cons d_str (a_cons d_str (a_cons d_str (a_cons d_str (a_cons d_str a_nil)))))))))
    (b_cons (s_for (i_seq (d_lst false (a_cons d_int (a_cons d_int (a_cons d_int (a_cons d_int a_nil)))))) (g_name 1 nd) (b_wipe [1, 2] (b_cons (s_set 2 nd (d_mulS d_str (d_var 1)))
      (b_cons (s_set 0 nd (d_add true (d_var 0) (d_lst false (a_cons (d_var 2) (a_cons (d_add false d_str (d_var 2)) (a_cons (d_add false d_str (d_var 2)) a_nil))))))
      (b_one (s_set 0 nd (d_add true (d_var 0) (d_lst false (a_cons (d_add false (d_add false d_str (d_var 2)) d_str) (a_cons (d_add false (d_var 2) d_str) a_nil))))))))))
    (b_pre [1] (b_cons (s_for (i_seq (d_lst false (a_cons d_int (a_cons d_int a_nil)))) (g_name 1 nd) (b_wipe [1, 3, 4] (b_cons (s_expr (d_append (d_var 0) (a_cons (d_join (d_mulU false (d_lst false (a_cons d_str a_nil)) (d_var 1))) a_nil)))
      (b_cons (s_set 3 nd (d_add false d_str (d_str1 z_str (a_cons (d_sub (d_var 1) d_int) a_nil))))
      (b_cons (s_setLc 4 false [("_law_place", 5)] nd (i_r1 z_range (a_cons (d_var 1) a_nil)) (by kernel_rfl) (fun _ _ _ _ _ => (g_name 5 nd)) (fun _ _ _ _ _ => c_nil) (fun _ _ _ _ _ => (d_add false (d_str1 z_str (a_cons (d_var 5) a_nil)) (d_var 3))) (sw_true rfl rfl rfl (by decide +kernel)))
      (b_one (s_expr (d_append (d_var 0) (a_cons (d_join (d_var 4)) a_nil)))))))))
    (b_one (s_ret (d_var 0)))))))))))))
theorem ok_law {f : Addr} {fd : FuncData} (F : Fun K "law" "law" s_law f fd) (h__law_purse : Has P w K mg base "_law_purse" 2 2 f__law_purse) (h__law_text : Has P w K mg base "_law_text" 6 1 f__law_text) (h__law_judged : Has P w K mg base "_law_judged" 6 1 f__law_judged) (h__law_bent : Has P w K mg base "_law_bent" 3 2 f__law_bent) (h__law_draw : Has P w K mg base "_law_draw" 2 2 f__law_draw) (h__law_odd : Has P w K mg base "_law_odd" 1 0 f__law_odd) (z_range : mg "range" = none) (z_len : mg "len" = none) :
    FnOk P w K mg base CX0 7 f fd ["_law_script"] (spD K f_law 1) := by
  refine fn_ok F sc_law fun cdv A outer s H E hr => ?_
  have nd := sc_law.nd
  exact (b_cons (s_for (i_r1 z_range (a_cons d_int a_nil)) (g_name 1 nd) (b_wipe [1, 2, 3, 4] (b_cons (s_set 2 nd (d_def h__law_purse (hr.mono (by decide)) (a_cons (d_var 0) (a_cons (d_var 1) a_nil))))
      (b_cons (s_set 3 nd (d_def h__law_text hr (a_cons (d_var 2) a_nil)))
      (b_cons (s_if (t_not (t_val (d_def h__law_judged hr (a_cons (d_var 3) a_nil)))) (b_one (s_ret d_bl)) b_nil)
      (b_pre [4] (b_one (s_for (i_r1 z_range (a_cons (d_add false d_int (d_def h__law_draw (hr.mono (by decide)) (a_cons (d_var 2) (a_cons d_int a_nil)))) a_nil)) (g_name 4 nd) (b_wipe [4] (b_cons (s_set 3 nd (d_def h__law_bent (hr.mono (by decide)) (a_cons (d_var 2) (a_cons (d_var 3) a_nil))))
        (b_one (s_if (t_not (t_val (d_def h__law_judged hr (a_cons (d_var 3) a_nil)))) (b_one (s_ret d_bl)) b_nil))))))))))))
    (b_one (s_ret (d_cmp (k_eq hr) (d_len z_len (a_cons (d_lc false [("_law_text_here", 3)] nd (i_seq (d_frz (d_def0 h__law_odd (hr.mono (by decide))))) (by kernel_rfl) (fun _ _ _ _ _ => (g_name 3 nd)) (fun _ _ _ _ _ => (c_one (t_not (t_val (d_def h__law_judged hr (a_cons (d_var 3) a_nil)))))) (fun _ _ _ _ _ => (d_var 3))) a_nil)) d_int))))
end
theorem all_mk {l : PySem.W.OpenLaw} {w : World} {K : PySem.W.Frag} {h : Heap} {mg : Str → Option Value} {fa : Addr} (X : K.In h) (G : h.Ns mainGlobals mg) (hfa : mg "law" = some (.ref fa))
    {f1 : Addr} {od1 an1 : Option Addr} {sl1 : Array (Option Value)} {oc1 kV1 dc1 pm1 cd1 ct1 : Value}
    {f2 : Addr} {od2 an2 : Option Addr} {sl2 : Array (Option Value)} {oc2 kV2 dc2 pm2 cd2 ct2 : Value}
    {f3 : Addr} {od3 an3 : Option Addr} {sl3 : Array (Option Value)} {oc3 kV3 dc3 pm3 cd3 ct3 : Value}
    {f4 : Addr} {od4 an4 : Option Addr} {sl4 : Array (Option Value)} {oc4 kV4 dc4 pm4 cd4 ct4 : Value}
    {f5 : Addr} {od5 an5 : Option Addr} {sl5 : Array (Option Value)} {oc5 kV5 dc5 pm5 cd5 ct5 : Value}
    {f6 : Addr} {od6 an6 : Option Addr} {sl6 : Array (Option Value)} {oc6 kV6 dc6 pm6 cd6 ct6 : Value}
    {f7 : Addr} {od7 an7 : Option Addr} {sl7 : Array (Option Value)} {oc7 kV7 dc7 pm7 cd7 ct7 : Value}
    {f8 : Addr} {od8 an8 : Option Addr} {sl8 : Array (Option Value)} {oc8 kV8 dc8 pm8 cd8 ct8 : Value}
    {f9 : Addr} {od9 an9 : Option Addr} {sl9 : Array (Option Value)} {oc9 kV9 dc9 pm9 cd9 ct9 : Value}
    {f10 : Addr} {od10 an10 : Option Addr} {sl10 : Array (Option Value)} {oc10 kV10 dc10 pm10 cd10 ct10 : Value}
    {f11 : Addr} {od11 an11 : Option Addr} {sl11 : Array (Option Value)} {oc11 kV11 dc11 pm11 cd11 ct11 : Value}
    {f12 : Addr} {od12 an12 : Option Addr} {sl12 : Array (Option Value)} {oc12 kV12 dc12 pm12 cd12 ct12 : Value}
    {f13 : Addr} {od13 an13 : Option Addr} {sl13 : Array (Option Value)} {oc13 kV13 dc13 pm13 cd13 ct13 : Value}
    {f14 : Addr} {od14 an14 : Option Addr} {sl14 : Array (Option Value)} {oc14 kV14 dc14 pm14 cd14 ct14 : Value}
    {f15 : Addr} {od15 an15 : Option Addr} {sl15 : Array (Option Value)} {oc15 kV15 dc15 pm15 cd15 ct15 : Value}
    {f16 : Addr} {od16 an16 : Option Addr} {sl16 : Array (Option Value)} {oc16 kV16 dc16 pm16 cd16 ct16 : Value}
    {f17 : Addr} {od17 an17 : Option Addr} {sl17 : Array (Option Value)} {oc17 kV17 dc17 pm17 cd17 ct17 : Value}
    {f18 : Addr} {od18 an18 : Option Addr} {sl18 : Array (Option Value)} {oc18 kV18 dc18 pm18 cd18 ct18 : Value}
    {f19 : Addr} {od19 an19 : Option Addr} {sl19 : Array (Option Value)} {oc19 kV19 dc19 pm19 cd19 ct19 : Value}
    {f20 : Addr} {od20 an20 : Option Addr} {sl20 : Array (Option Value)} {oc20 kV20 dc20 pm20 cd20 ct20 : Value}
    {f21 : Addr} {od21 an21 : Option Addr} {sl21 : Array (Option Value)} {oc21 kV21 dc21 pm21 cd21 ct21 : Value}
    {f22 : Addr} {od22 an22 : Option Addr} {sl22 : Array (Option Value)} {oc22 kV22 dc22 pm22 cd22 ct22 : Value}
    {f23 : Addr} {od23 an23 : Option Addr} {sl23 : Array (Option Value)} {oc23 kV23 dc23 pm23 cd23 ct23 : Value}
    {f24 : Addr} {od24 an24 : Option Addr} {sl24 : Array (Option Value)} {oc24 kV24 dc24 pm24 cd24 ct24 : Value}
    {f25 : Addr} {od25 an25 : Option Addr} {sl25 : Array (Option Value)} {oc25 kV25 dc25 pm25 cd25 ct25 : Value}
    {f26 : Addr} {od26 an26 : Option Addr} {sl26 : Array (Option Value)} {oc26 kV26 dc26 pm26 cd26 ct26 : Value}
    {f27 : Addr} {od27 an27 : Option Addr} {sl27 : Array (Option Value)} {oc27 kV27 dc27 pm27 cd27 ct27 : Value}
    {f28 : Addr} {od28 an28 : Option Addr} {sl28 : Array (Option Value)} {oc28 kV28 dc28 pm28 cd28 ct28 : Value}
    {f29 : Addr} {od29 an29 : Option Addr} {sl29 : Array (Option Value)} {oc29 kV29 dc29 pm29 cd29 ct29 : Value}
    {f30 : Addr} {od30 an30 : Option Addr} {sl30 : Array (Option Value)} {oc30 kV30 dc30 pm30 cd30 ct30 : Value}
    {C_NoText : Addr}
    {C_NoLength : Addr}
    {C_NoGap : Addr}
    {C_NoKind : Addr}
    {C_Full : Addr}
    {C_NoNumber : Addr}
    {C_NoPlace : Addr}
    {C_NoDeed : Addr}
    {C_Empty : Addr}
    {C_NoTracks : Addr}
    {C_NoBounds : Addr}
    {C_NoLine : Addr}
    {C_NoCount : Addr}
    {C_EchoError : Addr}
    {gt_FIGURES : Tok}
    {gt_MOST_FIGURES : Tok}
    {gt_MOST_NUMBERS : Tok}
    {gt_FEW_FIGURES : Tok}
    (a1 : PySem.W.nsIn K mainGlobals "_law_at" = some (some (.ref f1))) (l1 : K.lookup f1 = some ⟨oc1, od1, .func (PySem.W.fnOf "_law_at" "_law_at" (defArgs s__law_at) (defBody s__law_at) (defScope s__law_at) .none kV1 dc1 pm1 an1 cd1 ct1), sl1⟩) (c1 : PySem.W.codeIn K cd1 "_law_at" = true) (k1 : PySem.W.keepIn K (.ref f1) = true)
    (a2 : PySem.W.nsIn K mainGlobals "_law_purse" = some (some (.ref f2))) (l2 : K.lookup f2 = some ⟨oc2, od2, .func (PySem.W.fnOf "_law_purse" "_law_purse" (defArgs s__law_purse) (defBody s__law_purse) (defScope s__law_purse) .none kV2 dc2 pm2 an2 cd2 ct2), sl2⟩) (c2 : PySem.W.codeIn K cd2 "_law_purse" = true) (k2 : PySem.W.keepIn K (.ref f2) = true)
    (a3 : PySem.W.nsIn K mainGlobals "_law_mixed" = some (some (.ref f3))) (l3 : K.lookup f3 = some ⟨oc3, od3, .func (PySem.W.fnOf "_law_mixed" "_law_mixed" (defArgs s__law_mixed) (defBody s__law_mixed) (defScope s__law_mixed) .none kV3 dc3 pm3 an3 cd3 ct3), sl3⟩) (c3 : PySem.W.codeIn K cd3 "_law_mixed" = true) (k3 : PySem.W.keepIn K (.ref f3) = true)
    (a4 : PySem.W.nsIn K mainGlobals "_law_draw" = some (some (.ref f4))) (l4 : K.lookup f4 = some ⟨oc4, od4, .func (PySem.W.fnOf "_law_draw" "_law_draw" (defArgs s__law_draw) (defBody s__law_draw) (defScope s__law_draw) .none kV4 dc4 pm4 an4 cd4 ct4), sl4⟩) (c4 : PySem.W.codeIn K cd4 "_law_draw" = true) (k4 : PySem.W.keepIn K (.ref f4) = true)
    (a5 : PySem.W.nsIn K mainGlobals "_law_fraction_text" = some (some (.ref f5))) (l5 : K.lookup f5 = some ⟨oc5, od5, .func (PySem.W.fnOf "_law_fraction_text" "_law_fraction_text" (defArgs s__law_fraction_text) (defBody s__law_fraction_text) (defScope s__law_fraction_text) .none kV5 dc5 pm5 an5 cd5 ct5), sl5⟩) (c5 : PySem.W.codeIn K cd5 "_law_fraction_text" = true) (k5 : PySem.W.keepIn K (.ref f5) = true)
    (a6 : PySem.W.nsIn K mainGlobals "_law_table_text" = some (some (.ref f6))) (l6 : K.lookup f6 = some ⟨oc6, od6, .func (PySem.W.fnOf "_law_table_text" "_law_table_text" (defArgs s__law_table_text) (defBody s__law_table_text) (defScope s__law_table_text) .none kV6 dc6 pm6 an6 cd6 ct6), sl6⟩) (c6 : PySem.W.codeIn K cd6 "_law_table_text" = true) (k6 : PySem.W.keepIn K (.ref f6) = true)
    (a7 : PySem.W.nsIn K mainGlobals "_law_lowest" = some (some (.ref f7))) (l7 : K.lookup f7 = some ⟨oc7, od7, .func (PySem.W.fnOf "_law_lowest" "_law_lowest" (defArgs s__law_lowest) (defBody s__law_lowest) (defScope s__law_lowest) .none kV7 dc7 pm7 an7 cd7 ct7), sl7⟩) (c7 : PySem.W.codeIn K cd7 "_law_lowest" = true) (k7 : PySem.W.keepIn K (.ref f7) = true)
    (a8 : PySem.W.nsIn K mainGlobals "_law_vast" = some (some (.ref f8))) (l8 : K.lookup f8 = some ⟨oc8, od8, .func (PySem.W.fnOf "_law_vast" "_law_vast" (defArgs s__law_vast) (defBody s__law_vast) (defScope s__law_vast) .none kV8 dc8 pm8 an8 cd8 ct8), sl8⟩) (c8 : PySem.W.codeIn K cd8 "_law_vast" = true) (k8 : PySem.W.keepIn K (.ref f8) = true)
    (a9 : PySem.W.nsIn K mainGlobals "_law_part" = some (some (.ref f9))) (l9 : K.lookup f9 = some ⟨oc9, od9, .func (PySem.W.fnOf "_law_part" "_law_part" (defArgs s__law_part) (defBody s__law_part) (defScope s__law_part) .none kV9 dc9 pm9 an9 cd9 ct9), sl9⟩) (c9 : PySem.W.codeIn K cd9 "_law_part" = true) (k9 : PySem.W.keepIn K (.ref f9) = true)
    (a10 : PySem.W.nsIn K mainGlobals "_law_table" = some (some (.ref f10))) (l10 : K.lookup f10 = some ⟨oc10, od10, .func (PySem.W.fnOf "_law_table" "_law_table" (defArgs s__law_table) (defBody s__law_table) (defScope s__law_table) .none kV10 dc10 pm10 an10 cd10 ct10), sl10⟩) (c10 : PySem.W.codeIn K cd10 "_law_table" = true) (k10 : PySem.W.keepIn K (.ref f10) = true)
    (a11 : PySem.W.nsIn K mainGlobals "_law_number" = some (some (.ref f11))) (l11 : K.lookup f11 = some ⟨oc11, od11, .func (PySem.W.fnOf "_law_number" "_law_number" (defArgs s__law_number) (defBody s__law_number) (defScope s__law_number) .none kV11 dc11 pm11 an11 cd11 ct11), sl11⟩) (c11 : PySem.W.codeIn K cd11 "_law_number" = true) (k11 : PySem.W.keepIn K (.ref f11) = true)
    (a12 : PySem.W.nsIn K mainGlobals "_law_row" = some (some (.ref f12))) (l12 : K.lookup f12 = some ⟨oc12, od12, .func (PySem.W.fnOf "_law_row" "_law_row" (defArgs s__law_row) (defBody s__law_row) (defScope s__law_row) .none kV12 dc12 pm12 an12 cd12 ct12), sl12⟩) (c12 : PySem.W.codeIn K cd12 "_law_row" = true) (k12 : PySem.W.keepIn K (.ref f12) = true)
    (a13 : PySem.W.nsIn K mainGlobals "_law_text" = some (some (.ref f13))) (l13 : K.lookup f13 = some ⟨oc13, od13, .func (PySem.W.fnOf "_law_text" "_law_text" (defArgs s__law_text) (defBody s__law_text) (defScope s__law_text) .none kV13 dc13 pm13 an13 cd13 ct13), sl13⟩) (c13 : PySem.W.codeIn K cd13 "_law_text" = true) (k13 : PySem.W.keepIn K (.ref f13) = true)
    (a14 : PySem.W.nsIn K mainGlobals "_law_whole_of" = some (some (.ref f14))) (l14 : K.lookup f14 = some ⟨oc14, od14, .func (PySem.W.fnOf "_law_whole_of" "_law_whole_of" (defArgs s__law_whole_of) (defBody s__law_whole_of) (defScope s__law_whole_of) .none kV14 dc14 pm14 an14 cd14 ct14), sl14⟩) (c14 : PySem.W.codeIn K cd14 "_law_whole_of" = true) (k14 : PySem.W.keepIn K (.ref f14) = true)
    (a15 : PySem.W.nsIn K mainGlobals "_law_fraction_of" = some (some (.ref f15))) (l15 : K.lookup f15 = some ⟨oc15, od15, .func (PySem.W.fnOf "_law_fraction_of" "_law_fraction_of" (defArgs s__law_fraction_of) (defBody s__law_fraction_of) (defScope s__law_fraction_of) .none kV15 dc15 pm15 an15 cd15 ct15), sl15⟩) (c15 : PySem.W.codeIn K cd15 "_law_fraction_of" = true) (k15 : PySem.W.keepIn K (.ref f15) = true)
    (a16 : PySem.W.nsIn K mainGlobals "_law_row_of" = some (some (.ref f16))) (l16 : K.lookup f16 = some ⟨oc16, od16, .func (PySem.W.fnOf "_law_row_of" "_law_row_of" (defArgs s__law_row_of) (defBody s__law_row_of) (defScope s__law_row_of) .none kV16 dc16 pm16 an16 cd16 ct16), sl16⟩) (c16 : PySem.W.codeIn K cd16 "_law_row_of" = true) (k16 : PySem.W.keepIn K (.ref f16) = true)
    (a17 : PySem.W.nsIn K mainGlobals "_law_near_of" = some (some (.ref f17))) (l17 : K.lookup f17 = some ⟨oc17, od17, .func (PySem.W.fnOf "_law_near_of" "_law_near_of" (defArgs s__law_near_of) (defBody s__law_near_of) (defScope s__law_near_of) .none kV17 dc17 pm17 an17 cd17 ct17), sl17⟩) (c17 : PySem.W.codeIn K cd17 "_law_near_of" = true) (k17 : PySem.W.keepIn K (.ref f17) = true)
    (a18 : PySem.W.nsIn K mainGlobals "_law_table_of" = some (some (.ref f18))) (l18 : K.lookup f18 = some ⟨oc18, od18, .func (PySem.W.fnOf "_law_table_of" "_law_table_of" (defArgs s__law_table_of) (defBody s__law_table_of) (defScope s__law_table_of) .none kV18 dc18 pm18 an18 cd18 ct18), sl18⟩) (c18 : PySem.W.codeIn K cd18 "_law_table_of" = true) (k18 : PySem.W.keepIn K (.ref f18) = true)
    (a19 : PySem.W.nsIn K mainGlobals "must" = some (some (.ref f19))) (l19 : K.lookup f19 = some ⟨oc19, od19, .func (PySem.W.fnOf "must" "must" (defArgs s_must) (defBody s_must) (defScope s_must) .none kV19 dc19 pm19 an19 cd19 ct19), sl19⟩) (c19 : PySem.W.codeIn K cd19 "must" = true) (k19 : PySem.W.keepIn K (.ref f19) = true)
    (a20 : PySem.W.nsIn K mainGlobals "read_whole" = some (some (.ref f20))) (l20 : K.lookup f20 = some ⟨oc20, od20, .func (PySem.W.fnOf "read_whole" "read_whole" (defArgs s_read_whole) (defBody s_read_whole) (defScope s_read_whole) .none kV20 dc20 pm20 an20 cd20 ct20), sl20⟩) (c20 : PySem.W.codeIn K cd20 "read_whole" = true) (k20 : PySem.W.keepIn K (.ref f20) = true)
    (a21 : PySem.W.nsIn K mainGlobals "divisor" = some (some (.ref f21))) (l21 : K.lookup f21 = some ⟨oc21, od21, .func (PySem.W.fnOf "divisor" "divisor" (defArgs s_divisor) (defBody s_divisor) (defScope s_divisor) .none kV21 dc21 pm21 an21 cd21 ct21), sl21⟩) (c21 : PySem.W.codeIn K cd21 "divisor" = true) (k21 : PySem.W.keepIn K (.ref f21) = true)
    (a22 : PySem.W.nsIn K mainGlobals "read_fraction" = some (some (.ref f22))) (l22 : K.lookup f22 = some ⟨oc22, od22, .func (PySem.W.fnOf "read_fraction" "read_fraction" (defArgs s_read_fraction) (defBody s_read_fraction) (defScope s_read_fraction) .none kV22 dc22 pm22 an22 cd22 ct22), sl22⟩) (c22 : PySem.W.codeIn K cd22 "read_fraction" = true) (k22 : PySem.W.keepIn K (.ref f22) = true)
    (a23 : PySem.W.nsIn K mainGlobals "_law_class" = some (some (.ref f23))) (l23 : K.lookup f23 = some ⟨oc23, od23, .func (PySem.W.fnOf "_law_class" "_law_class" (defArgs s__law_class) (defBody s__law_class) (defScope s__law_class) .none kV23 dc23 pm23 an23 cd23 ct23), sl23⟩) (c23 : PySem.W.codeIn K cd23 "_law_class" = true) (k23 : PySem.W.keepIn K (.ref f23) = true)
    (a24 : PySem.W.nsIn K mainGlobals "read_row" = some (some (.ref f24))) (l24 : K.lookup f24 = some ⟨oc24, od24, .func (PySem.W.fnOf "read_row" "read_row" (defArgs s_read_row) (defBody s_read_row) (defScope s_read_row) .none kV24 dc24 pm24 an24 cd24 ct24), sl24⟩) (c24 : PySem.W.codeIn K cd24 "read_row" = true) (k24 : PySem.W.keepIn K (.ref f24) = true)
    (a25 : PySem.W.nsIn K mainGlobals "read_near" = some (some (.ref f25))) (l25 : K.lookup f25 = some ⟨oc25, od25, .func (PySem.W.fnOf "read_near" "read_near" (defArgs s_read_near) (defBody s_read_near) (defScope s_read_near) .none kV25 dc25 pm25 an25 cd25 ct25), sl25⟩) (c25 : PySem.W.codeIn K cd25 "read_near" = true) (k25 : PySem.W.keepIn K (.ref f25) = true)
    (a26 : PySem.W.nsIn K mainGlobals "read_table" = some (some (.ref f26))) (l26 : K.lookup f26 = some ⟨oc26, od26, .func (PySem.W.fnOf "read_table" "read_table" (defArgs s_read_table) (defBody s_read_table) (defScope s_read_table) .none kV26 dc26 pm26 an26 cd26 ct26), sl26⟩) (c26 : PySem.W.codeIn K cd26 "read_table" = true) (k26 : PySem.W.keepIn K (.ref f26) = true)
    (a27 : PySem.W.nsIn K mainGlobals "_law_judged" = some (some (.ref f27))) (l27 : K.lookup f27 = some ⟨oc27, od27, .func (PySem.W.fnOf "_law_judged" "_law_judged" (defArgs s__law_judged) (defBody s__law_judged) (defScope s__law_judged) .none kV27 dc27 pm27 an27 cd27 ct27), sl27⟩) (c27 : PySem.W.codeIn K cd27 "_law_judged" = true) (k27 : PySem.W.keepIn K (.ref f27) = true)
    (a28 : PySem.W.nsIn K mainGlobals "_law_bent" = some (some (.ref f28))) (l28 : K.lookup f28 = some ⟨oc28, od28, .func (PySem.W.fnOf "_law_bent" "_law_bent" (defArgs s__law_bent) (defBody s__law_bent) (defScope s__law_bent) .none kV28 dc28 pm28 an28 cd28 ct28), sl28⟩) (c28 : PySem.W.codeIn K cd28 "_law_bent" = true) (k28 : PySem.W.keepIn K (.ref f28) = true)
    (a29 : PySem.W.nsIn K mainGlobals "_law_odd" = some (some (.ref f29))) (l29 : K.lookup f29 = some ⟨oc29, od29, .func (PySem.W.fnOf "_law_odd" "_law_odd" (defArgs s__law_odd) (defBody s__law_odd) (defScope s__law_odd) .none kV29 dc29 pm29 an29 cd29 ct29), sl29⟩) (c29 : PySem.W.codeIn K cd29 "_law_odd" = true) (k29 : PySem.W.keepIn K (.ref f29) = true)
    (a30 : PySem.W.nsIn K mainGlobals "law" = some (some (.ref f30))) (l30 : K.lookup f30 = some ⟨oc30, od30, .func (PySem.W.fnOf "law" "law" (defArgs s_law) (defBody s_law) (defScope s_law) .none kV30 dc30 pm30 an30 cd30 ct30), sl30⟩) (c30 : PySem.W.codeIn K cd30 "law" = true) (k30 : PySem.W.keepIn K (.ref f30) = true)
    (zz_len : PySem.W.nsIn K mainGlobals "len" = some none)
    (zz_max : PySem.W.nsIn K mainGlobals "max" = some none)
    (zz_int : PySem.W.nsIn K mainGlobals "int" = some none)
    (zz_range : PySem.W.nsIn K mainGlobals "range" = some none)
    (zz_str : PySem.W.nsIn K mainGlobals "str" = some none)
    (zz_enumerate : PySem.W.nsIn K mainGlobals "enumerate" = some none)
    (zz_abs : PySem.W.nsIn K mainGlobals "abs" = some none)
    (zz_min : PySem.W.nsIn K mainGlobals "min" = some none)
    (zz_isinstance : PySem.W.nsIn K mainGlobals "isinstance" = some none)
    (zz_ValueError : PySem.W.nsIn K mainGlobals "ValueError" = some none)
    (xa_NoText : PySem.W.nsIn K mainGlobals "NoText" = some (some (.ref C_NoText))) (xx_NoText : PySem.W.excIn K C_NoText [.type "ValueError", .type "Exception", .type "BaseException", .type "object"] "ValueError.__new__" = true) (xk_NoText : PySem.W.keepIn K (.ref C_NoText) = true) (xb_NoText : PySem.W.subIn K (.ref C_NoText) (.type "BaseException") = some true) (xt_NoText : PySem.W.typeIn K (.ref C_NoText) = some (.type "type")) (xd_NoText : PySem.W.hasDictIn K C_NoText = true)
    (xa_NoLength : PySem.W.nsIn K mainGlobals "NoLength" = some (some (.ref C_NoLength))) (xx_NoLength : PySem.W.excIn K C_NoLength [.type "ValueError", .type "Exception", .type "BaseException", .type "object"] "ValueError.__new__" = true) (xk_NoLength : PySem.W.keepIn K (.ref C_NoLength) = true) (xb_NoLength : PySem.W.subIn K (.ref C_NoLength) (.type "BaseException") = some true) (xt_NoLength : PySem.W.typeIn K (.ref C_NoLength) = some (.type "type")) (xd_NoLength : PySem.W.hasDictIn K C_NoLength = true)
    (xa_NoGap : PySem.W.nsIn K mainGlobals "NoGap" = some (some (.ref C_NoGap))) (xx_NoGap : PySem.W.excIn K C_NoGap [.type "ValueError", .type "Exception", .type "BaseException", .type "object"] "ValueError.__new__" = true) (xk_NoGap : PySem.W.keepIn K (.ref C_NoGap) = true) (xb_NoGap : PySem.W.subIn K (.ref C_NoGap) (.type "BaseException") = some true) (xt_NoGap : PySem.W.typeIn K (.ref C_NoGap) = some (.type "type")) (xd_NoGap : PySem.W.hasDictIn K C_NoGap = true)
    (xa_NoKind : PySem.W.nsIn K mainGlobals "NoKind" = some (some (.ref C_NoKind))) (xx_NoKind : PySem.W.excIn K C_NoKind [.type "ValueError", .type "Exception", .type "BaseException", .type "object"] "ValueError.__new__" = true) (xk_NoKind : PySem.W.keepIn K (.ref C_NoKind) = true) (xb_NoKind : PySem.W.subIn K (.ref C_NoKind) (.type "BaseException") = some true) (xt_NoKind : PySem.W.typeIn K (.ref C_NoKind) = some (.type "type")) (xd_NoKind : PySem.W.hasDictIn K C_NoKind = true)
    (xa_Full : PySem.W.nsIn K mainGlobals "Full" = some (some (.ref C_Full))) (xx_Full : PySem.W.excIn K C_Full [.type "ValueError", .type "Exception", .type "BaseException", .type "object"] "ValueError.__new__" = true) (xk_Full : PySem.W.keepIn K (.ref C_Full) = true) (xb_Full : PySem.W.subIn K (.ref C_Full) (.type "BaseException") = some true) (xt_Full : PySem.W.typeIn K (.ref C_Full) = some (.type "type")) (xd_Full : PySem.W.hasDictIn K C_Full = true)
    (xa_NoNumber : PySem.W.nsIn K mainGlobals "NoNumber" = some (some (.ref C_NoNumber))) (xx_NoNumber : PySem.W.excIn K C_NoNumber [.type "ValueError", .type "Exception", .type "BaseException", .type "object"] "ValueError.__new__" = true) (xk_NoNumber : PySem.W.keepIn K (.ref C_NoNumber) = true) (xb_NoNumber : PySem.W.subIn K (.ref C_NoNumber) (.type "BaseException") = some true) (xt_NoNumber : PySem.W.typeIn K (.ref C_NoNumber) = some (.type "type")) (xd_NoNumber : PySem.W.hasDictIn K C_NoNumber = true)
    (xa_NoPlace : PySem.W.nsIn K mainGlobals "NoPlace" = some (some (.ref C_NoPlace))) (xx_NoPlace : PySem.W.excIn K C_NoPlace [.type "ValueError", .type "Exception", .type "BaseException", .type "object"] "ValueError.__new__" = true) (xk_NoPlace : PySem.W.keepIn K (.ref C_NoPlace) = true) (xb_NoPlace : PySem.W.subIn K (.ref C_NoPlace) (.type "BaseException") = some true) (xt_NoPlace : PySem.W.typeIn K (.ref C_NoPlace) = some (.type "type")) (xd_NoPlace : PySem.W.hasDictIn K C_NoPlace = true)
    (xa_NoDeed : PySem.W.nsIn K mainGlobals "NoDeed" = some (some (.ref C_NoDeed))) (xx_NoDeed : PySem.W.excIn K C_NoDeed [.type "ValueError", .type "Exception", .type "BaseException", .type "object"] "ValueError.__new__" = true) (xk_NoDeed : PySem.W.keepIn K (.ref C_NoDeed) = true) (xb_NoDeed : PySem.W.subIn K (.ref C_NoDeed) (.type "BaseException") = some true) (xt_NoDeed : PySem.W.typeIn K (.ref C_NoDeed) = some (.type "type")) (xd_NoDeed : PySem.W.hasDictIn K C_NoDeed = true)
    (xa_Empty : PySem.W.nsIn K mainGlobals "Empty" = some (some (.ref C_Empty))) (xx_Empty : PySem.W.excIn K C_Empty [.type "ValueError", .type "Exception", .type "BaseException", .type "object"] "ValueError.__new__" = true) (xk_Empty : PySem.W.keepIn K (.ref C_Empty) = true) (xb_Empty : PySem.W.subIn K (.ref C_Empty) (.type "BaseException") = some true) (xt_Empty : PySem.W.typeIn K (.ref C_Empty) = some (.type "type")) (xd_Empty : PySem.W.hasDictIn K C_Empty = true)
    (xa_NoTracks : PySem.W.nsIn K mainGlobals "NoTracks" = some (some (.ref C_NoTracks))) (xx_NoTracks : PySem.W.excIn K C_NoTracks [.type "ValueError", .type "Exception", .type "BaseException", .type "object"] "ValueError.__new__" = true) (xk_NoTracks : PySem.W.keepIn K (.ref C_NoTracks) = true) (xb_NoTracks : PySem.W.subIn K (.ref C_NoTracks) (.type "BaseException") = some true) (xt_NoTracks : PySem.W.typeIn K (.ref C_NoTracks) = some (.type "type")) (xd_NoTracks : PySem.W.hasDictIn K C_NoTracks = true)
    (xa_NoBounds : PySem.W.nsIn K mainGlobals "NoBounds" = some (some (.ref C_NoBounds))) (xx_NoBounds : PySem.W.excIn K C_NoBounds [.type "ValueError", .type "Exception", .type "BaseException", .type "object"] "ValueError.__new__" = true) (xk_NoBounds : PySem.W.keepIn K (.ref C_NoBounds) = true) (xb_NoBounds : PySem.W.subIn K (.ref C_NoBounds) (.type "BaseException") = some true) (xt_NoBounds : PySem.W.typeIn K (.ref C_NoBounds) = some (.type "type")) (xd_NoBounds : PySem.W.hasDictIn K C_NoBounds = true)
    (xa_NoLine : PySem.W.nsIn K mainGlobals "NoLine" = some (some (.ref C_NoLine))) (xx_NoLine : PySem.W.excIn K C_NoLine [.type "ValueError", .type "Exception", .type "BaseException", .type "object"] "ValueError.__new__" = true) (xk_NoLine : PySem.W.keepIn K (.ref C_NoLine) = true) (xb_NoLine : PySem.W.subIn K (.ref C_NoLine) (.type "BaseException") = some true) (xt_NoLine : PySem.W.typeIn K (.ref C_NoLine) = some (.type "type")) (xd_NoLine : PySem.W.hasDictIn K C_NoLine = true)
    (xa_NoCount : PySem.W.nsIn K mainGlobals "NoCount" = some (some (.ref C_NoCount))) (xx_NoCount : PySem.W.excIn K C_NoCount [.type "ValueError", .type "Exception", .type "BaseException", .type "object"] "ValueError.__new__" = true) (xk_NoCount : PySem.W.keepIn K (.ref C_NoCount) = true) (xb_NoCount : PySem.W.subIn K (.ref C_NoCount) (.type "BaseException") = some true) (xt_NoCount : PySem.W.typeIn K (.ref C_NoCount) = some (.type "type")) (xd_NoCount : PySem.W.hasDictIn K C_NoCount = true)
    (xa_EchoError : PySem.W.nsIn K mainGlobals "EchoError" = some (some (.ref C_EchoError))) (xx_EchoError : PySem.W.excIn K C_EchoError [.type "ValueError", .type "Exception", .type "BaseException", .type "object"] "ValueError.__new__" = true) (xk_EchoError : PySem.W.keepIn K (.ref C_EchoError) = true) (xb_EchoError : PySem.W.subIn K (.ref C_EchoError) (.type "BaseException") = some true) (xt_EchoError : PySem.W.typeIn K (.ref C_EchoError) = some (.type "type")) (xd_EchoError : PySem.W.hasDictIn K C_EchoError = true)
    (xs_NoText_EchoError : PySem.W.subIn K (.ref C_NoText) (.ref C_EchoError) = some true)
    (xn_ : PySem.W.specialIn K (.builtin "object.__class__") "__get__" = some (some (.builtin "getset_descriptor.__get__"))) (xw_ : PySem.W.takesIn K (.builtin "object.__class__") = some true)
    (xg_NoText : PySem.W.findIn K (.ref C_NoText) "__getattribute__" = some (some (.builtin "BaseException.__getattribute__"))) (xh_NoText : PySem.W.findIn K (.ref C_NoText) "__getattr__" = some none) (xc_NoText : PySem.W.findIn K (.ref C_NoText) "__class__" = some (some (.builtin "object.__class__"))) (xm_NoText : PySem.W.mroIn K C_NoText (.type "object") = some true)
    (kn_NoLength : PySem.W.kitOne K (.type "NoneType") (.ref C_NoLength) = some false)
    (ki_NoText_NoLength : PySem.W.kitOne K (.ref C_NoText) (.ref C_NoLength) = some false)
    (kn_NoGap : PySem.W.kitOne K (.type "NoneType") (.ref C_NoGap) = some false)
    (ki_NoText_NoGap : PySem.W.kitOne K (.ref C_NoText) (.ref C_NoGap) = some false)
    (kn_NoKind : PySem.W.kitOne K (.type "NoneType") (.ref C_NoKind) = some false)
    (ki_NoText_NoKind : PySem.W.kitOne K (.ref C_NoText) (.ref C_NoKind) = some false)
    (kn_Full : PySem.W.kitOne K (.type "NoneType") (.ref C_Full) = some false)
    (ki_NoText_Full : PySem.W.kitOne K (.ref C_NoText) (.ref C_Full) = some false)
    (kn_NoNumber : PySem.W.kitOne K (.type "NoneType") (.ref C_NoNumber) = some false)
    (ki_NoText_NoNumber : PySem.W.kitOne K (.ref C_NoText) (.ref C_NoNumber) = some false)
    (kn_NoPlace : PySem.W.kitOne K (.type "NoneType") (.ref C_NoPlace) = some false)
    (ki_NoText_NoPlace : PySem.W.kitOne K (.ref C_NoText) (.ref C_NoPlace) = some false)
    (kn_NoText : PySem.W.kitOne K (.type "NoneType") (.ref C_NoText) = some false)
    (ki_NoText_NoText : PySem.W.kitOne K (.ref C_NoText) (.ref C_NoText) = some true)
    (kn_NoDeed : PySem.W.kitOne K (.type "NoneType") (.ref C_NoDeed) = some false)
    (ki_NoText_NoDeed : PySem.W.kitOne K (.ref C_NoText) (.ref C_NoDeed) = some false)
    (kn_Empty : PySem.W.kitOne K (.type "NoneType") (.ref C_Empty) = some false)
    (ki_NoText_Empty : PySem.W.kitOne K (.ref C_NoText) (.ref C_Empty) = some false)
    (kn_NoTracks : PySem.W.kitOne K (.type "NoneType") (.ref C_NoTracks) = some false)
    (ki_NoText_NoTracks : PySem.W.kitOne K (.ref C_NoText) (.ref C_NoTracks) = some false)
    (kn_NoBounds : PySem.W.kitOne K (.type "NoneType") (.ref C_NoBounds) = some false)
    (ki_NoText_NoBounds : PySem.W.kitOne K (.ref C_NoText) (.ref C_NoBounds) = some false)
    (kn_NoLine : PySem.W.kitOne K (.type "NoneType") (.ref C_NoLine) = some false)
    (ki_NoText_NoLine : PySem.W.kitOne K (.ref C_NoText) (.ref C_NoLine) = some false)
    (kn_NoCount : PySem.W.kitOne K (.type "NoneType") (.ref C_NoCount) = some false)
    (ki_NoText_NoCount : PySem.W.kitOne K (.ref C_NoText) (.ref C_NoCount) = some false)
    (kn_ValueError : PySem.W.kitOne K (.type "NoneType") (.type "ValueError") = some false)
    (ki_NoText_ValueError : PySem.W.kitOne K (.ref C_NoText) (.type "ValueError") = some true)
    (ga1_FIGURES : PySem.W.nsIn K mainGlobals "FIGURES" = some (some (.str "0123456789" gt_FIGURES)))
    (ga1_MOST_FIGURES : PySem.W.nsIn K mainGlobals "MOST_FIGURES" = some (some (.int 200 gt_MOST_FIGURES)))
    (ga1_MOST_NUMBERS : PySem.W.nsIn K mainGlobals "MOST_NUMBERS" = some (some (.int 200 gt_MOST_NUMBERS)))
    (ga1_FEW_FIGURES : PySem.W.nsIn K mainGlobals "FEW_FIGURES" = some (some (.int 9 gt_FEW_FIGURES))) :
    ∃ fd : FuncData, (∀ (s : Shared) (v : Value), BindsTo s fd ⟨[v], []⟩ [("_law_script", v)]) ∧ ∀ base : Heap, K.In base → base.Ns mainGlobals mg → FnOk l.prog w K mg base CX0 7 fa fd ["_law_script"] (spD K f_law 1) := by
  have e := hfa.symm.trans (PySem.W.mg_of X G a30)
  cases e
  have z_len := PySem.W.mg_none_of X G zz_len
  have z_max := PySem.W.mg_none_of X G zz_max
  have z_int := PySem.W.mg_none_of X G zz_int
  have z_range := PySem.W.mg_none_of X G zz_range
  have z_str := PySem.W.mg_none_of X G zz_str
  have z_enumerate := PySem.W.mg_none_of X G zz_enumerate
  have z_abs := PySem.W.mg_none_of X G zz_abs
  have z_min := PySem.W.mg_none_of X G zz_min
  have z_isinstance := PySem.W.mg_none_of X G zz_isinstance
  have z_ValueError := PySem.W.mg_none_of X G zz_ValueError
  have O_NoText : OwnX K mg "NoText" C_NoText := ⟨xa_NoText, PySem.W.mg_of X G xa_NoText, xx_NoText, xk_NoText, xb_NoText, xt_NoText, xd_NoText⟩
  have O_NoLength : OwnX K mg "NoLength" C_NoLength := ⟨xa_NoLength, PySem.W.mg_of X G xa_NoLength, xx_NoLength, xk_NoLength, xb_NoLength, xt_NoLength, xd_NoLength⟩
  have O_NoGap : OwnX K mg "NoGap" C_NoGap := ⟨xa_NoGap, PySem.W.mg_of X G xa_NoGap, xx_NoGap, xk_NoGap, xb_NoGap, xt_NoGap, xd_NoGap⟩
  have O_NoKind : OwnX K mg "NoKind" C_NoKind := ⟨xa_NoKind, PySem.W.mg_of X G xa_NoKind, xx_NoKind, xk_NoKind, xb_NoKind, xt_NoKind, xd_NoKind⟩
  have O_Full : OwnX K mg "Full" C_Full := ⟨xa_Full, PySem.W.mg_of X G xa_Full, xx_Full, xk_Full, xb_Full, xt_Full, xd_Full⟩
  have O_NoNumber : OwnX K mg "NoNumber" C_NoNumber := ⟨xa_NoNumber, PySem.W.mg_of X G xa_NoNumber, xx_NoNumber, xk_NoNumber, xb_NoNumber, xt_NoNumber, xd_NoNumber⟩
  have O_NoPlace : OwnX K mg "NoPlace" C_NoPlace := ⟨xa_NoPlace, PySem.W.mg_of X G xa_NoPlace, xx_NoPlace, xk_NoPlace, xb_NoPlace, xt_NoPlace, xd_NoPlace⟩
  have O_NoDeed : OwnX K mg "NoDeed" C_NoDeed := ⟨xa_NoDeed, PySem.W.mg_of X G xa_NoDeed, xx_NoDeed, xk_NoDeed, xb_NoDeed, xt_NoDeed, xd_NoDeed⟩
  have O_Empty : OwnX K mg "Empty" C_Empty := ⟨xa_Empty, PySem.W.mg_of X G xa_Empty, xx_Empty, xk_Empty, xb_Empty, xt_Empty, xd_Empty⟩
  have O_NoTracks : OwnX K mg "NoTracks" C_NoTracks := ⟨xa_NoTracks, PySem.W.mg_of X G xa_NoTracks, xx_NoTracks, xk_NoTracks, xb_NoTracks, xt_NoTracks, xd_NoTracks⟩
  have O_NoBounds : OwnX K mg "NoBounds" C_NoBounds := ⟨xa_NoBounds, PySem.W.mg_of X G xa_NoBounds, xx_NoBounds, xk_NoBounds, xb_NoBounds, xt_NoBounds, xd_NoBounds⟩
  have O_NoLine : OwnX K mg "NoLine" C_NoLine := ⟨xa_NoLine, PySem.W.mg_of X G xa_NoLine, xx_NoLine, xk_NoLine, xb_NoLine, xt_NoLine, xd_NoLine⟩
  have O_NoCount : OwnX K mg "NoCount" C_NoCount := ⟨xa_NoCount, PySem.W.mg_of X G xa_NoCount, xx_NoCount, xk_NoCount, xb_NoCount, xt_NoCount, xd_NoCount⟩
  have O_EchoError : OwnX K mg "EchoError" C_EchoError := ⟨xa_EchoError, PySem.W.mg_of X G xa_EchoError, xx_EchoError, xk_EchoError, xb_EchoError, xt_EchoError, xd_EchoError⟩
  have I_NoText : OwnI K mg "NoText" C_NoText := ⟨O_NoText, ⟨xg_NoText, xh_NoText, xb_NoText, xd_NoText, xc_NoText, xn_, xw_, xm_NoText⟩⟩
  have q_FIGURES : ∀ G, Rv K G (.str "0123456789") v_FIGURES := fun G => .str _
  have m_FIGURES := PySem.W.mg_of X G ga1_FIGURES
  have r_FIGURES : RelV (.str "0123456789") (.str "0123456789" gt_FIGURES) := ⟨_, rfl⟩
  have q_MOST_FIGURES : ∀ G, Rv K G (.int 200) v_MOST_FIGURES := fun G => .int _
  have m_MOST_FIGURES := PySem.W.mg_of X G ga1_MOST_FIGURES
  have r_MOST_FIGURES : RelV (.int 200) (.int 200 gt_MOST_FIGURES) := ⟨_, rfl⟩
  have q_MOST_NUMBERS : ∀ G, Rv K G (.int 200) v_MOST_NUMBERS := fun G => .int _
  have m_MOST_NUMBERS := PySem.W.mg_of X G ga1_MOST_NUMBERS
  have r_MOST_NUMBERS : RelV (.int 200) (.int 200 gt_MOST_NUMBERS) := ⟨_, rfl⟩
  have q_FEW_FIGURES : ∀ G, Rv K G (.int 9) v_FEW_FIGURES := fun G => .int _
  have m_FEW_FIGURES := PySem.W.mg_of X G ga1_FEW_FIGURES
  have r_FEW_FIGURES : RelV (.int 9) (.int 9 gt_FEW_FIGURES) := ⟨_, rfl⟩
  have F1 := fun_mk (st := s__law_at) l1 c1 k1
  have b1 := F1.binds (ps := ["_law_script", "_law_k"]) fun _ _ _ _ _ _ us hl => match us, hl with | [_, _], _ => rfl
  have F2 := fun_mk (st := s__law_purse) l2 c2 k2
  have b2 := F2.binds (ps := ["_law_script", "_law_at_here"]) fun _ _ _ _ _ _ us hl => match us, hl with | [_, _], _ => rfl
  have F3 := fun_mk (st := s__law_mixed) l3 c3 k3
  have b3 := F3.binds (ps := ["_law_cell", "_law_k"]) fun _ _ _ _ _ _ us hl => match us, hl with | [_, _], _ => rfl
  have F4 := fun_mk (st := s__law_draw) l4 c4 k4
  have b4 := F4.binds (ps := ["_law_purse_here", "_law_out_of"]) fun _ _ _ _ _ _ us hl => match us, hl with | [_, _], _ => rfl
  have F5 := fun_mk (st := s__law_fraction_text) l5 c5 k5
  have b5 := F5.binds (ps := ["_law_part_here"]) fun _ _ _ _ _ _ us hl => match us, hl with | [_], _ => rfl
  have F6 := fun_mk (st := s__law_table_text) l6 c6 k6
  have b6 := F6.binds (ps := ["_law_rows"]) fun _ _ _ _ _ _ us hl => match us, hl with | [_], _ => rfl
  have F7 := fun_mk (st := s__law_lowest) l7 c7 k7
  have b7 := F7.binds (ps := ["_law_top", "_law_bottom"]) fun _ _ _ _ _ _ us hl => match us, hl with | [_, _], _ => rfl
  have F8 := fun_mk (st := s__law_vast) l8 c8 k8
  have b8 := F8.binds (ps := ["_law_purse_here", "_law_out_of"]) fun _ _ _ _ _ _ us hl => match us, hl with | [_, _], _ => rfl
  have F9 := fun_mk (st := s__law_part) l9 c9 k9
  have b9 := F9.binds (ps := ["_law_purse_here"]) fun _ _ _ _ _ _ us hl => match us, hl with | [_], _ => rfl
  have F10 := fun_mk (st := s__law_table) l10 c10 k10
  have b10 := F10.binds (ps := ["_law_purse_here"]) fun _ _ _ _ _ _ us hl => match us, hl with | [_], _ => rfl
  have F11 := fun_mk (st := s__law_number) l11 c11 k11
  have b11 := F11.binds (ps := ["_law_purse_here", "_law_way"]) fun _ _ _ _ _ _ us hl => match us, hl with | [_, _], _ => rfl
  have F12 := fun_mk (st := s__law_row) l12 c12 k12
  have b12 := F12.binds (ps := ["_law_purse_here", "_law_most"]) fun _ _ _ _ _ _ us hl => match us, hl with | [_, _], _ => rfl
  have F13 := fun_mk (st := s__law_text) l13 c13 k13
  have b13 := F13.binds (ps := ["_law_purse_here"]) fun _ _ _ _ _ _ us hl => match us, hl with | [_], _ => rfl
  have F14 := fun_mk (st := s__law_whole_of) l14 c14 k14
  have b14 := F14.binds (ps := ["_law_text_here", "_law_most"]) fun _ _ _ _ _ _ us hl => match us, hl with | [_, _], _ => rfl
  have F15 := fun_mk (st := s__law_fraction_of) l15 c15 k15
  have b15 := F15.binds (ps := ["_law_text_here"]) fun _ _ _ _ _ _ us hl => match us, hl with | [_], _ => rfl
  have F16 := fun_mk (st := s__law_row_of) l16 c16 k16
  have b16 := F16.binds (ps := ["_law_text_here"]) fun _ _ _ _ _ _ us hl => match us, hl with | [_], _ => rfl
  have F17 := fun_mk (st := s__law_near_of) l17 c17 k17
  have b17 := F17.binds (ps := ["_law_words", "_law_many"]) fun _ _ _ _ _ _ us hl => match us, hl with | [_, _], _ => rfl
  have F18 := fun_mk (st := s__law_table_of) l18 c18 k18
  have b18 := F18.binds (ps := ["_law_text_here"]) fun _ _ _ _ _ _ us hl => match us, hl with | [_], _ => rfl
  have F19 := fun_mk (st := s_must) l19 c19 k19
  have b19 := F19.binds (ps := ["fine"]) fun _ _ _ _ _ _ us hl => match us, hl with | [_], _ => rfl
  have F20 := fun_mk (st := s_read_whole) l20 c20 k20
  have b20 := F20.binds (ps := ["text", "most"]) fun _ _ _ _ _ _ us hl => match us, hl with | [_, _], _ => rfl
  have F21 := fun_mk (st := s_divisor) l21 c21 k21
  have b21 := F21.binds (ps := ["one", "other"]) fun _ _ _ _ _ _ us hl => match us, hl with | [_, _], _ => rfl
  have F22 := fun_mk (st := s_read_fraction) l22 c22 k22
  have b22 := F22.binds (ps := ["text"]) fun _ _ _ _ _ _ us hl => match us, hl with | [_], _ => rfl
  have F23 := fun_mk (st := s__law_class) l23 c23 k23
  have b23 := F23.binds (ps := ["_law_caught"]) fun _ _ _ _ _ _ us hl => match us, hl with | [_], _ => rfl
  have F24 := fun_mk (st := s_read_row) l24 c24 k24
  have b24 := F24.binds (ps := ["text"]) fun _ _ _ _ _ _ us hl => match us, hl with | [_], _ => rfl
  have F25 := fun_mk (st := s_read_near) l25 c25 k25
  have b25 := F25.binds (ps := ["words", "many"]) fun _ _ _ _ _ _ us hl => match us, hl with | [_, _], _ => rfl
  have F26 := fun_mk (st := s_read_table) l26 c26 k26
  have b26 := F26.binds (ps := ["text"]) fun _ _ _ _ _ _ us hl => match us, hl with | [_], _ => rfl
  have F27 := fun_mk (st := s__law_judged) l27 c27 k27
  have b27 := F27.binds (ps := ["_law_text_here"]) fun _ _ _ _ _ _ us hl => match us, hl with | [_], _ => rfl
  have F28 := fun_mk (st := s__law_bent) l28 c28 k28
  have b28 := F28.binds (ps := ["_law_purse_here", "_law_text_here"]) fun _ _ _ _ _ _ us hl => match us, hl with | [_, _], _ => rfl
  have F29 := fun_mk (st := s__law_odd) l29 c29 k29
  have b29 := F29.binds (ps := []) fun _ _ _ _ _ _ us hl => match us, hl with | [], _ => rfl
  have F30 := fun_mk (st := s_law) l30 c30 k30
  refine ⟨PySem.W.fnOf "law" "law" (defArgs s_law) (defBody s_law) (defScope s_law) .none kV30 dc30 pm30 an30 cd30 ct30, fun s v => .of_eq rfl, fun base _ _ => ?_⟩
  have h__law_at : Has l.prog w K mg base "_law_at" 1 2 f__law_at := ⟨_, _, _, ok__law_at F1 z_len, PySem.W.mg_of X G a1, k1, b1⟩
  have h__law_purse : Has l.prog w K mg base "_law_purse" 2 2 f__law_purse := ⟨_, _, _, ok__law_purse F2 h__law_at z_max, PySem.W.mg_of X G a2, k2, b2⟩
  have h__law_mixed : Has l.prog w K mg base "_law_mixed" 1 2 f__law_mixed := ⟨_, _, _, ok__law_mixed F3 , PySem.W.mg_of X G a3, k3, b3⟩
  have h__law_draw : Has l.prog w K mg base "_law_draw" 2 2 f__law_draw := ⟨_, _, _, ok__law_draw F4 h__law_mixed z_int z_range, PySem.W.mg_of X G a4, k4, b4⟩
  have h__law_fraction_text : Has l.prog w K mg base "_law_fraction_text" 1 1 f__law_fraction_text := ⟨_, _, _, ok__law_fraction_text F5 z_str, PySem.W.mg_of X G a5, k5, b5⟩
  have h__law_table_text : Has l.prog w K mg base "_law_table_text" 2 1 f__law_table_text := ⟨_, _, _, ok__law_table_text F6 h__law_fraction_text z_str z_enumerate, PySem.W.mg_of X G a6, k6, b6⟩
  have h__law_lowest : Has l.prog w K mg base "_law_lowest" 1 2 f__law_lowest := ⟨_, _, _, ok__law_lowest F7 z_abs, PySem.W.mg_of X G a7, k7, b7⟩
  have h__law_vast : Has l.prog w K mg base "_law_vast" 3 2 f__law_vast := ⟨_, _, _, ok__law_vast F8 h__law_draw z_range, PySem.W.mg_of X G a8, k8, b8⟩
  have h__law_part : Has l.prog w K mg base "_law_part" 4 1 f__law_part := ⟨_, _, _, ok__law_part F9 h__law_draw h__law_vast h__law_lowest, PySem.W.mg_of X G a9, k9, b9⟩
  have h__law_table : Has l.prog w K mg base "_law_table" 5 1 f__law_table := ⟨_, _, _, ok__law_table F10 h__law_draw h__law_part z_abs z_min z_range, PySem.W.mg_of X G a10, k10, b10⟩
  have h__law_number : Has l.prog w K mg base "_law_number" 3 2 f__law_number := ⟨_, _, _, ok__law_number F11 h__law_draw, PySem.W.mg_of X G a11, k11, b11⟩
  have h__law_row : Has l.prog w K mg base "_law_row" 4 2 f__law_row := ⟨_, _, _, ok__law_row F12 h__law_draw h__law_number z_abs z_int z_range, PySem.W.mg_of X G a12, k12, b12⟩
  have h__law_text : Has l.prog w K mg base "_law_text" 6 1 f__law_text := ⟨_, _, _, ok__law_text F13 h__law_draw h__law_fraction_text h__law_part h__law_row h__law_table_text h__law_table z_str, PySem.W.mg_of X G a13, k13, b13⟩
  have h__law_whole_of : Has l.prog w K mg base "_law_whole_of" 1 2 f__law_whole_of := ⟨_, _, _, ok__law_whole_of F14 z_len z_int, PySem.W.mg_of X G a14, k14, b14⟩
  have h__law_fraction_of : Has l.prog w K mg base "_law_fraction_of" 2 1 f__law_fraction_of := ⟨_, _, _, ok__law_fraction_of F15 h__law_whole_of h__law_lowest z_len, PySem.W.mg_of X G a15, k15, b15⟩
  have h__law_row_of : Has l.prog w K mg base "_law_row_of" 2 1 f__law_row_of := ⟨_, _, _, ok__law_row_of F16 h__law_whole_of z_len, PySem.W.mg_of X G a16, k16, b16⟩
  have h__law_near_of : Has l.prog w K mg base "_law_near_of" 3 2 f__law_near_of := ⟨_, _, _, ok__law_near_of F17 h__law_fraction_of h__law_whole_of z_len, PySem.W.mg_of X G a17, k17, b17⟩
  have h__law_table_of : Has l.prog w K mg base "_law_table_of" 4 1 f__law_table_of := ⟨_, _, _, ok__law_table_of F18 h__law_near_of z_len z_str z_enumerate, PySem.W.mg_of X G a18, k18, b18⟩
  have h_must : Has l.prog w K mg base "must" 1 1 f_must := ⟨_, _, _, ok_must F19 , PySem.W.mg_of X G a19, k19, b19⟩
  have hx_must : HasX l.prog w K mg base "must" 1 1 x_must := ⟨_, _, _, okx_must F19 O_NoText, PySem.W.mg_of X G a19, k19, b19⟩
  have h_read_whole : Has l.prog w K mg base "read_whole" 2 2 f_read_whole := ⟨_, _, _, ok_read_whole F20 h_must z_len z_int m_FIGURES r_FIGURES q_FIGURES, PySem.W.mg_of X G a20, k20, b20⟩
  have hx_read_whole : HasX l.prog w K mg base "read_whole" 2 2 x_read_whole := ⟨_, _, _, okx_read_whole F20 h_must hx_must z_len z_int m_FIGURES r_FIGURES q_FIGURES, PySem.W.mg_of X G a20, k20, b20⟩
  have h_divisor : Has l.prog w K mg base "divisor" 1 2 f_divisor := ⟨_, _, _, ok_divisor F21 z_abs, PySem.W.mg_of X G a21, k21, b21⟩
  have h_read_fraction : Has l.prog w K mg base "read_fraction" 3 1 f_read_fraction := ⟨_, _, _, ok_read_fraction F22 h_read_whole h_must h_divisor m_MOST_FIGURES r_MOST_FIGURES q_MOST_FIGURES, PySem.W.mg_of X G a22, k22, b22⟩
  have hx_read_fraction : HasX l.prog w K mg base "read_fraction" 3 1 x_read_fraction := ⟨_, _, _, okx_read_fraction F22 h_read_whole h_must h_divisor hx_read_whole hx_must m_MOST_FIGURES r_MOST_FIGURES q_MOST_FIGURES, PySem.W.mg_of X G a22, k22, b22⟩
  have h__law_class : Has l.prog w K mg base "_law_class" 1 1 f__law_class := ⟨_, _, _, ok__law_class F23 z_isinstance z_ValueError O_NoLength O_NoText O_NoGap O_NoKind O_Full O_NoNumber O_NoPlace O_NoDeed O_Empty O_NoTracks O_NoBounds O_NoLine O_NoCount I_NoText kn_NoLength ki_NoText_NoLength kn_NoGap ki_NoText_NoGap kn_NoKind ki_NoText_NoKind kn_Full ki_NoText_Full kn_NoNumber ki_NoText_NoNumber kn_NoPlace ki_NoText_NoPlace kn_NoText ki_NoText_NoText kn_NoDeed ki_NoText_NoDeed kn_Empty ki_NoText_Empty kn_NoTracks ki_NoText_NoTracks kn_NoBounds ki_NoText_NoBounds kn_NoLine ki_NoText_NoLine kn_NoCount ki_NoText_NoCount kn_ValueError ki_NoText_ValueError, PySem.W.mg_of X G a23, k23, b23⟩
  have h_read_row : Has l.prog w K mg base "read_row" 3 1 f_read_row := ⟨_, _, _, ok_read_row F24 h_must h_read_whole z_len m_MOST_NUMBERS r_MOST_NUMBERS q_MOST_NUMBERS m_FEW_FIGURES r_FEW_FIGURES q_FEW_FIGURES, PySem.W.mg_of X G a24, k24, b24⟩
  have hx_read_row : HasX l.prog w K mg base "read_row" 3 1 x_read_row := ⟨_, _, _, okx_read_row F24 h_must h_read_whole hx_must hx_read_whole z_len m_MOST_NUMBERS r_MOST_NUMBERS q_MOST_NUMBERS m_FEW_FIGURES r_FEW_FIGURES q_FEW_FIGURES, PySem.W.mg_of X G a24, k24, b24⟩
  have h_read_near : Has l.prog w K mg base "read_near" 4 2 f_read_near := ⟨_, _, _, ok_read_near F25 h_must h_read_whole h_read_fraction z_len m_FEW_FIGURES r_FEW_FIGURES q_FEW_FIGURES, PySem.W.mg_of X G a25, k25, b25⟩
  have hx_read_near : HasX l.prog w K mg base "read_near" 4 2 x_read_near := ⟨_, _, _, okx_read_near F25 h_must h_read_whole h_read_fraction hx_must hx_read_fraction hx_read_whole z_len m_FEW_FIGURES r_FEW_FIGURES q_FEW_FIGURES, PySem.W.mg_of X G a25, k25, b25⟩
  have h_read_table : Has l.prog w K mg base "read_table" 5 1 f_read_table := ⟨_, _, _, ok_read_table F26 h_must h_read_near z_len z_str z_enumerate m_MOST_NUMBERS r_MOST_NUMBERS q_MOST_NUMBERS, PySem.W.mg_of X G a26, k26, b26⟩
  have hx_read_table : HasX l.prog w K mg base "read_table" 5 1 x_read_table := ⟨_, _, _, okx_read_table F26 h_must h_read_near hx_must hx_read_near z_len z_str z_enumerate m_MOST_NUMBERS r_MOST_NUMBERS q_MOST_NUMBERS, PySem.W.mg_of X G a26, k26, b26⟩
  have h__law_judged : Has l.prog w K mg base "_law_judged" 6 1 f__law_judged := ⟨_, _, _, ok__law_judged F27 h__law_table_of h__law_row_of h__law_fraction_of h_read_fraction h_read_row h_read_table h__law_class hx_read_fraction hx_read_row hx_read_table z_range O_NoText O_EchoError xs_NoText_EchoError, PySem.W.mg_of X G a27, k27, b27⟩
  have h__law_bent : Has l.prog w K mg base "_law_bent" 3 2 f__law_bent := ⟨_, _, _, ok__law_bent F28 h__law_draw z_len z_int, PySem.W.mg_of X G a28, k28, b28⟩
  have h__law_odd : Has l.prog w K mg base "_law_odd" 1 0 f__law_odd := ⟨_, _, _, ok__law_odd F29 z_str z_range, PySem.W.mg_of X G a29, k29, b29⟩
  exact ok_law F30 h__law_purse h__law_text h__law_judged h__law_bent h__law_draw h__law_odd z_range z_len
end Lk87
end PWk87
section PMk87
set_option linter.all false
set_option maxHeartbeats 1000000
set_option maxRecDepth 100000
set_option exponentiation.threshold 2000
namespace Lk87
open Rw
/-! refusals -/
theorem xmust_t {M : DSt} : x_must [.d (.bl true)] M = none := by
  unfold x_must
  rw [fnX_eq]
  simp [bx_must, startD, xIf, xRaise, xNo, tNot, tVal, eVar]
theorem xmust_f {M : DSt} : x_must [.d (.bl false)] M = some ("NoText", M) := by
  unfold x_must
  rw [fnX_eq]
  simp [bx_must, startD, xIf, xRaise, xNo, tNot, tVal, eVar]
theorem m_sig {M : DSt} {l : List Nat} {n : Int} (hlow : ∀ c ∈ l, c < 128) (hb : l.length ≤ big) :
    Ok ((dIf (tVal (e2 oEq (eSl (slV false) (eVar 0) pNone (pSome (eC (.int 1)))) (eC (.str "-")))) (dAsg (.name 2) (eSl (slV false) (eVar 0) (pSome (eC (.int 1))) pNone)) dPass) [some (.d (.str (tx l))), some (.d (.int n)), some (.d (.str (tx l))), none] M) fun o => o = .nx [some (.d (.str (tx l))), some (.d (.int n)), some (.d (.str (tx (figs l)))), none] M := by
  have c1 : L2.cutS (tx l) none (some 1) = tx (l.take 1) := cut_to l 1
  have c2 : L2.cutS (tx l) (some 1) none = tx (l.drop 1) := cut_from l 1
  simp only [ok_if, ok_tVal, ok_e2, ok_eSl, ok_var, ok_getV0, ok_pNone, ok_pSome, ok_c, ok_asI, ok_slV_s, tx_len, c1, c2, lit_min]
  refine ⟨hb, ?_⟩
  rw [oEq_tx (fun c hc => hlow c (List.mem_of_mem_take hc)) (by simp)]
  unfold figs
  split
  · rename_i q
    simp [q, hb, c2]
  · rename_i q
    simp [q]
theorem figs_len (l : List Nat) : (figs l).length ≤ l.length := by
  unfold figs
  split
  · simp
  · exact Nat.le_refl _
theorem figs_low {l : List Nat} (h : ∀ c ∈ l, c < 128) : ∀ c ∈ figs l, c < 128 := by
  unfold figs
  split
  · exact fun c hc => h c (List.mem_of_mem_drop hc)
  · exact h
theorem xfig {M : DSt} (a b c : Option Dv) (l : List Nat) : ∃ ρ', xForL (stand [] M) (forStep (.name 3) (dWipe [3] (dExpr (eCall f_must (aCons (e2 (oInS false) (eVar 3) (eC v_FIGURES)) aNil))))) (xForStep (.name 3) (xCall x_must (aCons (e2 (oInS false) (eVar 3) (eC v_FIGURES)) aNil))) (l.map fun c => D.str (tx [c])) [a, b, c, none] M
    = if ∀ x ∈ l, isFig x = true then none else some ("NoText", ρ', M) := by
  induction l with
  | nil => exact ⟨[], by simp [xForL]⟩
  | cons x r ih =>
    obtain ⟨ρ', e⟩ := ih
    have hA : ∀ bb : Bool, bb = isFig x → Ok (aCons (e2 (oInS false) (eVar 3) (eC v_FIGURES)) aNil [a, b, c, some (.d (.str (tx [x])))] M) fun p => p = ([.d (.bl bb)], M) := fun bb hbb => by
      subst hbb
      have : (x ∈ [48, 49, 50, 51, 52, 53, 54, 55, 56, 57]) ↔ isFig x = true := fig_in
      by_cases q : isFig x = true
      · simp [v_FIGURES, lit_fig, this, q, -List.mem_cons]
      · simp [v_FIGURES, lit_fig, this, q, -List.mem_cons]
    by_cases q : isFig x = true
    · refine ⟨ρ', ?_⟩
      rw [List.map_cons]
      unfold xForL
      have e1 : xForStep (.name 3) (xCall x_must (aCons (e2 (oInS false) (eVar 3) (eC v_FIGURES)) aNil)) (D.str (tx [x])) [a, b, c, none] M = none := by
        simp only [xForStep, Tgt.put, List.set]
        rw [xguard1 (hA true q.symm) xmust_t xmust_f]
        rfl
      have e2 : forStep (.name 3) (dWipe [3] (dExpr (eCall f_must (aCons (e2 (oInS false) (eVar 3) (eC v_FIGURES)) aNil)))) (D.str (tx [x])) [a, b, c, none] M = some (.nx [a, b, c, none] M) := by
        have h := hA true q.symm
        obtain ⟨p, h1, rfl⟩ := h
        simp only [forStep, Tgt.put, List.set, dWipe, dExpr, eCall, eA, h1, must_eq]
        rfl
      rw [grd_ok (by simp [stand]), e1, e2]
      simp only [e]
      simp [q]
    · refine ⟨[a, b, c, some (.d (.str (tx [x])))], ?_⟩
      rw [List.map_cons]
      unfold xForL
      have q' : isFig x = false := by simpa using q
      have e1 : xForStep (.name 3) (xCall x_must (aCons (e2 (oInS false) (eVar 3) (eC v_FIGURES)) aNil)) (D.str (tx [x])) [a, b, c, none] M = some ("NoText", [a, b, c, some (.d (.str (tx [x])))], M) := by
        simp only [xForStep, Tgt.put, List.set]
        rw [xguard1 (hA false q'.symm) xmust_t xmust_f]
        rfl
      rw [grd_ok (by simp [stand]), e1]
      simp [q]
/-- a word that is no whole number is refused -/
theorem xread_whole {M : DSt} {l : List Nat} {n : Int} (hlow : ∀ c ∈ l, c < 128) (hl : l.length ≤ 100000) : x_read_whole [.d (.str (tx l)), .d (.int n)] M = if wholeOk l n then none else some ("NoText", M) := by
  have hb : l.length ≤ big := by unfold big; omega
  have hfb : (figs l).length ≤ big := Nat.le_trans (figs_len l) hb
  unfold x_read_whole
  rw [fnX_eq]
  simp only [startD, bx_read_whole]
  rw [xseq_eq (ρ1 := [some (.d (.str (tx l))), some (.d (.int n)), some (.d (.str (tx l))), none]) (M1 := M) (by simp), xseq_eq (m_sig hlow hb)]
  by_cases w1 : 0 < (figs l).length
  case neg =>
    rw [xguard (b := false) (c := "NoText") (by simp [hfb, w1]) xmust_t xmust_f must_eq]
    have : ¬ wholeOk l n := fun h => w1 h.1.1
    simp [this]
  by_cases w2 : ((figs l).length : Int) ≤ n
  case neg =>
    rw [xguard (b := false) (c := "NoText") (by simp [hfb, w1, w2]) xmust_t xmust_f must_eq]
    have : ¬ wholeOk l n := fun h => w2 h.1.2
    simp [this]
  rw [xguard (b := true) (c := "NoText") (by simp [hfb, w1, w2]) xmust_t xmust_f must_eq]
  simp only [if_true]
  by_cases w3 : ∀ c ∈ figs l, isFig c = true
  case neg =>
    obtain ⟨ρ', e⟩ := xfig (M := M) (some (.d (.str (tx l)))) (some (.d (.int n))) (some (.d (.str (tx (figs l))))) (figs l)
    rw [if_neg w3] at e
    have e2 : xFor (iX (eVar 2)) (.name 3) (dWipe [3] (dExpr (eCall f_must (aCons (e2 (oInS false) (eVar 3) (eC v_FIGURES)) aNil)))) (xCall x_must (aCons (e2 (oInS false) (eVar 3) (eC v_FIGURES)) aNil)) [some (.d (.str (tx l))), some (.d (.int n)), some (.d (.str (tx (figs l)))), none] M = some ("NoText", ρ', M) := by
      unfold xFor
      have e3 : iX (eVar 2) [some (.d (.str (tx l))), some (.d (.int n)), some (.d (.str (tx (figs l)))), none] M = some ((figs l).map fun c => D.str (tx [c]), [], M) := by
        simp [iX, eVar, sgn_tx]
      rw [e3]
      exact e
    rw [xalt_some e2]
    have : ¬ wholeOk l n := fun h => w3 h.2.1
    simp [this]
  obtain ⟨ρ', e⟩ := xfig (M := M) (some (.d (.str (tx l)))) (some (.d (.int n))) (some (.d (.str (tx (figs l))))) (figs l)
  rw [if_pos w3] at e
  have e3 : iX (eVar 2) [some (.d (.str (tx l))), some (.d (.int n)), some (.d (.str (tx (figs l)))), none] M = some ((figs l).map fun c => D.str (tx [c]), [], M) := by
    simp [iX, eVar, sgn_tx]
  rw [xalt_none (by unfold xFor; rw [e3]; exact e)]
  rw [xseq_eq (ρ1 := [some (.d (.str (tx l))), some (.d (.int n)), some (.d (.str (tx (figs l)))), none]) (M1 := M) (by
    simp only [ok_for, ok_iX, ok_var, ok_getV0, ok_getVs, ok_asS, sgn_tx]
    exact fig_loop _ _ _ _ w3 rfl)]
  obtain ⟨a, r, ef⟩ : ∃ a r, figs l = a :: r := by
    cases h : figs l with
    | nil => rw [h] at w1; simp at w1
    | cons a r => exact ⟨a, r, rfl⟩
  have hi : oIx (.d (.str (tx (a :: r)))) (.d (.int 0)) M = some (.d (.str (tx [a])), M) := ix_tx (k := 0) (by simp) (by rw [← ef]; exact hfb)
  have ha : a < 128 := figs_low hlow a (by rw [ef]; simp)
  have hq : ((figs l)[0]? ≠ some 48 ∨ l = [48]) ↔ (a ≠ 48 ∨ l = [48]) := by rw [ef]; simp
  have hw : wholeOk l n ↔ (a ≠ 48 ∨ l = [48]) := ⟨fun h => hq.mp h.2.2, fun h => ⟨⟨w1, w2⟩, w3, hq.mpr h⟩⟩
  have f1 : strFine (tx [a]) = true := fine_low (by simpa using ha)
  have f2 : strFine (tx [48]) = true := fine_low (by simp)
  have hf : strFine (tx l) = true := fin_of hlow
  rw [xguard1 (b := decide (a ≠ 48 ∨ l = [48])) (c := "NoText") ?_ xmust_t xmust_f]
  · by_cases q : a ≠ 48 ∨ l = [48]
    · simp [q, hw]
    · simp [q, hw]
  · rw [ef]
    simp [hi, lit_0, f1, f2, hf]
    by_cases q : a = 48
    · subst q
      simp
    · simp [q]
def optD : Option Int → D
  | some z => .int z
  | none => .non
theorem bad_comp {M : DSt} (a b c : Option Dv) (l : List Nat) : compL (stand [] M) (compStep (.name 3) (tVal (e2 (oInS true) (eVar 3) (eC (.str "0123456789")))) (eVar 3) [a, b, c, none]) (l.map fun c => D.str (tx [c])) M = some ((l.filter fun c => !isFig c).map fun c => D.str (tx [c]), M) := by
  induction l with
  | nil => simp [compL, stand, grd_ok]
  | cons x r ih =>
    have hA : Ok (tVal (e2 (oInS true) (eVar 3) (eC (.str "0123456789"))) [a, b, c, some (.d (.str (tx [x])))] M) fun p => p = (!isFig x, M) := by
      have : (x ∈ [48, 49, 50, 51, 52, 53, 54, 55, 56, 57]) ↔ isFig x = true := fig_in
      by_cases q : isFig x = true
      · simp [lit_fig, this, q, -List.mem_cons]
      · simp [lit_fig, this, q, -List.mem_cons]
    obtain ⟨p, h1, rfl⟩ := hA
    have hs : compStep (.name 3) (tVal (e2 (oInS true) (eVar 3) (eC (.str "0123456789")))) (eVar 3) [a, b, c, none] (D.str (tx [x])) M = some (if isFig x = true then none else some (.str (tx [x])), M) := by
      unfold compStep
      simp only [Tgt.put, List.set, h1]
      cases q : isFig x
      · simp [eVar]
      · simp
    rw [List.map_cons]
    unfold compL
    rw [grd_ok (by simp [stand]), hs]
    simp only [ih]
    cases q : isFig x
    · simp [q]
    · simp [q]
theorem whole_of_eq {M : DSt} {l : List Nat} {n : Int} (hlow : ∀ c ∈ l, c < 128) (hl : l.length ≤ 100000) (hm : n ≤ 600) : f__law_whole_of [.d (.str (tx l)), .d (.int n)] M = some (.d (optD (wholeZ l n)), M) := by
  have hb : l.length ≤ big := by unfold big; omega
  have hfb : (figs l).length ≤ big := Nat.le_trans (figs_len l) hb
  have hf : strFine (tx l) = true := fin_of hlow
  have hff : strFine (tx (figs l)) = true := fin_of (figs_low hlow)
  apply ok_eq
  unfold f__law_whole_of
  rw [ok_fn]
  simp [b__law_whole_of, startD, -seqP_nx]
  refine seqP_nx.mpr ?_
  refine seq_by _ (m_sig hlow hb) ?_
  rintro o rfl
  refine seqP_nx.mpr ?_
  have hcomp : Ok (eComp false (iX (eVar 2)) (.name 3) (tVal (e2 (oInS true) (eVar 3) (eC (.str "0123456789")))) (eVar 3) [3] [some (.d (.str (tx l))), some (.d (.int n)), some (.d (.str (tx (figs l)))), none] M) fun p => p = (.d (.lst ((((figs l).filter fun c => !isFig c).map fun c => D.str (tx [c])))), M) := by
    have e3 : iX (eVar 2) [some (.d (.str (tx l))), some (.d (.int n)), some (.d (.str (tx (figs l)))), none] M = some ((figs l).map fun c => D.str (tx [c]), [], M) := by
      simp [iX, eVar, sgn_tx]
    unfold eComp
    rw [e3]
    simp only
    rw [grd_ok (by simpa using hfb)]
    simp only [wipeD, List.foldl, List.set]
    rw [bad_comp]
    exact ⟨_, rfl, rfl⟩
  have hfl : ((figs l).filter fun c => !isFig c).length ≤ big := Nat.le_trans (List.length_filter_le _ _) hfb
  obtain ⟨p, hc, rfl⟩ := hcomp
  have f0 : strFine (tx []) = true := fine_low (by simp)
  have test : Ok ((Rw.tOr (tVal (e2 oEq (eVar 2) (eC (.str "")))) (Rw.tOr (tVal (e2 oGt (eA oLen (aCons (eVar 2) aNil)) (eVar 1))) (tVal (e2 oGt (eA oLen (aCons (eComp false (iX (eVar 2)) (.name 3) (tVal (e2 (oInS true) (eVar 3) (eC (.str "0123456789")))) (eVar 3) [3]) aNil)) (eC (.int 0)))))) [some (.d (.str (tx l))), some (.d (.int n)), some (.d (.str (tx (figs l)))), none] M) fun p => p = (decide ¬((0 < (figs l).length ∧ ((figs l).length : Int) ≤ n) ∧ (∀ c ∈ figs l, isFig c = true)), M) := by
    by_cases w1 : 0 < (figs l).length
    case neg =>
      have e0 : figs l = [] := List.eq_nil_of_length_eq_zero (by omega)
      simp [e0, lit_emp, f0, -ok_comp]
    have e0 : figs l ≠ [] := fun h => by rw [h] at w1; simp at w1
    by_cases w2 : ((figs l).length : Int) ≤ n
    case neg =>
      have w2' : n < ((figs l).length : Int) := by omega
      simp [e0, lit_emp, hff, f0, hfb, w2', w2, -ok_comp]
    have w2' : ¬ n < ((figs l).length : Int) := by omega
    by_cases w3 : ∀ c ∈ figs l, isFig c = true
    · have e1 : ((figs l).filter fun c => !isFig c) = [] := by
        rw [List.filter_eq_nil_iff]
        intro c hc
        simp [w3 c hc]
      rw [e1] at hc
      simp [e0, lit_emp, hff, f0, hfb, w2', w2, w1, -ok_comp, hc]
      exact w3
    · have e1 : ((figs l).filter fun c => !isFig c) ≠ [] := by
        rw [Ne, List.filter_eq_nil_iff]
        intro h
        exact w3 fun c hc => by simpa using h c hc
      simp [e0, lit_emp, hff, f0, hfb, w2', w2, w1, -ok_comp, hc]
  obtain ⟨q, ht, rfl⟩ := test
  by_cases w : (0 < (figs l).length ∧ ((figs l).length : Int) ≤ n) ∧ (∀ c ∈ figs l, isFig c = true)
  case neg =>
    have : ¬ wholeOk l n := fun h => w ⟨h.1, h.2.1⟩
    refine seq_by (fun o => o = .rt (.d .non) M) ?_ ?_
    · rw [ok_if, ht]
      simp [w]
    · rintro o rfl
      simp [wholeZ, this, optD]
  refine seq_by (fun o => o = .nx [some (.d (.str (tx l))), some (.d (.int n)), some (.d (.str (tx (figs l)))), none] M) ?_ ?_
  · rw [ok_if, ht]
    simp [w]
    exact w.2
  rintro o rfl
  refine seqP_nx.mpr ?_
  obtain ⟨a, r, ef⟩ : ∃ a r, figs l = a :: r := by
    cases h : figs l with
    | nil => rw [h] at w; simp at w
    | cons a r => exact ⟨a, r, rfl⟩
  have hi : oIx (.d (.str (tx (a :: r)))) (.d (.int 0)) M = some (.d (.str (tx [a])), M) := ix_tx (k := 0) (by simp) (by rw [← ef]; exact hfb)
  have ha : a < 128 := figs_low hlow a (by rw [ef]; simp)
  have hq : ((figs l)[0]? ≠ some 48 ∨ l = [48]) ↔ (a ≠ 48 ∨ l = [48]) := by rw [ef]; simp
  have hw : wholeOk l n ↔ (a ≠ 48 ∨ l = [48]) := ⟨fun h => hq.mp h.2.2, fun h => ⟨w.1, w.2, hq.mpr h⟩⟩
  have f1 : strFine (tx [a]) = true := fine_low (by simpa using ha)
  have f2 : strFine (tx [48]) = true := fine_low (by simp)
  have f3 : strFine (tx (a :: r)) = true := by rw [← ef]; exact hff
  by_cases q : a ≠ 48 ∨ l = [48]
  · have hw' := hw.mpr q
    have hv := intText_whole hw' hm
    rw [ef]
    simp [-seqP_nx, hi, lit_0, f1, f2, hf]
    have fin : seqP (dRet (eA oIntS (aCons (eVar 0) aNil))) (finP (List.length M) fun y => y = (Dv.d (optD (wholeZ l n)), M)) (Out.nx [some (Dv.d (D.str (tx l))), some (Dv.d (D.int n)), some (Dv.d (D.str (tx (a :: r)))), none] M) := by
      refine seqP_nx.mpr ?_
      have hlen := whole_len hw'
      simp [ok_intS hv (by rw [tx_len]; omega), wholeZ, hw', optD]
    by_cases q1 : a = 48
    · have q2 : l = [48] := q.resolve_left (fun h => h q1)
      rw [if_pos q1, if_pos q2]
      exact fin
    · rw [if_neg q1]
      exact fin
  · have hw' : ¬ wholeOk l n := fun h => q (hw.mp h)
    rw [ef]
    have q1 : a = 48 := Classical.byContradiction fun h => q (.inl h)
    have q2 : ¬ l = [48] := fun h => q (.inr h)
    subst q1
    simp [-seqP_nx, hi, lit_0, f1, f2, hf, q2, wholeZ, hw', optD]
theorem pre1 {c x : Nat} {r : List Nat} : TL.pre [c] (x :: r) = decide (c = x) := by
  by_cases h : c = x
  · simp [TL.pre, h]
  · simp [TL.pre, h, Ne.symm h]
theorem spl_par {c : Nat} : ∀ (l acc : List Nat), (TL.par [c] acc l = none ∧ TL.spl [c] 0 acc l = [acc ++ l] ∧ c ∉ l) ∨ (∃ t b, l = t ++ c :: b ∧ c ∉ t ∧ TL.par [c] acc l = some (acc ++ t, b) ∧ TL.spl [c] 0 acc l = (acc ++ t) :: TL.spl [c] 0 [] b)
  | [], acc => .inl ⟨by simp [TL.par], by simp [TL.spl_nil], by simp⟩
  | x :: r, acc => by
    by_cases h : c = x
    · subst h
      refine .inr ⟨[], r, by simp, by simp, ?_, ?_⟩
      · simp [TL.par, pre1]
      · rw [TL.spl_hit (by simp [pre1])]
        simp
    · rcases spl_par (c := c) r (acc ++ [x]) with ⟨h1, h2, h3⟩ | ⟨t, b, e, h0, h1, h2⟩
      · refine .inl ⟨?_, ?_, by simp [h, h3]⟩
        · simp [TL.par, pre1, h, h1]
        · rw [TL.spl_miss (by simp [pre1, h]), h2]
          simp
      · refine .inr ⟨x :: t, b, by simp [e], by simp [h, h0], ?_, ?_⟩
        · simp [TL.par, pre1, h, h1]
        · rw [TL.spl_miss (by simp [pre1, h]), h2]
          simp
theorem spl_sum {c : Nat} (n : Nat) : ∀ (l : List Nat), l.length ≤ n → ((TL.spl [c] 0 [] l).map List.length).sum + (TL.spl [c] 0 [] l).length = l.length + 1 := by
  induction n with
  | zero =>
    intro l hl
    have : l = [] := List.eq_nil_of_length_eq_zero (by omega)
    subst this
    simp [TL.spl_nil]
  | succ n ih =>
    intro l hl
    rcases spl_par (c := c) l [] with ⟨h1, h2, h3⟩ | ⟨t, b, e, h0, h1, h2⟩
    · rw [h2]; simp
    · rw [h2]
      have hb : b.length ≤ n := by
        have := congrArg List.length e
        simp at this
        omega
      have := ih b hb
      rw [e]
      simp
      omega
theorem spl_mem {c : Nat} (n : Nat) : ∀ (l : List Nat), l.length ≤ n → ∀ p ∈ TL.spl [c] 0 [] l, c ∉ p ∧ ∀ x ∈ p, x ∈ l := by
  induction n with
  | zero =>
    intro l hl
    have : l = [] := List.eq_nil_of_length_eq_zero (by omega)
    subst this
    simp [TL.spl_nil]
  | succ n ih =>
    intro l hl
    rcases spl_par (c := c) l [] with ⟨h1, h2, h3⟩ | ⟨t, b, e, h0, h1, h2⟩
    · rw [h2]
      intro p hp
      simp at hp
      subst hp
      exact ⟨h3, fun x hx => hx⟩
    · rw [h2]
      have hb : b.length ≤ n := by
        have := congrArg List.length e
        simp at this
        omega
      intro p hp
      rcases List.mem_cons.mp hp with rfl | hp
      · exact ⟨by simpa using h0, fun x hx => by
          rw [e]; simp [hx]⟩
      · obtain ⟨q1, q2⟩ := ih b hb p hp
        exact ⟨q1, fun x hx => by rw [e]; simp [q2 x hx]⟩
theorem le_sum {x : Nat} : ∀ {l : List Nat}, x ∈ l → x ≤ l.sum
  | a :: r, h => by
    rw [List.sum_cons]
    rcases List.mem_cons.mp h with e | e
    · omega
    · have := le_sum e
      omega
theorem spl_len {c : Nat} {l p : List Nat} (hp : p ∈ TL.spl [c] 0 [] l) : p.length ≤ l.length := by
  have h := spl_sum (c := c) l.length l (Nat.le_refl _)
  have h1 : p.length ≤ ((TL.spl [c] 0 [] l).map List.length).sum := le_sum (List.mem_map_of_mem hp)
  have h2 : 0 < (TL.spl [c] 0 [] l).length := List.length_pos_of_mem hp
  omega
theorem spl_many {c : Nat} {l : List Nat} : (TL.spl [c] 0 [] l).length ≤ l.length + 1 := by
  have h := spl_sum (c := c) l.length l (Nat.le_refl _)
  omega
theorem spl_pos {c : Nat} {l : List Nat} : 0 < (TL.spl [c] 0 [] l).length := by
  rcases spl_par (c := c) l [] with ⟨h1, h2, h3⟩ | ⟨t, b, e, h0, h1, h2⟩ <;> rw [h2] <;> simp
/-! numbers read -/
theorem fold_lt : ∀ (l : List Nat) (a : Nat), (∀ c ∈ l, isFig c = true) → l.foldl (fun n c => n * 10 + (c - 48)) a < (a + 1) * 10 ^ l.length
  | [], a, _ => by simp
  | c :: r, a, h => by
    have hc := h c (by simp)
    simp [isFig] at hc
    have ih := fold_lt r (a * 10 + (c - 48)) fun x hx => h x (by simp [hx])
    simp only [List.foldl_cons, List.length_cons]
    refine Nat.lt_of_lt_of_le ih ?_
    rw [Nat.pow_succ]
    have : a * 10 + (c - 48) + 1 ≤ (a + 1) * 10 := by omega
    calc (a * 10 + (c - 48) + 1) * 10 ^ r.length ≤ ((a + 1) * 10) * 10 ^ r.length := Nat.mul_le_mul_right _ this
      _ = (a + 1) * (10 ^ r.length * 10) := by rw [Nat.mul_assoc, Nat.mul_comm 10]
theorem valN_lt {l : List Nat} (h : ∀ c ∈ l, isFig c = true) : valN l < 10 ^ l.length := by
  have := fold_lt l 0 h
  simpa [valN, PySem.NumText.digitsVal] using this
theorem whole_b {l : List Nat} {n : Nat} {z : Int} (h : wholeZ l n = some z) : z.natAbs < 10 ^ n := by
  unfold wholeZ at h
  split at h
  · rename_i hw
    cases h
    have h1 := valN_lt hw.2.1
    have h2 : 10 ^ (figs l).length ≤ 10 ^ n := Nat.pow_le_pow_right (by decide) (by have := hw.1.2; omega)
    unfold wholeV
    split <;> omega
  · cases h
theorem whole_no {l : List Nat} {n : Int} {c : Nat} (hc : c ∈ l) (h1 : c ≠ 45) (h2 : isFig c = false) : wholeZ l n = none := by
  unfold wholeZ
  rw [if_neg]
  intro h
  have h3 := h.2.1
  unfold figs at h3
  split at h3
  · rename_i q
    cases l with
    | nil => simp at hc
    | cons a r =>
      simp at q
      rcases List.mem_cons.mp hc with e | e
      · exact h1 (by rw [e, q])
      · have := h3 c (by simpa using e)
        rw [h2] at this; cases this
  · have := h3 c hc
    rw [h2] at this; cases this
/-- the fraction that a text writes -/
def fracZ (l : List Nat) : Option (Int × Int) := match TL.spl [47] 0 [] l with
  | [t] => (wholeZ t 200).map fun n => (n, 1)
  | [t, b] => match wholeZ t 200, wholeZ b 200 with
    | some n, some d => if 1 < d ∧ Int.gcd n d = 1 then some (n, d) else none
    | _, _ => none
  | _ => none
def optF : Option (Int × Int) → D
  | some f => .tup [.int f.1, .int f.2]
  | none => .non
theorem eVar_set {ρ : DEnv} {i : Nat} {v : Dv} {M : DSt} (h : i < ρ.length) : eVar i (ρ.set i (some v)) M = some (v, M) := by
  simp [eVar, h]
theorem words_comp {i : Nat} {n : Int} {M : DSt} {ρ : DEnv} (hi : i < ρ.length) (hm : n ≤ 600) : ∀ (ws : List (List Nat)), (∀ w ∈ ws, (∀ c ∈ w, c < 128) ∧ w.length ≤ 100000) →
    compL (stand [] M) (compStep (.name i) Rw.tYes (eCall f__law_whole_of (aCons (eVar i) (aCons (eC (.int n)) aNil))) ρ) (ws.map fun w => D.str (tx w)) M = some (ws.map fun w => optD (wholeZ w n), M)
  | [], _ => by simp [compL, stand, grd_ok]
  | w :: ws, h => by
    obtain ⟨h1, h2⟩ := h w (by simp)
    have ih := words_comp (M := M) hi hm ws fun x hx => h x (by simp [hx])
    have e := whole_of_eq (M := M) h1 h2 hm
    have hs : compStep (.name i) Rw.tYes (eCall f__law_whole_of (aCons (eVar i) (aCons (eC (.int n)) aNil))) ρ (D.str (tx w)) M = some (some (optD (wholeZ w n)), M) := by
      simp only [compStep, Tgt.put, Rw.tYes, eCall, eA, aCons, eVar_set hi, eC, aNil, e]
    rw [List.map_cons]
    unfold compL
    rw [grd_ok (by simp [stand]), hs]
    simp only [ih, List.map_cons]
theorem in_non {M : DSt} (zs : List (Option Int)) : oIn false (.d .non) (.d (.lst (zs.map optD))) M = some (.d (.bl (decide (none ∈ zs))), M) := by
  have h1 : (zs.map optD).all D.flat = true := by
    rw [List.all_eq_true]
    intro x hx
    obtain ⟨z, _, rfl⟩ := List.mem_map.mp hx
    cases z <;> rfl
  have h2 : ((zs.map optD).any fun b => D.eqv b .non) = decide (none ∈ zs) := by
    clear h1
    induction zs with
    | nil => rfl
    | cons z r ih =>
      rw [List.map_cons, List.any_cons, ih]
      cases z
      · simp [optD, D.eqv]
      · simp [optD, D.eqv]
  show grd (D.flat .non = true ∧ (zs.map optD).all D.flat = true) (some (Dv.d (.bl (xor false ((zs.map optD).any fun b => D.eqv b .non))), M)) = _
  rw [grd_ok ⟨rfl, h1⟩, h2]
  simp
theorem B2.bn {z : Int} (h : B2 z) : Bn 200 z := by
  unfold B2 at h
  have e : (10 : Int) ^ 200 = ((10 ^ 200 : Nat) : Int) := by simp
  refine Bn.of ⟨?_, ?_⟩ <;> (show _ ; rw [e]; omega)
theorem made_one {n d : Int} (h : 0 < d) : madeZ n d = (n, d) ↔ Int.gcd n d = 1 := by
  unfold madeZ signG
  rw [if_neg (by omega)]
  constructor
  · intro e
    have e2 : d.fdiv (Int.gcd n d) = d := congrArg Prod.snd e
    have hg : (0 : Int) < Int.gcd n d := by
      have : Int.gcd n d ≠ 0 := fun h0 => by
        have := (Int.gcd_eq_zero_iff.mp h0).2
        omega
      omega
    obtain ⟨k, hk⟩ : (Int.gcd n d : Int) ∣ d := Int.gcd_dvd_right ..
    have e3 : d.fdiv (Int.gcd n d) = k := by
      have h5 : d.fdiv (Int.gcd n d) = ((Int.gcd n d : Int) * k).fdiv (Int.gcd n d) := by rw [← hk]
      rw [h5, Int.mul_fdiv_cancel_left _ (by omega)]
    rw [e3] at e2
    subst e2
    have h6 : (Int.gcd n k : Int) * k = 1 * k := by omega
    have h7 := Int.eq_of_mul_eq_mul_right (by omega) h6
    omega
  · intro e
    rw [e]
    simp
theorem fraction_of_eq {M : DSt} {l : List Nat} (hlow : ∀ c ∈ l, c < 128) (hl : l.length ≤ 100000) : f__law_fraction_of [.d (.str (tx l))] M = some (.d (optF (fracZ l)), M) := by
  have hb : l.length ≤ big := by unfold big; omega
  apply ok_eq
  unfold f__law_fraction_of
  rw [ok_fn]
  have hw : ∀ w ∈ TL.spl [47] 0 [] l, (∀ c ∈ w, c < 128) ∧ w.length ≤ 100000 := fun w hw => ⟨fun c hc => hlow c ((spl_mem _ l (Nat.le_refl _) w hw).2 c hc), Nat.le_trans (spl_len hw) hl⟩
  have hn := spl_many (c := 47) (l := l)
  have hnb : (TL.spl [47] 0 [] l).length ≤ big := by unfold big; omega
  unfold b__law_fraction_of
  simp only [startD, List.replicate]
  refine seq_by (fun o => o = .nx [some (.d (.str (tx l))), some (.d (.lst ((TL.spl [47] 0 [] l).map fun w => D.str (tx w)))), none, none] M) ?_ ?_
  · simp [lit_sl, split_tx, hb]
  rintro o rfl
  refine seqP_nx.mpr ?_
  refine seq_by (fun o => o = .nx [some (.d (.str (tx l))), some (.d (.lst ((TL.spl [47] 0 [] l).map fun w => D.str (tx w)))), some (.d (.lst ((TL.spl [47] 0 [] l).map fun w => optD (wholeZ w 200)))), none] M) ?_ ?_
  · have := words_comp (i := 3) (n := 200) (M := M) (ρ := [some (.d (.str (tx l))), some (.d (.lst ((TL.spl [47] 0 [] l).map fun w => D.str (tx w)))), none, none]) (by simp) (by decide) _ hw
    have e2 : Ok (eComp false (iS (eVar 1)) (.name 3) Rw.tYes (eCall f__law_whole_of (aCons (eVar 3) (aCons (eC (.int 200)) aNil))) [3] [some (.d (.str (tx l))), some (.d (.lst ((TL.spl [47] 0 [] l).map fun w => D.str (tx w)))), none, none] M) fun p => p = (.d (.lst ((TL.spl [47] 0 [] l).map fun w => optD (wholeZ w 200))), M) := by
      simp only [ok_comp]
      simp [hnb, -ok_compStep]
      refine ⟨_, this, ?_⟩
      simp
    obtain ⟨p, e3, rfl⟩ := e2
    simp [e3, -ok_comp]
  rintro o rfl
  refine seqP_nx.mpr ?_
  have hin := in_non (M := M) ((TL.spl [47] 0 [] l).map fun w => wholeZ w 200)
  rw [List.map_map] at hin
  unfold fracZ
  match hsp : TL.spl [47] 0 [] l with
  | [] => have := spl_pos (c := 47) (l := l); rw [hsp] at this; simp at this
  | [t] =>
    rw [hsp] at hin
    simp only [List.map_cons, List.map_nil, Function.comp] at hin ⊢
    cases ht : wholeZ t 200 with
    | none =>
      rw [ht] at hin
      simp [-seqP_nx, hin, optF]
    | some n =>
      rw [ht] at hin
      simp [-seqP_nx, hin, optF]
      refine seqP_nx.mpr ?_
      simp [optD]
  | [t, b] =>
    rw [hsp] at hin
    simp only [List.map_cons, List.map_nil, Function.comp] at hin ⊢
    cases ht : wholeZ t 200 with
    | none =>
      rw [ht] at hin
      simp [-seqP_nx, hin, optF]
    | some n =>
      cases hd : wholeZ b 200 with
      | none =>
        rw [ht, hd] at hin
        simp [-seqP_nx, hin, optF]
      | some d =>
        rw [ht, hd] at hin
        simp [-seqP_nx, hin, optF]
        refine seqP_nx.mpr ?_
        simp [-seqP_nx, optD]
        refine seqP_nx.mpr ?_
        have bd : B2 d := whole_b hd
        by_cases h2 : d < 2
        · have : ¬ (1 < d ∧ Int.gcd n d = 1) := fun h => by omega
          simp [-seqP_nx, h2, this, optF]
        · have h2' : 1 < d := by omega
          have le := lowest_eq (M := M) (k := 200) (t := n) (b := d) (by omega) bd.bn (by decide)
          have hm : madeZ n d = (n, d) ↔ Int.gcd n d = 1 := made_one (by omega)
          simp [-seqP_nx, h2, le]
          have hne : Ok (oNe (Dv.d (frD (madeZ n d))) (Dv.d (D.tup [D.int n, D.int d])) M) fun p => p = (.d (.bl (!decide (madeZ n d = (n, d)))), M) := (ok_neF (f := madeZ n d) (g := (n, d))).mpr rfl
          obtain ⟨p, hp, rfl⟩ := hne
          rw [hp]
          by_cases q : Int.gcd n d = 1
          · have q2 := hm.mpr q
            simp [-seqP_nx, q2, q, h2', optF]
            refine seqP_nx.mpr ?_
            simp
          · have q2 : ¬ madeZ n d = (n, d) := fun h => q (hm.mp h)
            simp [-seqP_nx, q2, q, optF]
  | t :: b :: c :: r =>
    have h3 : (2 : Int) < (r.length : Int) + 1 + 1 + 1 := by omega
    simp [-seqP_nx, h3, optF]
theorem xrw {M : DSt} {l : List Nat} {n : Int} (hlow : ∀ c ∈ l, c < 128) (hl : l.length ≤ 100000) : x_read_whole [.d (.str (tx l)), .d (.int n)] M = if (wholeZ l n).isSome = true then none else some ("NoText", M) := by
  rw [xread_whole hlow hl]
  unfold wholeZ
  by_cases h : wholeOk l n <;> simp [h]
theorem frac_none {l : List Nat} (h : 47 ∉ l) : fracZ l = (wholeZ l 200).map fun n => (n, 1) := by
  rcases spl_par (c := 47) l [] with ⟨h1, h2, h3⟩ | ⟨t, b, e, h0, h1, h2⟩
  · unfold fracZ; rw [h2]; simp
  · exact absurd (by rw [e]; simp) h
theorem frac_some {l t b : List Nat} (e : TL.spl [47] 0 [] l = t :: TL.spl [47] 0 [] b) : fracZ l = match wholeZ t 200, wholeZ b 200 with
    | some n, some d => if 1 < d ∧ Int.gcd n d = 1 then some (n, d) else none
    | _, _ => none := by
  unfold fracZ
  rw [e]
  rcases spl_par (c := 47) b [] with ⟨h1, h2, h3⟩ | ⟨t', b', e', h0, h1, h2⟩
  · rw [h2]
    simp only [List.nil_append] <;> (cases wholeZ t 200 <;> cases wholeZ b 200 <;> rfl)
  · have hp := spl_pos (c := 47) (l := b')
    have hw : wholeZ b 200 = none := whole_no (c := 47) (by rw [e']; simp) (by decide) (by decide)
    rw [h2, hw]
    match h : TL.spl [47] 0 [] b' with
    | [] => rw [h] at hp; simp at hp
    | q :: r =>
      cases wholeZ t 200 <;> simp
theorem read_frac {M : DSt} {l : List Nat} (hlow : ∀ c ∈ l, c < 128) (hl : l.length ≤ 100000) :
    x_read_fraction [.d (.str (tx l))] M = (if (fracZ l).isSome = true then none else some ("NoText", M)) ∧ ((fracZ l).isSome = true → f_read_fraction [.d (.str (tx l))] M = some (.d (optF (fracZ l)), M)) := by
  have hb : l.length ≤ big := by unfold big; omega
  have f0 : strFine (tx []) = true := fine_low (by simp)
  have f47 : strFine (tx [47]) = true := fine_low (by simp)
  rcases spl_par (c := 47) l [] with ⟨h1, h2, h3⟩ | ⟨t, b, e, h0, h1, h2⟩
  · have ep := part_tx_none h1
    rw [frac_none h3]
    constructor
    · unfold x_read_fraction
      rw [fnX_eq]
      simp only [startD, List.replicate, bx_read_fraction]
      rw [xseq_eq (ρ1 := [some (.d (.str (tx l))), some (.d (.str (tx l))), some (.d (.str (tx []))), some (.d (.str (tx []))), none]) (M1 := M) (by simp [lit_sl, ep, hb])]
      rw [step_eq (by simp [lit_emp, f0])]
      rw [xcall_eq (vs := [.d (.str (tx l)), .d (.int 200)]) (M1 := M) (by simp [v_MOST_FIGURES]), xrw hlow hl]
      cases wholeZ l 200 <;> simp
    · intro hs
      cases hw : wholeZ l 200 with
      | none => rw [hw] at hs; simp at hs
      | some n =>
        have w1 := read_whole_eq (M := M) hw (by decide)
        apply ok_eq
        unfold f_read_fraction
        rw [ok_fn]
        simp [b_read_fraction, startD, lit_sl, lit_emp, ep, hb, f0, v_MOST_FIGURES, w1, optF]
  · have ep := part_tx h1
    have hT : t.length ≤ l.length ∧ b.length ≤ l.length := by
      have := congrArg List.length e
      simp at this
      omega
    have lt : ∀ c ∈ t, c < 128 := fun c hc => hlow c (by rw [e]; simp [hc])
    have lb : ∀ c ∈ b, c < 128 := fun c hc => hlow c (by rw [e]; simp [hc])
    simp only [List.nil_append] at ep h2
    rw [frac_some h2]
    constructor
    · unfold x_read_fraction
      rw [fnX_eq]
      simp only [startD, List.replicate, bx_read_fraction]
      rw [xseq_eq (ρ1 := [some (.d (.str (tx l))), some (.d (.str (tx t))), some (.d (.str (tx [47]))), some (.d (.str (tx b))), none]) (M1 := M) (by simp [lit_sl, ep, hb])]
      rw [step_ne (by simp [lit_emp, f0, f47])]
      have c1 := xcall_eq (f := x_read_whole) (as := aCons (eVar 1) (aCons (eC v_MOST_FIGURES) aNil)) (ρ := [some (.d (.str (tx l))), some (.d (.str (tx t))), some (.d (.str (tx [47]))), some (.d (.str (tx b))), none]) (M := M) (vs := [.d (.str (tx t)), .d (.int 200)]) (M1 := M) (by simp [v_MOST_FIGURES])
      have c2 := xcall_eq (f := x_read_whole) (as := aCons (eVar 3) (aCons (eC v_MOST_FIGURES) aNil)) (ρ := [some (.d (.str (tx l))), some (.d (.str (tx t))), some (.d (.str (tx [47]))), some (.d (.str (tx b))), none]) (M := M) (vs := [.d (.str (tx b)), .d (.int 200)]) (M1 := M) (by simp [v_MOST_FIGURES])
      rw [xrw lt (by omega)] at c1
      rw [xrw lb (by omega)] at c2
      cases hn : wholeZ t 200 with
      | none =>
        rw [hn] at c1
        rw [xalt_some (xalt_some c1)]
        simp
      | some n =>
        rw [hn] at c1
        have w1 := read_whole_eq (M := M) hn (by decide)
        have c3 := xthen_eq (a := eCall f_read_whole (aCons (eVar 1) (aCons (eC v_MOST_FIGURES) aNil))) (x := xCall x_read_whole (aCons (eVar 3) (aCons (eC v_MOST_FIGURES) aNil))) (ρ := [some (.d (.str (tx l))), some (.d (.str (tx t))), some (.d (.str (tx [47]))), some (.d (.str (tx b))), none]) (M := M) (M1 := M) (v := .d (.int n)) (by simp [v_MOST_FIGURES, w1])
        rw [c2] at c3
        cases hd : wholeZ b 200 with
        | none =>
          rw [hd] at c3
          rw [xalt_some ((xalt_none c1).trans c3)]
          simp
        | some d =>
          rw [hd] at c3
          have w2 := read_whole_eq (M := M) hd (by decide)
          rw [xalt_none ((xalt_none c1).trans c3)]
          rw [xseq_eq (ρ1 := [some (.d (.str (tx l))), some (.d (.str (tx t))), some (.d (.str (tx [47]))), some (.d (.str (tx b))), some (.d (.tup [.int n, .int d]))]) (M1 := M) (by simp [v_MOST_FIGURES, w1, w2])]
          rw [xguard1 (b := decide (1 < d ∧ Int.gcd n d = 1)) (c := "NoText") ?_ xmust_t xmust_f]
          · by_cases q : 1 < d ∧ Int.gcd n d = 1 <;> simp [q]
          · by_cases q1 : 1 < d
            · simp [q1, divisor_eq]
              rw [Bool.eq_iff_iff]
              simp
              omega
            · simp [q1]
    · intro hs
      cases hn : wholeZ t 200 with
      | none => rw [hn] at hs; simp at hs
      | some n =>
        cases hd : wholeZ b 200 with
        | none => rw [hn, hd] at hs; simp at hs
        | some d =>
          rw [hn, hd] at hs
          by_cases q : 1 < d ∧ Int.gcd n d = 1
          · have w1 := read_whole_eq (M := M) hn (by decide)
            have w2 := read_whole_eq (M := M) hd (by decide)
            apply ok_eq
            unfold f_read_fraction
            rw [ok_fn]
            simp [b_read_fraction, startD, lit_sl, lit_emp, ep, hb, f0, f47, v_MOST_FIGURES, w1, w2, optF, q, divisor_eq, must_eq]
          · simp [q] at hs
/-- the row that a text writes -/
def rowZ (l : List Nat) : Option (List Int) := if l = [] then some [] else if (TL.spl [32] 0 [] l).length ≤ 200 ∧ ∀ w ∈ TL.spl [32] 0 [] l, (wholeZ w 9).isSome = true then some ((TL.spl [32] 0 [] l).map fun w => (wholeZ w 9).getD 0) else none
def optR : Option (List Int) → D
  | some zs => .lst (zs.map D.int)
  | none => .non
theorem row_of_eq {M : DSt} {l : List Nat} (hlow : ∀ c ∈ l, c < 128) (hl : l.length ≤ 100000) : f__law_row_of [.d (.str (tx l))] M = some (.d (optR (rowZ l)), M) := by
  have hb : l.length ≤ big := by unfold big; omega
  have f0 : strFine (tx []) = true := fine_low (by simp)
  have hf : strFine (tx l) = true := fin_of hlow
  have hw : ∀ w ∈ TL.spl [32] 0 [] l, (∀ c ∈ w, c < 128) ∧ w.length ≤ 100000 := fun w hw => ⟨fun c hc => hlow c ((spl_mem _ l (Nat.le_refl _) w hw).2 c hc), Nat.le_trans (spl_len hw) hl⟩
  have hn := spl_many (c := 32) (l := l)
  have hnb : (TL.spl [32] 0 [] l).length ≤ big := by unfold big; omega
  apply ok_eq
  unfold f__law_row_of
  rw [ok_fn]
  unfold b__law_row_of
  simp only [startD, List.replicate]
  by_cases h0 : l = []
  · subst h0
    simp [lit_emp, f0, -seqP_nx, rowZ, optR]
  refine seq_by (fun o => o = .nx [some (.d (.str (tx l))), none, none] M) (by simp [lit_emp, f0, hf, h0]) ?_
  rintro o rfl
  refine seqP_nx.mpr ?_
  refine seq_by (fun o => o = .nx [some (.d (.str (tx l))), some (.d (.lst ((TL.spl [32] 0 [] l).map fun w => optD (wholeZ w 9)))), none] M) ?_ ?_
  · have := words_comp (i := 2) (n := 9) (M := M) (ρ := [some (.d (.str (tx l))), none, none]) (by simp) (by decide) _ hw
    have e2 : Ok (eComp false (iS (eM (mSplit false) (eVar 0) (aCons (eC (.str " ")) aNil))) (.name 2) Rw.tYes (eCall f__law_whole_of (aCons (eVar 2) (aCons (eC (.int 9)) aNil))) [2] [some (.d (.str (tx l))), none, none] M) fun p => p = (.d (.lst ((TL.spl [32] 0 [] l).map fun w => optD (wholeZ w 9))), M) := by
      simp only [ok_comp]
      simp [lit_bl, split_tx, hb, hnb, -ok_compStep]
      refine ⟨_, this, ?_⟩
      simp
    obtain ⟨p, e3, rfl⟩ := e2
    simp [e3, -ok_comp]
  rintro o rfl
  refine seqP_nx.mpr ?_
  have hin := in_non (M := M) ((TL.spl [32] 0 [] l).map fun w => wholeZ w 9)
  rw [List.map_map] at hin
  simp only [Function.comp_def] at hin
  by_cases ha : ∀ w ∈ TL.spl [32] 0 [] l, (wholeZ w 9).isSome = true
  · have hni : none ∉ (TL.spl [32] 0 [] l).map fun w => wholeZ w 9 := fun h => by
      obtain ⟨w, hw, e⟩ := List.mem_map.mp h
      have := ha w hw
      rw [e] at this; cases this
    have hmap : ((TL.spl [32] 0 [] l).map fun w => optD (wholeZ w 9)) = ((TL.spl [32] 0 [] l).map fun w => (wholeZ w 9).getD 0).map D.int := by
      rw [List.map_map]
      refine List.map_congr_left fun w hw => ?_
      have := ha w hw
      cases hz : wholeZ w 9 with
      | none => rw [hz] at this; cases this
      | some z => simp [optD, hz]
    by_cases hm : (TL.spl [32] 0 [] l).length ≤ 200
    · have hm' : ¬ (200 : Int) < ((TL.spl [32] 0 [] l).length : Int) := by omega
      have hr : rowZ l = some ((TL.spl [32] 0 [] l).map fun w => (wholeZ w 9).getD 0) := by
        unfold rowZ
        rw [if_neg h0, if_pos ⟨hm, ha⟩]
      rw [hr]
      simp only [optR]
      rw [← hmap]
      simp [-seqP_nx, hin, hni, hm', hnb, -List.mem_map]
      refine seqP_nx.mpr ?_
      simp
    · have hm' : (200 : Int) < ((TL.spl [32] 0 [] l).length : Int) := by omega
      simp [-seqP_nx, hin, hni, hm', hnb, rowZ, h0, hm, optR]
  · have hni : none ∈ (TL.spl [32] 0 [] l).map fun w => wholeZ w 9 := by
      obtain ⟨w, hw⟩ := Classical.not_forall.mp ha
      obtain ⟨hw, he⟩ := Classical.not_imp.mp hw
      exact List.mem_map.mpr ⟨w, hw, by simpa using he⟩
    have hr : rowZ l = none := by
      unfold rowZ
      rw [if_neg h0, if_neg fun h => ha h.2]
    rw [hr]
    simp [-seqP_nx, hin, hni, hnb, optR, -List.mem_map]
theorem xwords {i : Nat} {n : Int} {M : DSt} {ρ : DEnv} (hi : i < ρ.length) (hm : n ≤ 600) {v : D} (hv : v = .int n) : ∀ (ws : List (List Nat)), (∀ w ∈ ws, (∀ c ∈ w, c < 128) ∧ w.length ≤ 100000) →
    xCompL (stand [] M) (compStep (.name i) Rw.tYes (eCall f_read_whole (aCons (eVar i) (aCons (eC v) aNil))) ρ) (xCompStep (.name i) (xCall x_read_whole (aCons (eVar i) (aCons (eC v) aNil))) ρ) (ws.map fun w => D.str (tx w)) M = if ∀ w ∈ ws, (wholeZ w n).isSome = true then none else some ("NoText", M)
  | [], _ => by simp [xCompL]
  | w :: ws, h => by
    subst hv
    obtain ⟨h1, h2⟩ := h w (by simp)
    have ih := xwords (M := M) hi hm rfl ws fun x hx => h x (by simp [hx])
    have hx : xCompStep (.name i) (xCall x_read_whole (aCons (eVar i) (aCons (eC (.int n)) aNil))) ρ (D.str (tx w)) M = if (wholeZ w n).isSome = true then none else some ("NoText", M) := by
      have e := xcall_eq (f := x_read_whole) (as := aCons (eVar i) (aCons (eC (.int n)) aNil)) (ρ := ρ.set i (some (.d (.str (tx w))))) (M := M) (vs := [.d (.str (tx w)), .d (.int n)]) (M1 := M) ⟨_, by simp only [aCons, eVar_set hi, eC, aNil], rfl⟩
      simp only [xCompStep, Tgt.put, e]
      rw [xrw h1 h2]
      cases wholeZ w n <;> simp
    rw [List.map_cons]
    unfold xCompL
    rw [grd_ok (by simp [stand]), hx]
    cases hz : wholeZ w n with
    | none => simp [hz]
    | some z =>
      have e := read_whole_eq (M := M) hz hm
      have hs : compStep (.name i) Rw.tYes (eCall f_read_whole (aCons (eVar i) (aCons (eC (.int n)) aNil))) ρ (D.str (tx w)) M = some (some (.int z), M) := by
        simp only [compStep, Tgt.put, Rw.tYes, eCall, eA, aCons, eVar_set hi, eC, aNil, e]
      simp only [Option.isSome, if_true, hs, ih]
      simp [hz]
theorem good_words {i : Nat} {n : Int} {M : DSt} {ρ : DEnv} (hi : i < ρ.length) (hm : n ≤ 600) {v : D} (hv : v = .int n) : ∀ (ws : List (List Nat)), (∀ w ∈ ws, (wholeZ w n).isSome = true) →
    compL (stand [] M) (compStep (.name i) Rw.tYes (eCall f_read_whole (aCons (eVar i) (aCons (eC v) aNil))) ρ) (ws.map fun w => D.str (tx w)) M = some (ws.map fun w => D.int ((wholeZ w n).getD 0), M)
  | [], _ => by simp [compL, stand, grd_ok]
  | w :: ws, h => by
    subst hv
    have hz := h w (by simp)
    have ih := good_words (M := M) hi hm rfl ws fun x hx => h x (by simp [hx])
    cases hw : wholeZ w n with
    | none => rw [hw] at hz; cases hz
    | some z =>
      have e := read_whole_eq (M := M) hw hm
      have hs : compStep (.name i) Rw.tYes (eCall f_read_whole (aCons (eVar i) (aCons (eC (.int n)) aNil))) ρ (D.str (tx w)) M = some (some (.int z), M) := by
        simp only [compStep, Tgt.put, Rw.tYes, eCall, eA, aCons, eVar_set hi, eC, aNil, e]
      rw [List.map_cons]
      unfold compL
      rw [grd_ok (by simp [stand]), hs]
      simp only [ih, List.map_cons, hw, Option.getD]
theorem xseq_rt {s : DS} {x : DX} {ρ : DEnv} {M : DSt} (h : Ok (s ρ M) fun o => ∃ v M1, o = .rt v M1) : xSeq s x ρ M = none := by
  obtain ⟨p, e, v, M1, rfl⟩ := h
  unfold xSeq
  rw [e]
theorem read_row_tot {M : DSt} {l : List Nat} (hlow : ∀ c ∈ l, c < 128) (hl : l.length ≤ 100000) :
    x_read_row [.d (.str (tx l))] M = (if (rowZ l).isSome = true then none else some ("NoText", M)) ∧ ((rowZ l).isSome = true → f_read_row [.d (.str (tx l))] M = some (.d (optR (rowZ l)), M)) := by
  have hb : l.length ≤ big := by unfold big; omega
  have f0 : strFine (tx []) = true := fine_low (by simp)
  have hf : strFine (tx l) = true := fin_of hlow
  have hw : ∀ w ∈ TL.spl [32] 0 [] l, (∀ c ∈ w, c < 128) ∧ w.length ≤ 100000 := fun w hw => ⟨fun c hc => hlow c ((spl_mem _ l (Nat.le_refl _) w hw).2 c hc), Nat.le_trans (spl_len hw) hl⟩
  have hn := spl_many (c := 32) (l := l)
  have hnb : (TL.spl [32] 0 [] l).length ≤ big := by unfold big; omega
  by_cases h0 : l = []
  · subst h0
    constructor
    · unfold x_read_row
      rw [fnX_eq]
      simp only [startD, List.replicate, bx_read_row]
      rw [xseq_rt (by simp [lit_emp, f0])]
      simp [rowZ]
    · intro _
      apply ok_eq
      unfold f_read_row
      rw [ok_fn]
      simp [b_read_row, startD, lit_emp, f0, -seqP_nx, rowZ, optR]
  constructor
  · unfold x_read_row
    rw [fnX_eq]
    simp only [startD, List.replicate, bx_read_row]
    rw [xseq_eq (ρ1 := [some (.d (.str (tx l))), none, none]) (M1 := M) (by simp [lit_emp, f0, hf, h0])]
    rw [xseq_eq (ρ1 := [some (.d (.str (tx l))), some (.d (.lst ((TL.spl [32] 0 [] l).map fun w => D.str (tx w)))), none]) (M1 := M) (by simp [lit_bl, split_tx, hb])]
    rw [xguard (b := decide ((TL.spl [32] 0 [] l).length ≤ 200)) (c := "NoText") (by simp [hnb, v_MOST_NUMBERS]; omega) xmust_t xmust_f must_eq]
    by_cases hm : (TL.spl [32] 0 [] l).length ≤ 200
    · simp only [hm, decide_true, if_true]
      have e := xwords (i := 2) (n := 9) (v := v_FEW_FIGURES) (M := M) (ρ := [some (.d (.str (tx l))), some (.d (.lst ((TL.spl [32] 0 [] l).map fun w => D.str (tx w)))), none]) (by simp) (by decide) rfl _ hw
      have e2 : iS (eVar 1) [some (.d (.str (tx l))), some (.d (.lst ((TL.spl [32] 0 [] l).map fun w => D.str (tx w)))), none] M = some ((TL.spl [32] 0 [] l).map fun w => D.str (tx w), [], M) := by
        obtain ⟨p, h1, h2⟩ : Ok (iS (eVar 1) [some (.d (.str (tx l))), some (.d (.lst ((TL.spl [32] 0 [] l).map fun w => D.str (tx w)))), none] M) fun p => p = ((TL.spl [32] 0 [] l).map fun w => D.str (tx w), [], M) := by simp
        rw [h1, h2]
      unfold xLc
      rw [e2]
      simp only
      rw [grd_ok (by simpa using hnb)]
      simp only [wipeD, List.foldl, List.set] at e ⊢
      rw [e]
      by_cases ha : ∀ w ∈ TL.spl [32] 0 [] l, (wholeZ w 9).isSome = true
      · rw [if_pos ha]
        have : (TL.spl [32] 0 [] l).length ≤ 200 ∧ ∀ w ∈ TL.spl [32] 0 [] l, (wholeZ w 9).isSome = true := ⟨hm, ha⟩
        simp only [rowZ, if_neg h0, if_pos this]
        rfl
      · rw [if_neg ha]
        have : ¬ ((TL.spl [32] 0 [] l).length ≤ 200 ∧ ∀ w ∈ TL.spl [32] 0 [] l, (wholeZ w 9).isSome = true) := fun h => ha h.2
        simp only [rowZ, if_neg h0, if_neg this]
        simp
    · simp [rowZ, h0, hm]
  · intro hs
    unfold rowZ at hs ⊢
    rw [if_neg h0] at hs ⊢
    split at hs
    · rename_i q
      rw [if_pos q]
      have e := good_words (i := 2) (n := 9) (v := v_FEW_FIGURES) (M := M) (ρ := [some (.d (.str (tx l))), some (.d (.lst ((TL.spl [32] 0 [] l).map fun w => D.str (tx w)))), none]) (by simp) (by decide) rfl _ q.2
      apply ok_eq
      unfold f_read_row
      rw [ok_fn]
      unfold b_read_row
      simp only [startD, List.replicate]
      refine seq_by (fun o => o = .nx [some (.d (.str (tx l))), none, none] M) (by simp [lit_emp, f0, hf, h0]) ?_
      rintro o rfl
      refine seqP_nx.mpr ?_
      refine seq_by (fun o => o = .nx [some (.d (.str (tx l))), some (.d (.lst ((TL.spl [32] 0 [] l).map fun w => D.str (tx w)))), none] M) (by simp [lit_bl, split_tx, hb]) ?_
      rintro o rfl
      refine seqP_nx.mpr ?_
      refine seq_by (fun o => o = .nx [some (.d (.str (tx l))), some (.d (.lst ((TL.spl [32] 0 [] l).map fun w => D.str (tx w)))), none] M) ?_ ?_
      · have h2 : ((TL.spl [32] 0 [] l).length : Int) ≤ 200 := by omega
        simp [hnb, v_MOST_NUMBERS, h2, must_eq]
      rintro o rfl
      refine seqP_nx.mpr ?_
      have e2 : Ok (eComp false (iS (eVar 1)) (.name 2) Rw.tYes (eCall f_read_whole (aCons (eVar 2) (aCons (eC v_FEW_FIGURES) aNil))) [2] [some (.d (.str (tx l))), some (.d (.lst ((TL.spl [32] 0 [] l).map fun w => D.str (tx w)))), none] M) fun p => p = (.d (.lst ((TL.spl [32] 0 [] l).map fun w => D.int ((wholeZ w 9).getD 0))), M) := by
        simp only [ok_comp]
        simp [hnb, -ok_compStep]
        refine ⟨_, e, ?_⟩
        simp
      obtain ⟨p, e3, rfl⟩ := e2
      simp [e3, -ok_comp, optR, Function.comp_def]
    · simp at hs
def NONE : List Nat := [110, 111, 110, 101]
def strL (ws : List (List Nat)) : D := .lst (ws.map fun w => D.str (tx w))
/-- how far and where, as words write it -/
def nearZ (ws : List (List Nat)) (many : Int) : Option ((Int × Int) × Int) := match ws with
  | [f, p] => match fracZ f, wholeZ p 9 with
    | some fr, some pl => if 0 ≤ fr.1 ∧ 0 ≤ pl ∧ pl < many then some (fr, pl) else none
    | _, _ => none
  | _ => none
theorem nearZ2 {f p : List Nat} {many : Int} : nearZ [f, p] many = (fracZ f).bind fun fr => (wholeZ p 9).bind fun pl => if 0 ≤ fr.1 ∧ 0 ≤ pl ∧ pl < many then some (fr, pl) else none := by
  show (match fracZ f, wholeZ p 9 with
    | some fr, some pl => if 0 ≤ fr.1 ∧ 0 ≤ pl ∧ pl < many then some (fr, pl) else none
    | _, _ => none) = _
  cases fracZ f <;> cases wholeZ p 9 <;> rfl
def optN : Option ((Int × Int) × Int) → D
  | some x => .tup [frD x.1, .int x.2]
  | none => .non
def Fine (w : List Nat) : Prop := (∀ c ∈ w, c < 128) ∧ w.length ≤ 100000
theorem strL_shp {ws : List (List Nat)} (h : ∀ w ∈ ws, Fine w) : (strL ws).shp 9 = true := by
  simp only [strL, D.shp, List.all_map, List.all_eq_true]
  intro w hw
  exact fine_low (h w hw).1
theorem none_shp : (D.lst [.str (PySem.Str.ofString "none")]).shp 9 = true := by
  rw [lit_none]
  simp [D.shp]
  exact fine_low (by decide)
theorem eq_none {ws : List (List Nat)} : D.eqv (strL ws) (.lst [.str (PySem.Str.ofString "none")]) = decide (ws = [NONE]) := by
  rw [lit_none]
  match ws with
  | [] => simp [strL, D.eqv, D.eqvs]
  | [w] => simp [strL, D.eqv, D.eqvs, NONE]
  | a :: b :: r => simp [strL, D.eqv, D.eqvs]
theorem oEq_none {M : DSt} {ws : List (List Nat)} (h : ∀ w ∈ ws, Fine w) : oEq (.d (strL ws)) (.d (.lst [.str (PySem.Str.ofString "none")])) M = some (.d (.bl (decide (ws = [NONE]))), M) := by
  unfold oEq
  simp only [dv]
  rw [grd_ok ⟨strL_shp h, none_shp⟩, eq_none]
theorem oNe_none {M : DSt} {ws : List (List Nat)} (h : ∀ w ∈ ws, Fine w) : oNe (.d (strL ws)) (.d (.lst [.str (PySem.Str.ofString "none")])) M = some (.d (.bl (!decide (ws = [NONE]))), M) := by
  unfold oNe
  simp only [dv]
  rw [grd_ok ⟨strL_shp h, none_shp⟩, eq_none]
theorem optF_some {f : Int × Int} : optF (some f) = frD f := rfl
theorem near_of_eq {M : DSt} {ws : List (List Nat)} {many : Int} (h : ∀ w ∈ ws, Fine w) (hn : ws.length ≤ 100000) : f__law_near_of [.d (strL ws), .d (.int many)] M = some (.d (optN (nearZ ws many)), M) := by
  apply ok_eq
  unfold f__law_near_of
  rw [ok_fn]
  unfold b__law_near_of
  simp only [startD, List.replicate]
  have hb : ws.length ≤ big := by unfold big; omega
  by_cases h2 : ws.length = 2
  case neg =>
    have e : nearZ ws many = none := by
      unfold nearZ
      split
      · simp at h2
      · rfl
    have h3 : ¬ (ws.length : Int) = 2 := by omega
    rw [e]
    simp [-seqP_nx, strL, hb, h3, optN]
  match ws, h2 with
  | [f, p], _ =>
    obtain ⟨f1, f2⟩ := h f (by simp)
    obtain ⟨p1, p2⟩ := h p (by simp)
    have e1 := fraction_of_eq (M := M) f1 f2
    have e2 := whole_of_eq (M := M) (n := 9) p1 p2 (by decide)
    simp [-seqP_nx, strL]
    refine seqP_nx.mpr ?_
    simp [-seqP_nx, e1]
    refine seqP_nx.mpr ?_
    simp [-seqP_nx, e2]
    refine seqP_nx.mpr ?_
    rw [nearZ2]
    cases hf : fracZ f with
    | none => simp [-seqP_nx, optF, optN]
    | some fr =>
      cases hp : wholeZ p 9 with
      | none => simp [-seqP_nx, optF, optD, optN, oIsN, isNon]
      | some pl =>
        by_cases q : 0 ≤ fr.1 ∧ 0 ≤ pl ∧ pl < many
        · have q1 : ¬ fr.1 < 0 := by omega
          have q2 : ¬ pl < 0 := by omega
          have q3 : ¬ many ≤ pl := by omega
          simp [-seqP_nx, optF, optD, optN, q1, q2, q3, q, oIsN, isNon]
          refine seqP_nx.mpr ?_
          simp [frD]
        · simp [-seqP_nx, optF, optD, optN, q]
          exact fun a b c => absurd ⟨a, b, c⟩ q
/-- what a line's last words tell -/
def readN (ws : List (List Nat)) (many : Int) : Option D := if ws = [NONE] then some .non else (nearZ ws many).map fun x => optN (some x)
theorem read_near_tot {M : DSt} {ws : List (List Nat)} {many : Int} (h : ∀ w ∈ ws, Fine w) (hn : ws.length ≤ 100000) :
    x_read_near [.d (strL ws), .d (.int many)] M = (if (readN ws many).isSome = true then none else some ("NoText", M)) ∧ (∀ d, readN ws many = some d → f_read_near [.d (strL ws), .d (.int many)] M = some (.d d, M)) := by
  have hb : ws.length ≤ big := by unfold big; omega
  have e0 := oEq_none (M := M) h
  by_cases h0 : ws = [NONE]
  · have e0 : oEq (.d (strL [NONE])) (.d (.lst [.str (PySem.Str.ofString "none")])) M = some (.d (.bl true), M) := by
      rw [h0] at e0
      simpa using e0
    have hr : readN ws many = some .non := by unfold readN; rw [if_pos h0]
    rw [hr, h0]
    constructor
    · unfold x_read_near
      rw [fnX_eq]
      simp only [startD, List.replicate, bx_read_near]
      rw [xseq_rt (by simp [mkL, e0])]
      simp
    · intro d hd
      cases hd
      apply ok_eq
      unfold f_read_near
      rw [ok_fn]
      simp [b_read_near, startD, mkL, -seqP_nx, e0]
  have er : readN ws many = (nearZ ws many).map fun x => optN (some x) := by unfold readN; rw [if_neg h0]
  rw [er]
  by_cases h2 : ws.length = 2
  case neg =>
    have e : nearZ ws many = none := by
      unfold nearZ
      split
      · simp at h2
      · rfl
    rw [e]
    refine ⟨?_, fun d hd => by simp at hd⟩
    unfold x_read_near
    rw [fnX_eq]
    simp only [startD, List.replicate, bx_read_near]
    rw [xseq_eq (ρ1 := [some (.d (strL ws)), some (.d (.int many)), none]) (M1 := M) (by simp [mkL, e0, h0])]
    have h3 : ¬ (ws.length : Int) = 2 := by omega
    rw [xguard (b := false) (c := "NoText") (by simp [strL, hb, h3]) xmust_t xmust_f must_eq]
    simp
  match ws, h2 with
  | [f, p], _ =>
    obtain ⟨f1, f2⟩ := h f (by simp)
    obtain ⟨p1, p2⟩ := h p (by simp)
    obtain ⟨e1, ef⟩ := read_frac (M := M) f1 f2
    have e3 := xrw (M := M) (n := 9) p1 p2
    rw [nearZ2]
    constructor
    · unfold x_read_near
      rw [fnX_eq]
      simp only [startD, List.replicate, bx_read_near]
      rw [xseq_eq (ρ1 := [some (.d (strL [f, p])), some (.d (.int many)), none]) (M1 := M) (by simp [mkL, e0, h0])]
      rw [xguard (b := true) (c := "NoText") (by simp [strL]) xmust_t xmust_f must_eq]
      simp only [if_true]
      have c1 := xcall_eq (f := x_read_fraction) (as := aCons (e2 oIx (eVar 0) (eC (.int 0))) aNil) (ρ := [some (.d (strL [f, p])), some (.d (.int many)), none]) (M := M) (vs := [.d (.str (tx f))]) (M1 := M) (by simp [strL])
      have c2 := xcall_eq (f := x_read_whole) (as := aCons (e2 oIx (eVar 0) (eC (.int 1))) (aCons (eC v_FEW_FIGURES) aNil)) (ρ := [some (.d (strL [f, p])), some (.d (.int many)), none]) (M := M) (vs := [.d (.str (tx p)), .d (.int 9)]) (M1 := M) (by simp [strL, v_FEW_FIGURES])
      rw [e1] at c1
      rw [e3] at c2
      cases hf : fracZ f with
      | none =>
        rw [hf] at c1
        rw [xalt_some (xalt_some c1)]
        simp
      | some fr =>
        rw [hf] at c1
        have w1 := ef (by rw [hf]; rfl)
        rw [hf] at w1
        have c3 := xthen_eq (a := eCall f_read_fraction (aCons (e2 oIx (eVar 0) (eC (.int 0))) aNil)) (x := xCall x_read_whole (aCons (e2 oIx (eVar 0) (eC (.int 1))) (aCons (eC v_FEW_FIGURES) aNil))) (ρ := [some (.d (strL [f, p])), some (.d (.int many)), none]) (M := M) (M1 := M) (v := .d (optF (some fr))) (by simp [strL, w1])
        rw [c2] at c3
        cases hd : wholeZ p 9 with
        | none =>
          rw [hd] at c3
          rw [xalt_some ((xalt_none c1).trans c3)]
          simp
        | some pl =>
          rw [hd] at c3
          have w2 := read_whole_eq (M := M) hd (by decide)
          rw [xalt_none ((xalt_none c1).trans c3)]
          rw [xseq_eq (ρ1 := [some (.d (strL [f, p])), some (.d (.int many)), some (.d (.tup [.tup [.int fr.1, .int fr.2], .int pl]))]) (M1 := M) (by simp [v_FEW_FIGURES, w1, w2, strL, optF])]
          rw [xguard1 (b := decide (0 ≤ fr.1 ∧ 0 ≤ pl ∧ pl < many)) (c := "NoText") ?_ xmust_t xmust_f]
          · by_cases q : 0 ≤ fr.1 ∧ 0 ≤ pl ∧ pl < many <;> simp [q]
          · by_cases q1 : 0 ≤ fr.1
            · by_cases q2 : 0 ≤ pl
              · simp [q1, q2]
              · simp [q1, q2]
            · simp [q1]
    · intro d hd
      cases hf : fracZ f with
      | none => rw [hf] at hd; simp at hd
      | some fr =>
        cases hp : wholeZ p 9 with
        | none => rw [hf, hp] at hd; simp at hd
        | some pl =>
          rw [hf, hp] at hd
          by_cases q : 0 ≤ fr.1 ∧ 0 ≤ pl ∧ pl < many
          · have hd : optN (some (fr, pl)) = d := by simpa [q] using hd
            subst hd
            have w1 := ef (by rw [hf]; rfl)
            rw [hf] at w1
            have w2 := read_whole_eq (M := M) hp (by decide)
            apply ok_eq
            unfold f_read_near
            rw [ok_fn]
            simp [b_read_near, startD, mkL, -seqP_nx, e0, h0]
            refine seqP_nx.mpr ?_
            simp [strL, must_eq, -seqP_nx]
            refine seqP_nx.mpr ?_
            simp [w1, w2, v_FEW_FIGURES, optF, -seqP_nx]
            refine seqP_nx.mpr ?_
            simp [q.1, q.2.1, q.2.2, must_eq, optN, frD]
          · simp [q] at hd
/-- what a table's line tells, the k-th of many -/
def lineZ (many : Int) (k : Nat) (line : List Nat) : Option D := match TL.spl [32] 0 [] line with
  | [] => none
  | w :: ws => if w = decZ (k : Int) then readN ws many else none
def tabZ (many : Int) : Nat → List (List Nat) → Option (List D)
  | _, [] => some []
  | k, line :: r => (lineZ many k line).bind fun d => (tabZ many (k + 1) r).map fun ds => d :: ds
def tableZ (l : List Nat) : Option (List D) := if l = [] then some [] else if (TL.spl [10] 0 [] l).length ≤ 200 then tabZ (TL.spl [10] 0 [] l).length 0 (TL.spl [10] 0 [] l) else none
theorem cut1 {w : D} {ws : List D} : cutD (w :: ws) (some 1) none = ws := by
  simp [cutD, sIxD]
theorem near_some {ws : List (List Nat)} {many : Int} {d : D} (h : readN ws many = some d) : optN (nearZ ws many) = d := by
  unfold readN at h
  split at h
  · rename_i e
    cases h
    rw [e]
    rfl
  · cases hz : nearZ ws many with
    | none => rw [hz] at h; cases h
    | some x =>
      rw [hz] at h
      cases h
      rfl
noncomputable def tStep : D → DEnv → DSt → Option Out := forStep (.tup [(.name 3), (.name 4)]) (dWipe [3, 4, 5, 6] (dSeq (dAsg (.name 5) (eM (mSplit false) (eVar 4) (aCons (eC (.str " ")) aNil)))
      (dSeq (dAsg (.name 6) (eCall f__law_near_of (aCons (eSl (slU false) (eVar 5) (pSome (eC (.int 1))) pNone) (aCons (eA oLen (aCons (eVar 1) aNil)) aNil))))
      (dSeq (dIf (Rw.tOr (tVal (e2 oNe (e2 oIx (eVar 5) (eC (.int 0))) (eA oStrI (aCons (eVar 3) aNil)))) (Rw.tOr (Rw.tAnd (tVal (e1 oIsN (eVar 6))) (tVal (e2 oNe (eSl (slU false) (eVar 5) (pSome (eC (.int 1))) pNone) (eLst false (aCons (eC (.str "none")) aNil))))) (tVal (e2 oGt (eA oLen (aCons (eVar 1) aNil)) (eC (.int 200)))))) (dRet (eC .non)) dPass)
      (dExpr (eM mAppend (eVar 2) (aCons (eVar 6) aNil)))))))
theorem t_step {M : DSt} {text : D} {lines : List (List Nat)} {acc : List D} {k : Nat} {line : List Nat} (hl : Fine line) (hk : k ≤ 100000) (hn : lines.length ≤ 100001) (ha : acc.length ≤ 100001) :
    Ok (tStep (.tup [.int (k : Int), .str (tx line)]) [some (.d text), some (.d (strL lines)), some (.c M.length), none, none, none, none] (M ++ [some acc]))
      fun o => match (if lines.length ≤ 200 then lineZ lines.length k line else none) with
        | some d => o = .nx [some (.d text), some (.d (strL lines)), some (.c M.length), none, none, none, none] (M ++ [some (acc ++ [d])])
        | none => o = .rt (.d .non) (M ++ [some acc]) := by
  have hb : line.length ≤ big := by have := hl.2; unfold big; omega
  have hws : ∀ w ∈ TL.spl [32] 0 [] line, Fine w := fun w hw => ⟨fun c hc => hl.1 c ((spl_mem _ line (Nat.le_refl _) w hw).2 c hc), Nat.le_trans (spl_len hw) hl.2⟩
  have hm := spl_many (c := 32) (l := line)
  have hp := spl_pos (c := 32) (l := line)
  have lg : k.log2 < 1920 := by
    by_cases h0 : k = 0
    · subst h0; decide
    · rw [Nat.log2_lt h0]
      exact Nat.lt_of_le_of_lt hk (by decide +kernel)
  have hb2 : lines.length ≤ big := by unfold big; omega
  unfold lineZ
  match hsp : TL.spl [32] 0 [] line with
  | [] => rw [hsp] at hp; simp at hp
  | w :: ws =>
    rw [hsp] at hws hm
    have hw := hws w (by simp)
    have hr : ∀ v ∈ ws, Fine v := fun v hv => hws v (by simp [hv])
    have hwl : ws.length ≤ 100000 := by
      have := hl.2
      simp at hm
      omega
    have e1 := fun M => near_of_eq (M := M) (many := (lines.length : Int)) hr hwl
    have e2 := fun M => oNe_none (M := M) hr
    have e3 := fun M => oNe_tx (M := M) (a := w) (b := decZ (k : Int)) hw.1 (dec_low _)
    have ec : ∀ u : D, cutD (u :: ws.map (D.str ∘ tx)) (some 1) none = ws.map (D.str ∘ tx) := fun u => cut1
    have fd : strFine (tx (decZ (k : Int))) = true := dec_fine _
    have e1' : ∀ M, f__law_near_of [.d (.lst (ws.map (D.str ∘ tx))), .d (.int (lines.length : Int))] M = some (.d (optN (nearZ ws (lines.length : Int))), M) := e1
    have e2' : ∀ M, oNe (.d (.lst (ws.map (D.str ∘ tx)))) (.d (.lst [.str (PySem.Str.ofString "none")])) M = some (.d (.bl (!decide (ws = [NONE]))), M) := e2
    unfold tStep
    simp [hb, lit_bl, split_tx, hsp, -seqP_nx, mkL]
    refine seqP_nx.mpr ?_
    simp [strL, hb2, ec, e1', -seqP_nx, mkL]
    refine seqP_nx.mpr ?_
    by_cases q1 : w = decZ (k : Int)
    case neg =>
      have : (if lines.length ≤ 200 then (if w = decZ (k : Int) then readN ws lines.length else none) else none) = none := by simp [q1]
      rw [this]
      simp [q1, e3, lg, fd, -seqP_nx]
    by_cases q2 : lines.length ≤ 200
    case neg =>
      have : (if lines.length ≤ 200 then (if w = decZ (k : Int) then readN ws lines.length else none) else none) = none := by simp [q2]
      rw [this]
      have q2' : (200 : Int) < (lines.length : Int) := by omega
      cases hz : nearZ ws lines.length with
      | none => simp [q1, e3, lg, fd, hb2, q2', ec, e2', optN, oIsN, isNon, mkL, -seqP_nx]
      | some x => simp [q1, e3, lg, fd, hb2, q2', ec, e2', optN, oIsN, isNon, mkL, -seqP_nx]
    have q2' : ¬ (200 : Int) < (lines.length : Int) := by omega
    rw [if_pos q2, if_pos q1]
    by_cases q3 : ws = [NONE]
    · have er : readN ws lines.length = some .non := by unfold readN; rw [if_pos q3]
      have hz : nearZ ws lines.length = none := by rw [q3]; rfl
      rw [er, hz]
      have ecN : ∀ u : D, cutD [u, D.str (tx NONE)] (some 1) none = [D.str (tx NONE)] := fun u => cut1
      have eN : ∀ M, oNe (.d (.lst [.str (tx NONE)])) (.d (.lst [.str (PySem.Str.ofString "none")])) M = some (.d (.bl false), M) := fun M => by
        have := e2' M
        rw [q3] at this
        simpa using this
      simp [q1, e3, lg, fd, hb2, q2', ecN, eN, q3, optN, oIsN, isNon, mkL, -seqP_nx]
      refine seqP_nx.mpr ?_
      have ha2 : acc.length < big := by unfold big; omega
      simp [celOk, wipeO, wipeD]
      omega
    · have er : readN ws lines.length = (nearZ ws lines.length).map fun x => optN (some x) := by unfold readN; rw [if_neg q3]
      rw [er]
      cases hz : nearZ ws lines.length with
      | none =>
        simp [q1, e3, lg, fd, hb2, q2', ec, e2', q3, optN, oIsN, isNon, mkL, -seqP_nx]
      | some x =>
        simp [q1, e3, lg, fd, hb2, q2', ec, e2', q3, optN, oIsN, isNon, mkL, -seqP_nx]
        refine seqP_nx.mpr ?_
        have ha2 : acc.length < big := by unfold big; omega
        simp [celOk, wipeO, wipeD]
        omega
theorem t_loop {M M0 : DSt} {text : D} {lines : List (List Nat)} (hn : lines.length ≤ 200) : ∀ (ls : List (List Nat)) (k : Nat) (acc : List D), (∀ w ∈ ls, Fine w) → k + ls.length ≤ 1000 → acc.length + ls.length ≤ 1000 →
    Ok (forL (stand [] M0) tStep (enumD k (ls.map (D.str ∘ tx))) [some (.d text), some (.d (strL lines)), some (.c M.length), none, none, none, none] (M ++ [some acc]))
      fun o => match tabZ lines.length k ls with
        | some ds => o = .nx [some (.d text), some (.d (strL lines)), some (.c M.length), none, none, none, none] (M ++ [some (acc ++ ds)])
        | none => ∃ acc', o = .rt (.d .non) (M ++ [some acc'])
  | [], k, acc, _, _, _ => by
    simp [enumD, forL, tabZ, stand, grd_ok]
  | l :: ls, k, acc, h, hk, ha => by
    simp only [List.length_cons] at hk ha
    obtain ⟨o, e, ho⟩ := t_step (M := M) (text := text) (lines := lines) (acc := acc) (k := k) (h l (by simp)) (by omega) (by omega) (by omega)
    rw [if_pos hn] at ho
    simp only [List.map_cons, enumD, Function.comp]
    unfold forL
    rw [grd_ok (by simp [stand]), e]
    unfold tabZ
    cases hz : lineZ lines.length k l with
    | none =>
      rw [hz] at ho
      simp only at ho
      subst ho
      exact ⟨_, rfl, acc, rfl⟩
    | some d =>
      rw [hz] at ho
      simp only at ho
      subst ho
      simp only [Option.bind]
      obtain ⟨o2, e2, ho2⟩ := t_loop hn ls (k + 1) (acc ++ [d]) (fun w hw => h w (by simp [hw])) (by omega) (by simp; omega)
      refine ⟨o2, e2, ?_⟩
      cases ht : tabZ lines.length (k + 1) ls with
      | none =>
        rw [ht] at ho2
        exact ho2
      | some ds =>
        rw [ht] at ho2
        simp only [List.append_assoc, List.singleton_append] at ho2
        exact ho2
theorem table_of_eq {M : DSt} {l : List Nat} (hl : Fine l) : f__law_table_of [.d (.str (tx l))] M = match tableZ l with
    | some ds => some (.c M.length, M ++ [some ds])
    | none => some (.d .non, M) := by
  have hb : l.length ≤ big := by have := hl.2; unfold big; omega
  have f0 : strFine (tx []) = true := fine_low (by simp)
  have hf : strFine (tx l) = true := fin_of hl.1
  have hw : ∀ w ∈ TL.spl [10] 0 [] l, Fine w := fun w hw => ⟨fun c hc => hl.1 c ((spl_mem _ l (Nat.le_refl _) w hw).2 c hc), Nat.le_trans (spl_len hw) hl.2⟩
  have hn := spl_many (c := 10) (l := l)
  have hp := spl_pos (c := 10) (l := l)
  have hl2 := hl.2
  have hnb : (TL.spl [10] 0 [] l).length ≤ big := by unfold big; omega
  unfold tableZ
  by_cases h0 : l = []
  · rw [if_pos h0]
    subst h0
    apply ok_eq
    unfold f__law_table_of
    rw [ok_fn]
    simp [b__law_table_of, startD, lit_emp, f0, mkL, -seqP_nx]
  rw [if_neg h0]
  have loop : Ok (forL (stand [] (M ++ [some []])) tStep (enumD 0 ((TL.spl [10] 0 [] l).map (D.str ∘ tx))) [some (.d (.str (tx l))), some (.d (strL (TL.spl [10] 0 [] l))), some (.c M.length), none, none, none, none] (M ++ [some []]))
      fun o => match (if (TL.spl [10] 0 [] l).length ≤ 200 then tabZ (TL.spl [10] 0 [] l).length 0 (TL.spl [10] 0 [] l) else none) with
        | some ds => o = .nx [some (.d (.str (tx l))), some (.d (strL (TL.spl [10] 0 [] l))), some (.c M.length), none, none, none, none] (M ++ [some ds])
        | none => ∃ acc', o = .rt (.d .non) (M ++ [some acc']) := by
    by_cases q : (TL.spl [10] 0 [] l).length ≤ 200
    · rw [if_pos q]
      have := t_loop (M := M) (M0 := M ++ [some []]) (text := .str (tx l)) q (TL.spl [10] 0 [] l) 0 [] hw (by omega) (by simp; omega)
      simpa using this
    · rw [if_neg q]
      match hsp : TL.spl [10] 0 [] l with
      | [] => rw [hsp] at hp; simp at hp
      | w :: ws =>
        rw [← hsp]
        obtain ⟨o, e, ho⟩ := t_step (M := M) (text := .str (tx l)) (lines := TL.spl [10] 0 [] l) (acc := []) (k := 0) (line := w) (hw w (by rw [hsp]; simp)) (by omega) (by omega) (by simp)
        rw [if_neg q] at ho
        simp only at ho
        subst ho
        have en : enumD 0 ((TL.spl [10] 0 [] l).map (D.str ∘ tx)) = .tup [.int ((0 : Nat) : Int), .str (tx w)] :: enumD 1 (ws.map (D.str ∘ tx)) := by rw [hsp]; rfl
        rw [en]
        unfold forL
        rw [grd_ok (by simp [stand]), e]
        exact ⟨_, rfl, [], rfl⟩
  generalize (if (TL.spl [10] 0 [] l).length ≤ 200 then tabZ (TL.spl [10] 0 [] l).length 0 (TL.spl [10] 0 [] l) else none) = R at loop ⊢
  have main : Ok (f__law_table_of [.d (.str (tx l))] M) fun p => p = match (generalizing := false) R with
    | some ds => (.c M.length, M ++ [some ds])
    | none => (.d .non, M) := by
    unfold f__law_table_of
    rw [ok_fn]
    unfold b__law_table_of
    simp only [startD, List.replicate]
    refine seq_by (fun o => o = .nx [some (.d (.str (tx l))), none, none, none, none, none, none] M) (by simp [lit_emp, f0, hf, h0]) ?_
    rintro o rfl
    refine seqP_nx.mpr ?_
    refine seq_by (fun o => o = .nx [some (.d (.str (tx l))), some (.d (strL (TL.spl [10] 0 [] l))), none, none, none, none, none] M) (by simp [lit_nl, split_tx, hb, strL]) ?_
    rintro o rfl
    refine seqP_nx.mpr ?_
    refine seq_by (fun o => o = .nx [some (.d (.str (tx l))), some (.d (strL (TL.spl [10] 0 [] l))), some (.c M.length), none, none, none, none] (M ++ [some []])) (by simp [mkL]) ?_
    rintro o rfl
    refine seqP_nx.mpr ?_
    have e4 : iEn (aCons (eVar 1) aNil) [some (.d (.str (tx l))), some (.d (strL (TL.spl [10] 0 [] l))), some (.c M.length), none, none, none, none] (M ++ [some []]) = some (enumD 0 ((TL.spl [10] 0 [] l).map (D.str ∘ tx)), [], M ++ [some []]) := by
      simp [iEn, aCons, eVar, aNil, strL, lv, cellsOf, hnb, grd_ok]
      rfl
    refine seq_by (fun o => match (generalizing := false) R with
        | some ds => o = .nx [some (.d (.str (tx l))), some (.d (strL (TL.spl [10] 0 [] l))), some (.c M.length), none, none, none, none] (M ++ [some ds])
        | none => ∃ acc', o = .rt (.d .non) (M ++ [some acc'])) ?_ ?_
    · unfold dFor
      rw [e4]
      exact loop
    · intro o ho
      cases R with
      | none =>
        obtain ⟨acc', rfl⟩ := ho
        simp
      | some ds =>
        subst ho
        refine seqP_nx.mpr ?_
        simp
  obtain ⟨p, e, rfl⟩ := main
  rw [e]
  cases R <;> rfl
noncomputable def rStep : D → DEnv → DSt → Option Out := forStep (.tup [(.name 3), (.name 4)]) (dWipe [3, 4, 5] (dSeq (dAsg (.name 5) (eM (mSplit false) (eVar 4) (aCons (eC (.str " ")) aNil)))
      (dSeq (dExpr (eCall f_must (aCons (e2 oEq (e2 oIx (eVar 5) (eC (.int 0))) (eA oStrI (aCons (eVar 3) aNil))) aNil)))
      (dExpr (eM mAppend (eVar 2) (aCons (eCall f_read_near (aCons (eSl (slU false) (eVar 5) (pSome (eC (.int 1))) pNone) (aCons (eA oLen (aCons (eVar 1) aNil)) aNil))) aNil))))))
noncomputable def rX : D → DX := xForStep (.tup [(.name 3), (.name 4)]) (xSeq (dAsg (.name 5) (eM (mSplit false) (eVar 4) (aCons (eC (.str " ")) aNil))) (xAlt (xCall x_must (aCons (e2 oEq (e2 oIx (eVar 5) (eC (.int 0))) (eA oStrI (aCons (eVar 3) aNil))) aNil)) (xSeq (dExpr (eCall f_must (aCons (e2 oEq (e2 oIx (eVar 5) (eC (.int 0))) (eA oStrI (aCons (eVar 3) aNil))) aNil))) (xApp (eVar 2) (xCall x_read_near (aCons (eSl (slU false) (eVar 5) (pSome (eC (.int 1))) pNone) (aCons (eA oLen (aCons (eVar 1) aNil)) aNil)))))))
theorem r_step {M : DSt} {text : D} {lines : List (List Nat)} {acc : List D} {k : Nat} {line : List Nat} (hl : Fine line) (hk : k ≤ 100000) (hn : lines.length ≤ 100001) (ha : acc.length ≤ 100001) :
    match lineZ lines.length k line with
    | some d => rX (.tup [.int (k : Int), .str (tx line)]) [some (.d text), some (.d (strL lines)), some (.c M.length), none, none, none] (M ++ [some acc]) = none ∧
        rStep (.tup [.int (k : Int), .str (tx line)]) [some (.d text), some (.d (strL lines)), some (.c M.length), none, none, none] (M ++ [some acc]) = some (.nx [some (.d text), some (.d (strL lines)), some (.c M.length), none, none, none] (M ++ [some (acc ++ [d])]))
    | none => ∃ ρ', rX (.tup [.int (k : Int), .str (tx line)]) [some (.d text), some (.d (strL lines)), some (.c M.length), none, none, none] (M ++ [some acc]) = some ("NoText", ρ', M ++ [some acc]) := by
  have hb : line.length ≤ big := by have := hl.2; unfold big; omega
  have hws : ∀ w ∈ TL.spl [32] 0 [] line, Fine w := fun w hw => ⟨fun c hc => hl.1 c ((spl_mem _ line (Nat.le_refl _) w hw).2 c hc), Nat.le_trans (spl_len hw) hl.2⟩
  have hm := spl_many (c := 32) (l := line)
  have hp := spl_pos (c := 32) (l := line)
  have lg : k.log2 < 1920 := by
    by_cases h0 : k = 0
    · subst h0; decide
    · rw [Nat.log2_lt h0]
      exact Nat.lt_of_le_of_lt hk (by decide +kernel)
  have hb2 : lines.length ≤ big := by unfold big; omega
  unfold lineZ
  match hsp : TL.spl [32] 0 [] line with
  | [] => rw [hsp] at hp; simp at hp
  | w :: ws =>
    rw [hsp] at hws hm
    have hw := hws w (by simp)
    have hr : ∀ v ∈ ws, Fine v := fun v hv => hws v (by simp [hv])
    have hwl : ws.length ≤ 100000 := by
      have := hl.2
      simp at hm
      omega
    obtain ⟨x1, x2⟩ := read_near_tot (M := M ++ [some acc]) (many := (lines.length : Int)) hr hwl
    have e3 := fun M => oEq_tx (M := M) (a := w) (b := decZ (k : Int)) hw.1 (dec_low _)
    have ec : ∀ u : D, cutD (u :: ws.map (D.str ∘ tx)) (some 1) none = ws.map (D.str ∘ tx) := fun u => cut1
    have fd : strFine (tx (decZ (k : Int))) = true := dec_fine _
    generalize hE : ([some (.d text), some (.d (strL lines)), some (.c M.length), some (.d (.int (k : Int))), some (.d (.str (tx line))), some (.d (.lst (D.str (tx w) :: ws.map (D.str ∘ tx))))] : DEnv) = env
    have xs : rX (.tup [.int (k : Int), .str (tx line)]) [some (.d text), some (.d (strL lines)), some (.c M.length), none, none, none] (M ++ [some acc]) =
        if w = decZ (k : Int) then (if (readN ws lines.length).isSome = true then none else some ("NoText", env, M ++ [some acc])) else some ("NoText", env, M ++ [some acc]) := by
      unfold rX xForStep
      simp only [Tgt.put, Tgt.puts, List.set, List.length_cons, List.length_nil, if_true]
      rw [xseq_eq (ρ1 := env) (M1 := M ++ [some acc]) (by subst hE; simp [hb, lit_bl, split_tx, hsp, mkL])]
      rw [xguard (b := decide (w = decZ (k : Int))) (c := "NoText") (by subst hE; simp [e3, lg, fd]) xmust_t xmust_f must_eq]
      by_cases q : w = decZ (k : Int)
      · simp only [q, decide_true, if_true]
        rw [xapp_eq (n := M.length) (M1 := M ++ [some acc]) (by subst hE; simp)]
        rw [xcall_eq (vs := [.d (strL ws), .d (.int (lines.length : Int))]) (M1 := M ++ [some acc]) (by subst hE; simp [ec, strL, hb2, mkL]), x1]
        cases readN ws lines.length <;> simp
      · simp [q]
    rw [xs]
    by_cases q : w = decZ (k : Int)
    case neg =>
      simp only [if_neg q]
      exact ⟨_, rfl⟩
    simp only [if_pos q]
    cases hz : readN ws lines.length with
    | none => exact ⟨env, by simp⟩
    | some d =>
      have y := x2 d hz
      refine ⟨by simp, ?_⟩
      have y' : f_read_near [.d (.lst (ws.map (D.str ∘ tx))), .d (.int (lines.length : Int))] (M ++ [some acc]) = some (.d d, M ++ [some acc]) := y
      apply ok_eq
      unfold rStep
      have ha2 : acc.length < 1000000 := by omega
      simp [hb, lit_bl, split_tx, hsp, -seqP_nx, mkL]
      refine seqP_nx.mpr ?_
      simp [q, e3, lg, fd, must_eq, strL, hb2, ec, y', mkL, celOk, wipeO, wipeD, ha2, -seqP_nx]
      refine seqP_nx.mpr ?_
      simp [q, e3, lg, fd, must_eq, strL, hb2, ec, y', mkL, celOk, wipeO, wipeD, ha2]
theorem r_loop {M M0 : DSt} {text : D} {lines : List (List Nat)} (hn : lines.length ≤ 200) : ∀ (ls : List (List Nat)) (k : Nat) (acc : List D), (∀ w ∈ ls, Fine w) → k + ls.length ≤ 1000 → acc.length + ls.length ≤ 1000 →
    match tabZ lines.length k ls with
    | some ds => xForL (stand [] M0) rStep rX (enumD k (ls.map (D.str ∘ tx))) [some (.d text), some (.d (strL lines)), some (.c M.length), none, none, none] (M ++ [some acc]) = none ∧
        forL (stand [] M0) rStep (enumD k (ls.map (D.str ∘ tx))) [some (.d text), some (.d (strL lines)), some (.c M.length), none, none, none] (M ++ [some acc]) = some (.nx [some (.d text), some (.d (strL lines)), some (.c M.length), none, none, none] (M ++ [some (acc ++ ds)]))
    | none => ∃ ρ' acc', xForL (stand [] M0) rStep rX (enumD k (ls.map (D.str ∘ tx))) [some (.d text), some (.d (strL lines)), some (.c M.length), none, none, none] (M ++ [some acc]) = some ("NoText", ρ', M ++ [some acc'])
  | [], k, acc, _, _, _ => by
    simp [enumD, forL, xForL, tabZ, stand, grd_ok]
  | l :: ls, k, acc, h, hk, ha => by
    simp only [List.length_cons] at hk ha
    have st := r_step (M := M) (text := text) (lines := lines) (acc := acc) (k := k) (h l (by simp)) (by omega) (by omega) (by omega)
    simp only [List.map_cons, enumD, Function.comp]
    unfold forL xForL tabZ
    rw [grd_ok (by simp [stand]), grd_ok (by simp [stand])]
    cases hz : lineZ lines.length k l with
    | none =>
      rw [hz] at st
      obtain ⟨ρ', e⟩ := st
      exact ⟨ρ', acc, by rw [e]⟩
    | some d =>
      rw [hz] at st
      obtain ⟨e1, e2⟩ := st
      simp only [Option.bind]
      have ih := r_loop (M := M) (M0 := M0) (text := text) hn ls (k + 1) (acc ++ [d]) (fun w hw => h w (by simp [hw])) (by omega) (by simp; omega)
      rw [e1, e2]
      cases ht : tabZ lines.length (k + 1) ls with
      | none =>
        rw [ht] at ih
        exact ih
      | some ds =>
        rw [ht] at ih
        simp only [List.append_assoc, List.singleton_append] at ih
        exact ih
theorem read_table_tot {M : DSt} {l : List Nat} (hl : Fine l) :
    x_read_table [.d (.str (tx l))] M = (if (tableZ l).isSome = true then none else some ("NoText", M)) ∧ (∀ ds, tableZ l = some ds → f_read_table [.d (.str (tx l))] M = some (.c M.length, M ++ [some ds])) := by
  have hb : l.length ≤ big := by have := hl.2; unfold big; omega
  have f0 : strFine (tx []) = true := fine_low (by simp)
  have hf : strFine (tx l) = true := fin_of hl.1
  have hw : ∀ w ∈ TL.spl [10] 0 [] l, Fine w := fun w hw => ⟨fun c hc => hl.1 c ((spl_mem _ l (Nat.le_refl _) w hw).2 c hc), Nat.le_trans (spl_len hw) hl.2⟩
  have hn := spl_many (c := 10) (l := l)
  have hl2 := hl.2
  have hnb : (TL.spl [10] 0 [] l).length ≤ big := by unfold big; omega
  unfold tableZ
  by_cases h0 : l = []
  · rw [if_pos h0]
    subst h0
    constructor
    · unfold x_read_table
      rw [fnX_eq]
      simp only [startD, bx_read_table]
      rw [xseq_rt (by simp [lit_emp, f0, mkL])]
      simp
    · intro ds hds
      cases hds
      apply ok_eq
      unfold f_read_table
      rw [ok_fn]
      simp [b_read_table, startD, lit_emp, f0, mkL, -seqP_nx]
  rw [if_neg h0]
  have e4 : iEn (aCons (eVar 1) aNil) [some (.d (.str (tx l))), some (.d (strL (TL.spl [10] 0 [] l))), some (.c M.length), none, none, none] (M ++ [some []]) = some (enumD 0 ((TL.spl [10] 0 [] l).map (D.str ∘ tx)), [], M ++ [some []]) := by
    simp [iEn, aCons, eVar, aNil, strL, lv, cellsOf]
    rfl
  by_cases q : (TL.spl [10] 0 [] l).length ≤ 200
  case neg =>
    rw [if_neg q]
    refine ⟨?_, fun ds h => by cases h⟩
    unfold x_read_table
    rw [fnX_eq]
    simp only [startD, List.replicate, bx_read_table]
    rw [xseq_eq (ρ1 := [some (.d (.str (tx l))), none, none, none, none, none]) (M1 := M) (by simp [lit_emp, f0, hf, h0])]
    rw [xseq_eq (ρ1 := [some (.d (.str (tx l))), some (.d (strL (TL.spl [10] 0 [] l))), none, none, none, none]) (M1 := M) (by simp [lit_nl, split_tx, hb, strL])]
    rw [xguard (b := false) (c := "NoText") (by simp [hnb, v_MOST_NUMBERS, strL]; omega) xmust_t xmust_f must_eq]
    simp
  rw [if_pos q]
  have q' : ((TL.spl [10] 0 [] l).length : Int) ≤ 200 := by omega
  have lp := r_loop (M := M) (M0 := M ++ [some []]) (text := .str (tx l)) q (TL.spl [10] 0 [] l) 0 [] hw (by omega) (by simp; omega)
  constructor
  · unfold x_read_table
    rw [fnX_eq]
    simp only [startD, List.replicate, bx_read_table]
    rw [xseq_eq (ρ1 := [some (.d (.str (tx l))), none, none, none, none, none]) (M1 := M) (by simp [lit_emp, f0, hf, h0])]
    rw [xseq_eq (ρ1 := [some (.d (.str (tx l))), some (.d (strL (TL.spl [10] 0 [] l))), none, none, none, none]) (M1 := M) (by simp [lit_nl, split_tx, hb, strL])]
    rw [xguard (b := true) (c := "NoText") (by simp [hnb, v_MOST_NUMBERS, strL, q']) xmust_t xmust_f must_eq]
    simp only [if_true]
    rw [xseq_eq (ρ1 := [some (.d (.str (tx l))), some (.d (strL (TL.spl [10] 0 [] l))), some (.c M.length), none, none, none]) (M1 := M ++ [some []]) (by simp [mkL])]
    unfold xFor
    rw [e4]
    simp only
    show Option.map _ (xForL (stand [] (M ++ [some []])) rStep rX _ _ _) = _
    cases ht : tabZ (TL.spl [10] 0 [] l).length 0 (TL.spl [10] 0 [] l) with
    | none =>
      rw [ht] at lp
      obtain ⟨ρ', acc', e⟩ := lp
      rw [e]
      simp
    | some ds =>
      rw [ht] at lp
      rw [lp.1]
      simp
  · intro ds hds
    rw [hds] at lp
    apply ok_eq
    unfold f_read_table
    rw [ok_fn]
    unfold b_read_table
    simp only [startD, List.replicate]
    refine seq_by (fun o => o = .nx [some (.d (.str (tx l))), none, none, none, none, none] M) (by simp [lit_emp, f0, hf, h0]) ?_
    rintro o rfl
    refine seqP_nx.mpr ?_
    refine seq_by (fun o => o = .nx [some (.d (.str (tx l))), some (.d (strL (TL.spl [10] 0 [] l))), none, none, none, none] M) (by simp [lit_nl, split_tx, hb, strL]) ?_
    rintro o rfl
    refine seqP_nx.mpr ?_
    refine seq_by (fun o => o = .nx [some (.d (.str (tx l))), some (.d (strL (TL.spl [10] 0 [] l))), none, none, none, none] M) (by simp [hnb, v_MOST_NUMBERS, strL, q', must_eq]) ?_
    rintro o rfl
    refine seqP_nx.mpr ?_
    refine seq_by (fun o => o = .nx [some (.d (.str (tx l))), some (.d (strL (TL.spl [10] 0 [] l))), some (.c M.length), none, none, none] (M ++ [some []])) (by simp [mkL]) ?_
    rintro o rfl
    refine seqP_nx.mpr ?_
    refine seq_by (fun o => o = .nx [some (.d (.str (tx l))), some (.d (strL (TL.spl [10] 0 [] l))), some (.c M.length), none, none, none] (M ++ [some ds])) ?_ ?_
    · unfold dFor
      rw [e4]
      exact ⟨_, lp.2, rfl⟩
    · rintro o rfl
      refine seqP_nx.mpr ?_
      simp
def Top (b : Nat) (M : DSt) (n : Nat) (xs : List D) (M1 : DSt) : Prop := M1[n]? = some (some xs) ∧ M1.take b = M ∧ b ≤ n ∧ n < M1.length
theorem addC {b n : Nat} {M M1 : DSt} {xs ys : List D} {P : Dv × DSt → Prop} (h : Top b M n xs M1) (hl : xs.length + ys.length ≤ big) (hP : ∀ n' M2, Top b M n' (xs ++ ys) M2 → P (.c n', M2)) : Ok (oAdd true (.c n) (.d (.lst ys)) M1) P := by
  obtain ⟨h1, h2, h3, h4⟩ := h
  have : oAdd true (.c n) (.d (.lst ys)) M1 = some (.c M1.length, M1 ++ [some (xs ++ ys)]) := by
    simp [oAdd, lw, h1, mkL, grd_ok hl]
  rw [this, ok_some]
  refine hP _ _ ⟨by simp, ?_, by omega, by simp⟩
  rw [List.take_append_of_le_length (by omega)]
  exact h2
theorem Top.put {b n : Nat} {M M1 : DSt} {xs : List D} {x : D} (h : Top b M n xs M1) : Top b M n (xs ++ [x]) (M1.set n (some (xs ++ [x]))) := by
  obtain ⟨h1, h2, h3, h4⟩ := h
  refine ⟨by rw [List.getElem?_set_self h4], ?_, by omega, by simp; omega⟩
  rw [List.take_set_of_le h3]
  exact h2
theorem class_text {M : DSt} : f__law_class [.d (.ty "NoText")] M = some (.d (.str (PySem.Str.ofString "text")), M) := by
  apply ok_eq
  unfold f__law_class
  rw [ok_fn]
  simp [b__law_class, startD, -seqP_nx]
  refine seqP_nx.mpr ?_
  have t0 : Top M.length M M.length [.bl false, .bl false, .bl false] (M ++ [some [.bl false, .bl false, .bl false]]) := ⟨by simp, by simp, by omega, by simp⟩
  generalize M ++ [some [.bl false, .bl false, .bl false]] = M1 at *
  simp [-seqP_nx]
  generalize hm : M.length = m at *
  refine addC t0 (by simp [big]) ?_
  clear t0 M1
  intro n1 M1 t1
  refine seqP_nx.mpr ?_
  simp [-seqP_nx]
  refine addC t1 (by simp [big]) ?_
  clear t1 M1
  intro n2 M1 t2
  refine seqP_nx.mpr ?_
  simp [-seqP_nx]
  refine addC t2 (by simp [big]) ?_
  clear t2 M1
  intro n3 M1 t3
  refine seqP_nx.mpr ?_
  simp [-seqP_nx]
  rw [celOk t3.1]
  refine ⟨by simp, ?_⟩
  refine seqP_nx.mpr ?_
  have t4 := t3.put (x := .bl false)
  clear t3
  generalize M1.set n3 _ = M2 at *
  simp only [List.cons_append, List.nil_append] at t4
  have hc := t4.1
  have ht := t4.2.1
  have hi := fun Q => ok_indexC (y := .bl true) (j := 8) (Q := Q) hc (by simp [D.flat]) (by rfl)
  simp [oIsN, isNon, ht, ↓ok_countC hc, ↓hi, D.flat, D.eqv, atD, ixD, big]
/-! judged -/
def optT : Option (List D) → D
  | some ds => .lst ds
  | none => .non
def lineV (d : D) : Prop := d = .non ∨ ∃ x, d = optN (some x)
theorem lineZ_v {many : Int} {k : Nat} {l : List Nat} {d : D} (h : lineZ many k l = some d) : lineV d := by
  unfold lineZ at h
  split at h
  · cases h
  · split at h
    · unfold readN at h
      split at h
      · cases h; exact .inl rfl
      · cases hz : nearZ _ many with
        | none => rw [hz] at h; cases h
        | some x => rw [hz] at h; cases h; exact .inr ⟨x, rfl⟩
    · cases h
theorem tabZ_v {many : Int} : ∀ {ls : List (List Nat)} {k : Nat} {ds : List D}, tabZ many k ls = some ds → ∀ d ∈ ds, lineV d
  | [], _, ds, h => by cases h; simp
  | l :: ls, k, ds, h => by
    unfold tabZ at h
    cases hz : lineZ many k l with
    | none => rw [hz] at h; cases h
    | some d =>
      rw [hz] at h
      cases ht : tabZ many (k + 1) ls with
      | none => simp [ht] at h
      | some es =>
        simp [ht] at h
        subst h
        intro e he
        rcases List.mem_cons.mp he with rfl | he
        · exact lineZ_v hz
        · exact tabZ_v ht e he
theorem table_v {l : List Nat} {ds : List D} (h : tableZ l = some ds) : ∀ d ∈ ds, lineV d := by
  unfold tableZ at h
  split at h
  · cases h; simp
  · split at h
    · exact tabZ_v h
    · cases h
theorem optT_shp (l : List Nat) : (optT (tableZ l)).shp 9 = true := by
  cases h : tableZ l with
  | none => rfl
  | some ds =>
    simp only [optT, D.shp, List.all_eq_true]
    intro d hd
    rcases table_v h d hd with rfl | ⟨x, rfl⟩
    · rfl
    · simp [optN, frD, D.shp]
theorem optR_shp (l : List Nat) : (optR (rowZ l)).shp 9 = true := by
  cases h : rowZ l with
  | none => rfl
  | some ds => simp [optR, D.shp, List.all_eq_true]
theorem optF_shp (l : List Nat) : (optF (fracZ l)).shp 9 = true := by
  cases h : fracZ l with
  | none => rfl
  | some ds => simp [optF, D.shp]
theorem isN_no {d : D} (h : d ≠ .non) : isNon (.d d) = false := by cases d <;> simp_all [isNon]
theorem j_rest {M : DSt} {text ds due : D} {i : Int} {caught found : D} {e : Option Dv} (hi : oIx (.d ds) (.d (.int i)) M = some (.d due, M)) (hs : due.shp 9 = true)
    (h : (due = .non ∧ caught = .ty "NoText") ∨ (due ≠ .non ∧ caught = .non ∧ found = due)) :
    Ok ((dSeq (dIf (Rw.tAnd (tVal (e1 oIsN (e2 oIx (eVar 1) (eVar 2)))) (tVal (e2 oNe (eCall f__law_class (aCons (eVar 3) aNil)) (eC (.str "text"))))) (dRet (eC (.bl false))) dPass)
      (dIf (Rw.tAnd (tVal (e1 oNotN (e2 oIx (eVar 1) (eVar 2)))) (Rw.tOr (tVal (e1 oNotN (eVar 3))) (tVal (e2 oNe (eVar 4) (e2 oIx (eVar 1) (eVar 2)))))) (dRet (eC (.bl false))) dPass)) [some (.d text), some (.d ds), some (.d (.int i)), some (.d caught), some (.d found), e] M)
      fun o => o = .nx [some (.d text), some (.d ds), some (.d (.int i)), some (.d caught), some (.d found), e] M := by
  have ft : strFine (PySem.Str.ofString "text") = true := by decide +kernel
  rcases h with ⟨rfl, rfl⟩ | ⟨h1, rfl, rfl⟩
  · simp [hi, oIsN, oNotN, isNon, class_text, ft]
  · have hr := eqv_refl 9 _ hs
    have hn := isN_no h1
    have ne : oNe (.d found) (.d found) M = some (.d (.bl false), M) := by
      simp [oNe, dv, hs, hr, grd_ok]
    simp [hi, oIsN, oNotN, hn, -seqP_nx]
    refine seqP_nx.mpr ?_
    simp [hi, oIsN, oNotN, hn, ne, isNon]
noncomputable def X1 : DX := (xIf (tVal (e2 oEq (eVar 2) (eC (.int 0)))) (xCall x_read_fraction (aCons (eVar 0) aNil)) (xIf (tVal (e2 oEq (eVar 2) (eC (.int 1)))) (xCall x_read_row (aCons (eVar 0) aNil)) (xCall x_read_table (aCons (eVar 0) aNil))))
theorem optF_n {o : Option (Int × Int)} (h : o.isSome = true) : optF o ≠ .non := by cases o <;> simp_all [optF]
theorem optF_n' {o : Option (Int × Int)} (h : ¬ o.isSome = true) : optF o = .non := by cases o <;> simp_all [optF]
theorem optR_n {o : Option (List Int)} (h : o.isSome = true) : optR o ≠ .non := by cases o <;> simp_all [optR]
theorem optR_n' {o : Option (List Int)} (h : ¬ o.isSome = true) : optR o = .non := by cases o <;> simp_all [optR]
theorem optT_n {o : Option (List D)} (h : o.isSome = true) : optT o ≠ .non := by cases o <;> simp_all [optT]
theorem optT_n' {o : Option (List D)} (h : ¬ o.isSome = true) : optT o = .non := by cases o <;> simp_all [optT]
theorem judged_eq {M : DSt} {l : List Nat} (hl : Fine l) : f__law_judged [.d (.str (tx l))] M = some (.d (.bl true), M) := by
  have e1 := fun M => fraction_of_eq (M := M) hl.1 hl.2
  have e2 := fun M => row_of_eq (M := M) hl.1 hl.2
  have e3 : ∀ M P, Ok (f__law_table_of [.d (.str (tx l))] M) (fun p => Ok (frz M.length p) P) ↔ P (.d (optT (tableZ l)), M) := fun M P => by
    rw [table_of_eq (M := M) hl]
    cases tableZ l with
    | none => simp [frz, optT]
    | some ds => simp [frz, optT]
  apply ok_eq
  unfold f__law_judged
  rw [ok_fn]
  unfold b__law_judged
  simp only [startD, List.replicate]
  refine seq_by (fun o => o = .nx [some (.d (.str (tx l))), some (.d (.lst [optF (fracZ l), optR (rowZ l), optT (tableZ l)])), none, none, none, none] M) ?_ ?_
  · simp [e1, e2, e3, mkL]
  rintro o rfl
  refine seqP_nx.mpr ?_
  refine seq_by (fun o => o = .nx [some (.d (.str (tx l))), some (.d (.lst [optF (fracZ l), optR (rowZ l), optT (tableZ l)])), none, none, none, none] M) ?_ ?_
  · simp only [ok_for]
    simp
    refine forL_by _ (fun i ρ M' => ρ = [some (.d (.str (tx l))), some (.d (.lst [optF (fracZ l), optR (rowZ l), optT (tableZ l)])), none, none, none, none] ∧ M' = M) ⟨rfl, rfl⟩ ?_ ?_
    · rintro i x ρ M1 hx ⟨rfl, rfl⟩
      refine ⟨by simp [stand], ?_⟩
      obtain ⟨xf, nf⟩ := read_frac (M := M1) hl.1 hl.2
      obtain ⟨xr, nr⟩ := read_row_tot (M := M1) hl.1 hl.2
      obtain ⟨xt, nt⟩ := read_table_tot (M := M1) hl
      have hr3 : rng 0 3 = [.int 0, .int 1, .int 2] := by simp [rng, List.range, List.range.loop]
      match i, hx with
      | 0, hx =>
        rw [hr3] at hx
        simp only [List.getElem?_cons_zero, Option.some.injEq] at hx
        subst hx
        have hj := fun caught found e h => j_rest (M := M1) (text := .str (tx l)) (ds := .lst [optF (fracZ l), optR (rowZ l), optT (tableZ l)]) (due := optF (fracZ l)) (i := 0) (caught := caught) (found := found) (e := e) (by simp [oIx, sv, ixD]) (optF_shp l) h
        simp [-seqP_nx]
        refine seqP_nx.mpr ?_
        simp [-seqP_nx]
        refine seqP_nx.mpr ?_
        by_cases g : (fracZ l).isSome = true
        · have hx : X1 [some (.d (.str (tx l))), some (.d (.lst [optF (fracZ l), optR (rowZ l), optT (tableZ l)])), some (.d (.int 0)), some (.d .non), some (.d .non), none] M1 = none := by
            unfold X1
            rw [xif_eq (b := true) (M1 := M1) (by simp), if_pos rfl, xcall_eq (vs := [.d (.str (tx l))]) (M1 := M1) (by simp), xf]
            simp [g]
          refine seq_by (fun o => o = .nx [some (.d (.str (tx l))), some (.d (.lst [optF (fracZ l), optR (rowZ l), optT (tableZ l)])), some (.d (.int 0)), some (.d .non), some (.d (optF (fracZ l))), none] M1) ?_ ?_
          · refine (ok_tryAs_n hx).mpr ?_
            simp [nf g]
          rintro o rfl
          refine seqP_nx.mpr ?_
          refine (hj _ _ _ (.inr ⟨optF_n g, rfl, rfl⟩)).mono ?_
          rintro o rfl
          simp [turnP, wipeO, wipeD]
        · have hx : X1 [some (.d (.str (tx l))), some (.d (.lst [optF (fracZ l), optR (rowZ l), optT (tableZ l)])), some (.d (.int 0)), some (.d .non), some (.d .non), none] M1 = some ("NoText", [some (.d (.str (tx l))), some (.d (.lst [optF (fracZ l), optR (rowZ l), optT (tableZ l)])), some (.d (.int 0)), some (.d .non), some (.d .non), none], M1) := by
            unfold X1
            rw [xif_eq (b := true) (M1 := M1) (by simp), if_pos rfl, xcall_eq (vs := [.d (.str (tx l))]) (M1 := M1) (by simp), xf]
            simp [g]
          refine seq_by (fun o => o = .nx [some (.d (.str (tx l))), some (.d (.lst [optF (fracZ l), optR (rowZ l), optT (tableZ l)])), some (.d (.int 0)), some (.d (.ty "NoText")), some (.d .non), none] M1) ?_ ?_
          · refine (ok_tryAs_x (k := "NoText") hx (by exact List.mem_singleton.mpr rfl)).mpr ?_
            simp
          rintro o rfl
          refine seqP_nx.mpr ?_
          refine (hj _ _ _ (.inl ⟨optF_n' g, rfl⟩)).mono ?_
          rintro o rfl
          simp [turnP, wipeO, wipeD]
      | 1, hx =>
        rw [hr3] at hx
        simp only [List.getElem?_cons_succ, List.getElem?_cons_zero, Option.some.injEq] at hx
        subst hx
        have hj := fun caught found e h => j_rest (M := M1) (text := .str (tx l)) (ds := .lst [optF (fracZ l), optR (rowZ l), optT (tableZ l)]) (due := optR (rowZ l)) (i := 1) (caught := caught) (found := found) (e := e) (by simp [oIx, sv, ixD]) (optR_shp l) h
        simp [-seqP_nx]
        refine seqP_nx.mpr ?_
        simp [-seqP_nx]
        refine seqP_nx.mpr ?_
        by_cases g : (rowZ l).isSome = true
        · have hx : X1 [some (.d (.str (tx l))), some (.d (.lst [optF (fracZ l), optR (rowZ l), optT (tableZ l)])), some (.d (.int 1)), some (.d .non), some (.d .non), none] M1 = none := by
            unfold X1
            rw [xif_eq (b := false) (M1 := M1) (by simp), if_neg (by simp), xif_eq (b := true) (M1 := M1) (by simp), if_pos rfl, xcall_eq (vs := [.d (.str (tx l))]) (M1 := M1) (by simp), xr]
            simp [g]
          refine seq_by (fun o => o = .nx [some (.d (.str (tx l))), some (.d (.lst [optF (fracZ l), optR (rowZ l), optT (tableZ l)])), some (.d (.int 1)), some (.d .non), some (.d (optR (rowZ l))), none] M1) ?_ ?_
          · refine (ok_tryAs_n hx).mpr ?_
            simp [nr g]
          rintro o rfl
          refine seqP_nx.mpr ?_
          refine (hj _ _ _ (.inr ⟨optR_n g, rfl, rfl⟩)).mono ?_
          rintro o rfl
          simp [turnP, wipeO, wipeD]
        · have hx : X1 [some (.d (.str (tx l))), some (.d (.lst [optF (fracZ l), optR (rowZ l), optT (tableZ l)])), some (.d (.int 1)), some (.d .non), some (.d .non), none] M1 = some ("NoText", [some (.d (.str (tx l))), some (.d (.lst [optF (fracZ l), optR (rowZ l), optT (tableZ l)])), some (.d (.int 1)), some (.d .non), some (.d .non), none], M1) := by
            unfold X1
            rw [xif_eq (b := false) (M1 := M1) (by simp), if_neg (by simp), xif_eq (b := true) (M1 := M1) (by simp), if_pos rfl, xcall_eq (vs := [.d (.str (tx l))]) (M1 := M1) (by simp), xr]
            simp [g]
          refine seq_by (fun o => o = .nx [some (.d (.str (tx l))), some (.d (.lst [optF (fracZ l), optR (rowZ l), optT (tableZ l)])), some (.d (.int 1)), some (.d (.ty "NoText")), some (.d .non), none] M1) ?_ ?_
          · refine (ok_tryAs_x (k := "NoText") hx (by exact List.mem_singleton.mpr rfl)).mpr ?_
            simp
          rintro o rfl
          refine seqP_nx.mpr ?_
          refine (hj _ _ _ (.inl ⟨optR_n' g, rfl⟩)).mono ?_
          rintro o rfl
          simp [turnP, wipeO, wipeD]
      | 2, hx =>
        rw [hr3] at hx
        simp only [List.getElem?_cons_succ, List.getElem?_cons_zero, Option.some.injEq] at hx
        subst hx
        have hj := fun caught found e h => j_rest (M := M1) (text := .str (tx l)) (ds := .lst [optF (fracZ l), optR (rowZ l), optT (tableZ l)]) (due := optT (tableZ l)) (i := 2) (caught := caught) (found := found) (e := e) (by simp [oIx, sv, ixD]) (optT_shp l) h
        simp [-seqP_nx]
        refine seqP_nx.mpr ?_
        simp [-seqP_nx]
        refine seqP_nx.mpr ?_
        by_cases g : (tableZ l).isSome = true
        · have hx : X1 [some (.d (.str (tx l))), some (.d (.lst [optF (fracZ l), optR (rowZ l), optT (tableZ l)])), some (.d (.int 2)), some (.d .non), some (.d .non), none] M1 = none := by
            unfold X1
            rw [xif_eq (b := false) (M1 := M1) (by simp), if_neg (by simp), xif_eq (b := false) (M1 := M1) (by simp), if_neg (by simp), xcall_eq (vs := [.d (.str (tx l))]) (M1 := M1) (by simp), xt]
            simp [g]
          refine seq_by (fun o => o = .nx [some (.d (.str (tx l))), some (.d (.lst [optF (fracZ l), optR (rowZ l), optT (tableZ l)])), some (.d (.int 2)), some (.d .non), some (.d (optT (tableZ l))), none] M1) ?_ ?_
          · refine (ok_tryAs_n hx).mpr ?_
            obtain ⟨ds, hd⟩ := Option.isSome_iff_exists.mp g
            simp [nt ds hd, frz, hd, optT]
          rintro o rfl
          refine seqP_nx.mpr ?_
          refine (hj _ _ _ (.inr ⟨optT_n g, rfl, rfl⟩)).mono ?_
          rintro o rfl
          simp [turnP, wipeO, wipeD]
        · have hx : X1 [some (.d (.str (tx l))), some (.d (.lst [optF (fracZ l), optR (rowZ l), optT (tableZ l)])), some (.d (.int 2)), some (.d .non), some (.d .non), none] M1 = some ("NoText", [some (.d (.str (tx l))), some (.d (.lst [optF (fracZ l), optR (rowZ l), optT (tableZ l)])), some (.d (.int 2)), some (.d .non), some (.d .non), none], M1) := by
            unfold X1
            rw [xif_eq (b := false) (M1 := M1) (by simp), if_neg (by simp), xif_eq (b := false) (M1 := M1) (by simp), if_neg (by simp), xcall_eq (vs := [.d (.str (tx l))]) (M1 := M1) (by simp), xt]
            simp [g]
          refine seq_by (fun o => o = .nx [some (.d (.str (tx l))), some (.d (.lst [optF (fracZ l), optR (rowZ l), optT (tableZ l)])), some (.d (.int 2)), some (.d (.ty "NoText")), some (.d .non), none] M1) ?_ ?_
          · refine (ok_tryAs_x (k := "NoText") hx (by exact List.mem_singleton.mpr rfl)).mpr ?_
            simp
          rintro o rfl
          refine seqP_nx.mpr ?_
          refine (hj _ _ _ (.inl ⟨optT_n' g, rfl⟩)).mono ?_
          rintro o rfl
          simp [turnP, wipeO, wipeD]
      | n + 3, hx =>
        rw [hr3] at hx
        simp at hx
    · rintro ρ M1 ⟨rfl, rfl⟩
      exact ⟨by simp [stand], rfl⟩
  rintro o rfl
  refine seqP_nx.mpr ?_
  simp
theorem fraction_text_eq {M : DSt} {f : Int × Int} (h1 : B2 f.1) (h2 : B2 f.2) : f__law_fraction_text [.d (frD f)] M = some (.d (.str (tx (fracL f.1 f.2))), M) := by
  apply ok_eq
  unfold f__law_fraction_text
  rw [ok_fn]
  have l1 := h1.log
  have l2 := h2.log
  have n1 := h1.len
  have n2 := h2.len
  by_cases q : f.2 = 1
  · simp [b__law_fraction_text, startD, frD, q, l1, fracL]
  · simp [b__law_fraction_text, startD, frD, q, l1, l2, fracL, lit_sl]
    omega
theorem nth_okN {rows : List Nr} {N : Nat} (h : ∀ r ∈ rows, NearOk N r) (i : Nat) : NearOk N (nthN rows i) := by
  unfold nthN
  rw [List.getD_eq_getElem?_getD]
  cases e : rows[i]? with
  | none => intro f q h; simp at h
  | some r => exact h r (List.mem_of_getElem? e)
theorem table_text_eq {M : DSt} {rows : List Nr} {N : Nat} (h : ∀ r ∈ rows, NearOk N r) (hN : N ≤ 200) (h200 : rows.length ≤ 200) : f__law_table_text [.d (.lst (rows.map bestD))] M = some (.d (.str (tx (tabL rows))), M) := by
  apply ok_eq
  unfold f__law_table_text
  rw [ok_fn]
  simp [b__law_table_text, startD, -seqP_nx, mkL]
  refine seqP_nx.mpr ?_
  generalize hE : [some (Dv.d (D.lst (rows.map bestD))), some (Dv.c M.length), none, none] = env
  refine seq_by (fun o => o = .nx env (M ++ [some ((linesL rows).map fun w => D.str (tx w))])) ?_ ?_
  · subst hE
    simp [-seqP_nx, enum_rows]
    refine forL_app (f := fun i : Nat => D.tup [.int (i : Nat), bestD (nthN rows i)]) _ (fun i => D.str (tx (lineL i (nthN rows i)))) (by intro xs; simp [stand]) ?_ (by simp [linesL])
    intro i hi xs hx
    have hi2 := List.mem_range.mp hi
    simp at hx
    have hb := (b9_nat (n := i) (by omega)).b2
    have hn := nth_okN h i
    cases er : nthN rows i with
    | none =>
      have e : decZ ↑i ++ [32, 110, 111, 110, 101] = lineL i none := by simp [lineL, tailW, TL.joinL]
      have := hb.len
      have lg : i.log2 < 1920 := by simpa using hb.log
      simp [bestD, lg, lit_bnone, e, celOk]
      omega
    | some x =>
      obtain ⟨f, q⟩ := x
      obtain ⟨hf, f0, h1, h2, hq⟩ := hn f q er
      have hb2 := (b9_nat (n := q) (by omega)).b2
      have l1 := hb.len
      have l2 := hb2.len
      have l3 := frac_len h1 h2
      have lg : i.log2 < 1920 := by simpa using hb.log
      have lg2 : q.log2 < 1920 := by simpa using hb2.log
      have e : decZ ↑i ++ 32 :: (fracL f.1 f.2 ++ 32 :: decZ ↑q) = lineL i (some (f, q)) := by simp [lineL, tailW, TL.joinL]
      simp [bestD, lg, lg2, fraction_text_eq h1 h2, lit_bl, e, celOk]
      omega
  · rintro o rfl
    refine seqP_nx.mpr ?_
    subst hE
    simp
    rw [join_okC (l := List.range rows.length) (f := fun i => lineL i (nthN rows i)) (n := 2000) (by simp [linesL]) lit_nl (by
      intro i hi
      have := List.mem_range.mp hi
      exact line_len hN (by omega) (nth_okN h i)) (by simp; omega)]
    simp [tabL, linesL]
/-- a text of so many signs -/
def TextO (b n k : Nat) (M : DSt) (p : Dv × DSt) : Prop := ∃ l : List Nat, (∀ c ∈ l, c < 128) ∧ l.length ≤ k ∧ p.1 = .d (.str (tx l)) ∧ Lu b n M p.2
theorem text_ok {M : DSt} {b n : Nat} (h : Pu b n M) (hb : b ≤ 10 ^ 8) : Ok (f__law_text [.c n] M) (TextO (b + 110000) n 12010 M) := by
  unfold f__law_text
  rw [ok_fn]
  simp [b__law_text, startD, -seqP_nx]
  refine (draw_ok h (by omega) (by decide) (by decide)).mono ?_
  rintro ⟨v, M1⟩ ⟨r, hr, hv, hM1⟩
  simp only at hv
  subst hv
  simp [-seqP_nx]
  refine seqP_nx.mpr ?_
  have hl1 : M1.take M.length = M1 := List.take_of_length_le (by rw [hM1.len]; exact Nat.le_refl _)
  by_cases q0 : r = 0
  · subst q0
    simp [-seqP_nx]
    refine (part_ok hM1.1 (by omega)).mono ?_
    rintro ⟨v, M2⟩ ⟨f, hf, f1, f2, hv, hM2⟩
    simp only at hv
    subst hv
    have hl2 : M2.take M.length = M2 := List.take_of_length_le (by rw [hM2.len, hM1.len]; exact Nat.le_refl _)
    have := frac_len f1 f2
    simp [fraction_text_eq f1 f2, hl2]
    exact ⟨fracL f.1 f.2, frac_low _ _, by omega, rfl, (hM1.trans hM2).mono (by omega)⟩
  by_cases q1 : r = 1
  · subst q1
    simp [-seqP_nx]
    refine seqP_nx.mpr ?_
    simp [-seqP_nx]
    refine (row_ok2 (m := 8) hM1.1 (by omega) (by decide)).mono ?_
    rintro ⟨v, M2⟩ ⟨zs, M3, hz, hl, hM3, hp⟩
    cases hp
    have hlen : M3.length = M1.length := hM3.len
    have hl3 : M3.take M.length = M3 := List.take_of_length_le (by rw [hlen]; have := hM1.len; simp only at this; omega)
    simp [frz, hlen]
    refine ⟨by omega, ?_⟩
    refine comp_map (fun z => .str (tx (decZ z))) (by simp [stand]) ?_ ?_
    · intro z hz2
      have := (hz z hz2).b9.b2.log
      simp [this]
    · simp
      rw [join_ok (n := 201) lit_bl (fun z hz2 => (hz z hz2).b9.b2.len) (by simp; omega)]
      simp [hl3]
      refine ⟨rowL zs, row_low, ?_, rfl, (hM1.trans hM3).mono (by omega)⟩
      have := joinL_len (s := [32]) (n := 201) (ps := zs.map decZ) (by
        intro p hp
        obtain ⟨z, hz2, rfl⟩ := List.mem_map.mp hp
        exact (hz z hz2).b9.b2.len)
      simp at this
      unfold rowL
      omega
  · have q0' : ¬ (r : Int) = 0 := by omega
    have q1' : ¬ (r : Int) = 1 := by omega
    simp [-seqP_nx, q0', q0]
    refine seqP_nx.mpr ?_
    simp [-seqP_nx, q1', q1]
    refine seqP_nx.mpr ?_
    simp
    refine (table_ok hM1.1 (by omega)).mono ?_
    rintro ⟨v, M2⟩ ⟨rows, M3, hR, hM3, hp⟩
    cases hp
    have hlen : M3.length = M1.length := hM3.len
    have hl3 : M3.take M.length = M3 := List.take_of_length_le (by rw [hlen]; have := hM1.len; simp only at this; omega)
    have hc : cutD (rows.map bestD) none (some 6) = (rows.take 6).map bestD := by
      simp [cutD, sIxD]
    have h6 : ∀ r ∈ rows.take 6, NearOk rows.length r := fun r hr => hR.1 r (List.mem_of_mem_take hr)
    have tt := fun M => table_text_eq (M := M) h6 hR.2 (by have := hR.2; simp; omega)
    have tt' : ∀ M, f__law_table_text [.d (.lst (List.take 6 (rows.map bestD)))] M = some (.d (.str (tx (tabL (rows.take 6)))), M) := fun M => by
      rw [← List.map_take]
      exact tt M
    simp [frz, hlen, hc, tt', mkL, hl3]
    refine ⟨tabL (rows.take 6), tab_low, ?_, rfl, (hM1.trans hM3).mono (by omega)⟩
    have := joinL_len (s := [10]) (n := 2000) (ps := linesL (rows.take 6)) (by
      intro p hp
      obtain ⟨i, hi, rfl⟩ := List.mem_map.mp hp
      have := List.mem_range.mp hi
      have h2 := hR.2
      simp at this
      exact line_len hR.2 (by omega) (nth_okN h6 i))
    have hll : (linesL (rows.take 6)).length ≤ 6 := by simp [linesL]; omega
    unfold tabL
    simp only [List.length_cons, List.length_nil] at this
    have h3 := Nat.mul_le_mul_right (2000 + (0 + 1)) hll
    omega
def S1 : List Nat := [48, 49, 50, 51, 52, 53, 54, 55, 56, 57, 45, 47, 32, 110, 111, 110, 101, 43, 46, 10, 95]
def S2 : List Nat := [33, 34, 35, 36, 38, 39, 40, 41, 42, 44, 46, 58, 59, 60, 61, 62, 63, 64, 65, 66, 67, 68, 69, 70, 71, 72, 73, 74, 75, 76, 77, 78, 79, 80, 81, 82, 83, 84, 85, 86, 87, 88, 89, 90, 91, 92, 93, 94, 96, 97, 98, 99, 100, 101, 102, 103, 104, 105, 106, 107, 108, 109, 110, 111, 112, 113, 114, 115, 116, 117, 118, 119, 120, 121, 122, 123, 124, 125, 126]
theorem lit_s1 : PySem.Str.ofString "0123456789-/ none+.\n_" = tx S1 := by decide +kernel
theorem lit_s2 : PySem.Str.ofString "!\"#$&'()*,.:;<=>?@ABCDEFGHIJKLMNOPQRSTUVWXYZ[\\]^`abcdefghijklmnopqrstuvwxyz{|}~" = tx S2 := by decide +kernel
theorem s1_low : ∀ c ∈ S1, c < 128 := by decide
theorem s2_low : ∀ c ∈ S2, c < 128 := by decide
theorem sign_at {M : DSt} {S : List Nat} (hS : ∀ c ∈ S, c < 128) (hl : S.length ≤ 1000) {r : Nat} (hr : r < S.length) : ∃ c, c < 128 ∧ oIx (.d (.str (tx S))) (.d (.int (r : Int))) M = some (.d (.str (tx [c])), M) :=
  ⟨S[r], hS _ (List.getElem_mem ..), ix_tx (List.getElem?_eq_getElem hr) (by unfold big; omega)⟩
theorem joinL_sum {c : Nat} : ∀ (ps : List (List Nat)), (TL.joinL [c] ps).length ≤ (ps.map List.length).sum + ps.length
  | [] => by simp [TL.joinL]
  | [a] => by simp [TL.joinL]
  | a :: b :: r => by
    have := joinL_sum (c := c) (b :: r)
    rw [joinL_cons2]
    simp at this ⊢
    omega
theorem sum_take : ∀ (l : List Nat) (k : Nat), (l.take k).sum ≤ l.sum
  | [], k => by simp
  | a :: r, 0 => by simp
  | a :: r, k + 1 => by
    have := sum_take r k
    simp
    omega
theorem sum_drop : ∀ (l : List Nat) (k : Nat), (l.drop k).sum ≤ l.sum
  | [], k => by simp
  | a :: r, 0 => by simp
  | a :: r, k + 1 => by
    have := sum_drop r k
    simp
    omega
theorem sum_td {l : List Nat} {r k : Nat} (h : r ≤ k) : (l.take r).sum + (l.drop k).sum ≤ l.sum := by
  induction l generalizing r k with
  | nil => simp
  | cons a l ih =>
    cases r with
    | zero =>
      have := sum_drop (a :: l) k
      simpa using this
    | succ r =>
      cases k with
      | zero => omega
      | succ k =>
        have := ih (r := r) (k := k) (by omega)
        simp
        omega
noncomputable def bTail : DS :=
    (dSeq (dIf (tVal (e2 oLt (eVar 2) (eC (.int 2)))) (dRet (e2 (oAdd false) (e2 (oAdd false) (eSl (slV false) (eVar 1) pNone (pSome (eVar 3))) (eVar 4)) (eSl (slV false) (eVar 1) (pSome (eVar 3)) pNone))) dPass)
    (dSeq (dIf (tVal (e2 oLt (eVar 2) (eC (.int 4)))) (dRet (e2 (oAdd false) (eSl (slV false) (eVar 1) pNone (pSome (eVar 3))) (eSl (slV false) (eVar 1) (pSome (e2 (oAdd false) (eVar 3) (eC (.int 1)))) pNone))) dPass)
    (dSeq (dIf (tVal (e2 oLt (eVar 2) (eC (.int 6)))) (dRet (e2 (oAdd false) (e2 (oAdd false) (eSl (slV false) (eVar 1) pNone (pSome (eVar 3))) (eVar 4)) (eSl (slV false) (eVar 1) (pSome (e2 (oAdd false) (eVar 3) (eC (.int 1)))) pNone))) dPass)
    (dSeq (dAsg (.name 6) (e2 oIx (eLst false (aCons (eC (.str " ")) (aCons (eC (.str "\n")) (aCons (eC (.str "/")) aNil)))) (e2 oSub (eVar 2) (eC (.int 6)))))
    (dSeq (dAsg (.name 7) (eM (mSplit false) (eVar 1) (aCons (eVar 6) aNil)))
    (dSeq (dAsg (.name 8) (e2 oIx (eVar 7) (eCall f__law_draw (aCons (eVar 0) (aCons (eA oLen (aCons (eVar 7) aNil)) aNil)))))
    (dSeq (dAsg (.name 3) (eCall f__law_draw (aCons (eVar 0) (aCons (eA oLen (aCons (eVar 7) aNil)) aNil))))
    (dSeq (dAsg (.name 9) (eCall f__law_draw (aCons (eVar 0) (aCons (eC (.int 3)) aNil))))
    (dSeq (dAsg (.name 10) (eSl (slU false) (eVar 7) (pSome (e2 (oAdd false) (eVar 3) (eA oInt (aCons (e2 oNe (eVar 9) (eC (.int 1))) aNil)))) pNone))
    (dRet (eM mJoin (eVar 6) (aCons (e2 (oAdd false) (e2 (oAdd false) (eSl (slU false) (eVar 7) pNone (pSome (eVar 3))) (eSl (slU false) (eLst false (aCons (eVar 8) aNil)) pNone (pSome (eA oInt (aCons (e2 oGt (eVar 9) (eC (.int 0))) aNil))))) (eVar 10)) aNil))))))))))))
theorem bent_tail {M M4 : DSt} {b n w a c B : Nat} {l : List Nat} {o5 : Option Dv} (hM : Lu b n M M4) (hb : b ≤ 10 ^ 9 + 50) (hB : b + 50 ≤ B) (hlow : ∀ c ∈ l, c < 128) (hl : l.length ≤ 100000) (hc : c < 128) (hw : w < 9) (ha : a ≤ l.length) :
    seqP bTail (finP M.length (TextO B n (2 * l.length + 2) M)) (.nx [some (.c n), some (.d (.str (tx l))), some (.d (.int w)), some (.d (.int a)), some (.d (.str (tx [c]))), o5, none, none, none, none, none] M4) := by
  have hbig : l.length ≤ big := by unfold big; omega
  have lt : ∀ x ∈ l.take a, x < 128 := fun x hx => hlow x (List.mem_of_mem_take hx)
  have ld : ∀ (k : Nat), ∀ x ∈ l.drop k, x < 128 := fun k x hx => hlow x (List.mem_of_mem_drop hx)
  have c1 : L2.cutS (tx l) none (some (a : Int)) = tx (l.take a) := cut_to l a
  have c2 : L2.cutS (tx l) (some (a : Int)) none = tx (l.drop a) := cut_from l a
  have c3 : L2.cutS (tx l) (some ((a : Int) + 1)) none = tx (l.drop (a + 1)) := cut_from l (a + 1)
  have hlen : M4.take M.length = M4 := List.take_of_length_le (by rw [hM.len]; exact Nat.le_refl _)
  unfold bTail
  refine seqP_nx.mpr ?_
  by_cases w2 : w < 2
  · have w2' : (w : Int) < 2 := by omega
    simp [w2', w2, hbig, c1, c2, -seqP_nx]
    refine ⟨by omega, by omega, l.take a ++ c :: l.drop a, ?_, by simp; omega, rfl, by rw [hlen]; exact hM.mono (by omega)⟩
    intro x hx
    rcases List.mem_append.mp hx with h | h
    · exact lt x h
    · rcases List.mem_cons.mp h with h | h
      · omega
      · exact ld a x h
  have w2' : ¬ (w : Int) < 2 := by omega
  simp [w2', w2, -seqP_nx]
  refine seqP_nx.mpr ?_
  by_cases w4 : w < 4
  · have w4' : (w : Int) < 4 := by omega
    simp [w4', w4, hbig, c1, c3, -seqP_nx]
    refine ⟨by omega, l.take a ++ l.drop (a + 1), ?_, by simp; omega, rfl, by rw [hlen]; exact hM.mono (by omega)⟩
    intro x hx
    rcases List.mem_append.mp hx with h | h
    · exact lt x h
    · exact ld _ x h
  have w4' : ¬ (w : Int) < 4 := by omega
  simp [w4', w4, -seqP_nx]
  refine seqP_nx.mpr ?_
  by_cases w6 : w < 6
  · have w6' : (w : Int) < 6 := by omega
    simp [w6', w6, hbig, c1, c3, -seqP_nx]
    refine ⟨by omega, by omega, l.take a ++ c :: l.drop (a + 1), ?_, by simp; omega, rfl, by rw [hlen]; exact hM.mono (by omega)⟩
    intro x hx
    rcases List.mem_append.mp hx with h | h
    · exact lt x h
    · rcases List.mem_cons.mp h with h | h
      · omega
      · exact ld _ x h
  have w6' : ¬ (w : Int) < 6 := by omega
  simp [w6', w6, -seqP_nx]
  refine seqP_nx.mpr ?_
  obtain ⟨by_, hby, eby⟩ : ∃ s : Nat, s < 128 ∧ atD [.str (PySem.Str.ofString " "), .str (PySem.Str.ofString "\n"), .str (PySem.Str.ofString "/")] ((w : Int) - 6) = some (.str (tx [s])) := by
    rw [lit_bl, lit_nl, lit_sl]
    have : w = 6 ∨ w = 7 ∨ w = 8 := by omega
    rcases this with rfl | rfl | rfl
    · exact ⟨32, by decide, by simp [atD, ixD]⟩
    · exact ⟨10, by decide, by simp [atD, ixD]⟩
    · exact ⟨47, by decide, by simp [atD, ixD]⟩
  simp [mkL, -seqP_nx]
  rw [eby]
  simp only [ok_some]
  refine seqP_nx.mpr ?_
  have hws : ∀ w ∈ TL.spl [by_] 0 [] l, (∀ c ∈ w, c < 128) ∧ w.length ≤ l.length := fun w hw => ⟨fun c hc => hlow c ((spl_mem _ l (Nat.le_refl _) w hw).2 c hc), spl_len hw⟩
  have hn := spl_many (c := by_) (l := l)
  have hp := spl_pos (c := by_) (l := l)
  have hs := spl_sum (c := by_) l.length l (Nat.le_refl _)
  simp [split_tx (show by_ < 256 by omega), hbig, mkL, -seqP_nx]
  refine seqP_nx.mpr ?_
  generalize hW : TL.spl [by_] 0 [] l = W at *
  have hWb : W.length ≤ big := by unfold big; omega
  simp [hWb, -seqP_nx]
  refine (draw_ok hM.1 (by omega) (by omega) (by
    have : (10 : Int) ^ 100 = ((10 ^ 100 : Nat) : Int) := by simp
    have h2 : (10 : Nat) ^ 6 ≤ 10 ^ 100 := Nat.pow_le_pow_right (by decide) (by decide)
    omega)).mono ?_
  rintro ⟨v, M5⟩ ⟨r5, hr5, hv, hM5⟩
  simp only at hv
  subst hv
  have h5 : r5 < W.length := by omega
  have e5 : atD (W.map (D.str ∘ tx)) (r5 : Int) = some (.str (tx W[r5])) := by
    have : (r5 : Int) < ((W.map (D.str ∘ tx)).length : Int) := by simp; omega
    simp [atD, ixD, h5]
  simp [-seqP_nx]
  rw [e5]
  simp only [ok_some]
  refine seqP_nx.mpr ?_
  simp [hWb, -seqP_nx]
  simp only at hM5
  refine (draw_ok hM5.1 (by omega) (by omega) (by
    have : (10 : Int) ^ 100 = ((10 ^ 100 : Nat) : Int) := by simp
    have h2 : (10 : Nat) ^ 6 ≤ 10 ^ 100 := Nat.pow_le_pow_right (by decide) (by decide)
    omega)).mono ?_
  rintro ⟨v, M6⟩ ⟨r6, hr6, hv, hM6⟩
  simp only at hv
  subst hv
  simp [-seqP_nx]
  refine seqP_nx.mpr ?_
  simp [-seqP_nx]
  simp only at hM6
  refine (draw_ok hM6.1 (by omega) (by decide) (by decide)).mono ?_
  rintro ⟨v, M7⟩ ⟨r7, hr7, hv, hM7⟩
  simp only at hv
  subst hv
  simp [-seqP_nx]
  refine seqP_nx.mpr ?_
  simp [-seqP_nx, mkL]
  simp only at hM7
  have hMM : Lu (b + 4 + 4 + 4) n M M7 := ((hM.trans hM5).trans hM6).trans hM7
  have hlen7 : M7.take M.length = M7 := List.take_of_length_le (by rw [hMM.len]; exact Nat.le_refl _)
  have hK : ((r6 : Int) + if (r7 : Int) = 1 then 0 else 1) = ((r6 + if r7 = 1 then 0 else 1 : Nat) : Int) := by
    by_cases q : r7 = 1
    · simp [q]
    · have : ¬ (r7 : Int) = 1 := by omega
      simp [q, this]
  rw [hK, cut_drop]
  generalize hKK : (r6 + if r7 = 1 then 0 else 1) = K
  refine seqP_nx.mpr ?_
  have hcT : cutD (W.map (D.str ∘ tx)) none (some (r6 : Int)) = (W.take r6).map (D.str ∘ tx) := by rw [cut_take, List.map_take]
  simp [hcT, mkL]
  obtain ⟨one, hone, ho1, ho2⟩ : ∃ one : List (List Nat), cutD [D.str (tx W[r5])] none (some (if 0 < r7 then 1 else 0)) = one.map (D.str ∘ tx) ∧ one.length ≤ 1 ∧ ∀ o ∈ one, o ∈ W := by
    by_cases q : 0 < r7
    · exact ⟨[W[r5]], by rw [if_pos q, show (1 : Int) = ((1 : Nat) : Int) from rfl, cut_take]; rfl, by simp, by simp⟩
    · exact ⟨[], by rw [if_neg q, show (0 : Int) = ((0 : Nat) : Int) from rfl, cut_take]; rfl, by simp, by simp⟩
  rw [hone]
  have hrK : r6 ≤ K := by rw [← hKK]; omega
  generalize hL : W.take r6 ++ (one ++ W.drop K) = L
  have hmap : List.take r6 (List.map (D.str ∘ tx) W) ++ (one.map (D.str ∘ tx) ++ List.drop K (List.map (D.str ∘ tx) W)) = L.map fun a => D.str (tx a) := by
    rw [← hL, ← List.map_take, ← List.map_drop]
    simp [Function.comp_def]
  rw [hmap]
  have hmem : ∀ x ∈ L, x ∈ W := fun x hx => by
    rw [← hL] at hx
    rcases List.mem_append.mp hx with h | h
    · exact List.mem_of_mem_take h
    · rcases List.mem_append.mp h with h | h
      · exact ho2 x h
      · exact List.mem_of_mem_drop h
  have hWl := fun x hx => hws x hx
  have hsum : (L.map List.length).sum ≤ (W.map List.length).sum + l.length := by
    have h1 := sum_td (l := W.map List.length) hrK
    have h2 : (one.map List.length).sum ≤ l.length := by
      match one, ho1, ho2 with
      | [], _, _ => simp
      | [o], _, h => simpa using (hWl o (h o (by simp))).2
      | a :: b :: r, h, _ => simp at h
    rw [← hL]
    simp only [List.map_append, List.sum_append, List.map_take, List.map_drop]
    omega
  have hcnt : L.length ≤ W.length + 1 := by
    rw [← hL]
    simp
    omega
  refine ⟨by simp; omega, by simp; omega, ?_⟩
  rw [ok_join (ys := L.map tx) (strsD_map (f := fun a => tx a)) (by
    have e : ((L.map tx).map (fun s : PySem.Str => s.length)).sum = (L.map List.length).sum := by
      rw [List.map_map]
      refine congrArg List.sum (List.map_congr_left fun a _ => ?_)
      simp
    rw [e]
    simp
    omega)]
  rw [join_tx]
  simp [hlen7]
  have hj := joinL_sum (c := by_) L
  refine ⟨TL.joinL [by_] L, ?_, by omega, rfl, hMM.mono (by omega)⟩
  intro x hx
  rcases joinL_mem hx with h | ⟨p, hp, h⟩
  · simp at h; omega
  · exact (hWl p (hmem p hp)).1 x h
theorem bent_ok {M : DSt} {b n : Nat} {l : List Nat} (h : Pu b n M) (hb : b ≤ 10 ^ 9) (hlow : ∀ c ∈ l, c < 128) (hl : l.length ≤ 100000) : Ok (f__law_bent [.c n, .d (.str (tx l))] M) (TextO (b + 100) n (2 * l.length + 2) M) := by
  have hbig : l.length ≤ big := by unfold big; omega
  unfold f__law_bent
  rw [ok_fn]
  simp [b__law_bent, startD, -seqP_nx]
  refine (draw_ok h (by omega) (by decide) (by decide)).mono ?_
  rintro ⟨v, M1⟩ ⟨w, hw, hv, hM1⟩
  simp only at hv
  subst hv
  simp [-seqP_nx]
  refine seqP_nx.mpr ?_
  simp [hbig, -seqP_nx]
  refine (draw_ok hM1.1 (by omega) (by omega) (by
    have : (10 : Int) ^ 100 = ((10 ^ 100 : Nat) : Int) := by simp
    have h2 : (10 : Nat) ^ 6 ≤ 10 ^ 100 := Nat.pow_le_pow_right (by decide) (by decide)
    omega)).mono ?_
  rintro ⟨v, M2⟩ ⟨a, ha, hv, hM2⟩
  simp only at hv
  subst hv
  simp [-seqP_nx]
  refine seqP_nx.mpr ?_
  simp [-seqP_nx]
  refine (draw_ok hM2.1 (by omega) (by decide) (by decide)).mono ?_
  rintro ⟨v, M3⟩ ⟨r3, hr3, hv, hM3⟩
  simp only at hv
  subst hv
  obtain ⟨c1, hc1, e1⟩ := sign_at (M := M3) s1_low (by decide) (show r3 < S1.length by have : S1.length = 21 := rfl; omega)
  simp [lit_s1, e1, -seqP_nx]
  refine seqP_nx.mpr ?_
  simp [-seqP_nx]
  refine (draw_ok hM3.1 (by omega) (by decide) (by decide)).mono ?_
  rintro ⟨v, M4⟩ ⟨r4, hr4, hv, hM4⟩
  simp only at hv
  subst hv
  simp only at hM1 hM2 hM3 hM4
  have hM : Lu (b + 4 + 4 + 4 + 4) n M M4 := ((hM1.trans hM2).trans hM3).trans hM4
  clear hM1 hM2 hM3
  have hl4 : M4.length = M.length := hM.len
  simp only [ok_oEq_i, ok_asB]
  by_cases q : r4 = 3
  · subst q
    simp [lit_s2, -seqP_nx]
    refine seqP_nx.mpr ?_
    have h79 : (tx S2).length = 79 := by rw [tx_len]; rfl
    simp [h79, -seqP_nx]
    refine (draw_ok hM.1 (by omega) (by decide) (by decide)).mono ?_
    rintro ⟨v, M5⟩ ⟨r5, hr5, hv, hM5⟩
    simp only at hv
    subst hv
    obtain ⟨c2, hc2, e2⟩ := sign_at (M := M5) s2_low (by decide) (show r5 < S2.length by have : S2.length = 79 := rfl; omega)
    simp only at hM5
    simp [e2, -seqP_nx]
    exact bent_tail (hM.trans hM5) (by omega) (by omega) hlow hl hc2 (by omega) (by omega)
  · have q' : ¬ (r4 : Int) = 3 := by omega
    simp [q', -seqP_nx]
    exact bent_tail hM (by omega) (by omega) hlow hl hc1 (by omega) (by omega)
def fineB : D → Bool
  | .str s => s.cps.toList.all (fun c => decide (c < 128)) && decide (s.cps.toList.length ≤ 50000)
  | _ => false
theorem fineB_tx {l : List Nat} (h : ∀ c ∈ l, c < 128) (hl : l.length ≤ 50000) : fineB (.str (tx l)) = true := by
  simp [fineB, hl]
  exact h
theorem fineB_str {d : D} (h : fineB d = true) : ∃ l, Fine l ∧ d = .str (tx l) := by
  cases d with
  | str s =>
    simp only [fineB, Bool.and_eq_true, List.all_eq_true, decide_eq_true_eq] at h
    exact ⟨TL.tl s, ⟨h.1, Nat.le_trans h.2 (by decide)⟩, by rw [tx_tl]⟩
  | _ => cases h
def OddI (b : Nat) (M : DSt) (k : Nat) (ρ : DEnv) (M1 : DSt) : Prop := ∃ n xs, ρ = [some (.c n), none, none, none, none, none] ∧ Top b M n xs M1 ∧ xs.all fineB = true ∧ xs.length ≤ k
theorem addF {b n k : Nat} {M M1 : DSt} {xs ys : List D} {P : Dv × DSt → Prop} (h : Top b M n xs M1) (hf : xs.all fineB = true) (hl : xs.length ≤ k) (gf : ys.all fineB = true) (hk : k + ys.length ≤ 300)
    (hP : ∀ n' M2 zs, Top b M n' zs M2 → zs.all fineB = true → zs.length ≤ k + ys.length → P (.c n', M2)) : Ok (oAdd true (.c n) (.d (.lst ys)) M1) P := by
  refine addC h (by unfold big; omega) fun n' M2 t => hP n' M2 (xs ++ ys) t ?_ (by simp; omega)
  rw [List.all_append, hf, gf]
  rfl
theorem appF {b n k : Nat} {M M1 : DSt} {xs : List D} {x : D} {P : Dv × DSt → Prop} (h : Top b M n xs M1) (hf : xs.all fineB = true) (hl : xs.length ≤ k) (gf : fineB x = true) (hk : k ≤ 300)
    (hP : ∀ M2 zs, Top b M n zs M2 → zs.all fineB = true → zs.length ≤ k + 1 → P (.d .non, M2)) : Ok (mAppend (.c n) [.d x] M1) P := by
  simp
  rw [celOk h.1]
  refine ⟨by omega, hP _ (xs ++ [x]) h.put ?_ (by simp; omega)⟩
  rw [List.all_append, hf]
  simp [gf]
theorem odd_ok {M : DSt} : Ok (f__law_odd [] M) fun p => ∃ xs : List D, xs.all fineB = true ∧ xs.length ≤ 200 ∧ p = (.c M.length, M ++ [some xs]) := by
  unfold f__law_odd
  rw [ok_fn]
  simp [b__law_odd, startD, -seqP_nx, mkL]
  refine seqP_nx.mpr ?_
  generalize hx : [D.str (PySem.Str.ofString ""), D.str (PySem.Str.ofString " "), D.str (PySem.Str.ofString "0"), D.str (PySem.Str.ofString "-0"), D.str (PySem.Str.ofString "00"), D.str (PySem.Str.ofString "01"), D.str (PySem.Str.ofString "-1"), D.str (PySem.Str.ofString "+1"), D.str (PySem.Str.ofString "1/2"), D.str (PySem.Str.ofString "2/4"), D.str (PySem.Str.ofString "1/1"), D.str (PySem.Str.ofString "0/2")] = xs
  have f0 : xs.all fineB = true := by subst hx; decide +kernel
  have l0 : xs.length = 12 := by subst hx; rfl
  have t0 : Top M.length M M.length xs (M ++ [some xs]) := ⟨by simp, by simp, by omega, by simp⟩
  clear hx
  generalize M ++ [some xs] = M1 at *
  generalize hm : M.length = m at *
  have t := t0
  have hf := f0
  have hl : xs.length ≤ 12 := by omega
  clear t0 f0 l0
  simp [-seqP_nx]
  refine addF t hf hl (by decide +kernel) (by decide) ?_
  clear t hf hl
  intro n1 M1 xs t hf hl
  refine seqP_nx.mpr ?_
  simp [-seqP_nx]
  refine addF t hf hl (by decide +kernel) (by decide) ?_
  clear t hf hl
  intro n1 M1 xs t hf hl
  refine seqP_nx.mpr ?_
  simp [-seqP_nx]
  refine addF t hf hl (by decide +kernel) (by decide) ?_
  clear t hf hl
  intro n1 M1 xs t hf hl
  refine seqP_nx.mpr ?_
  simp [-seqP_nx]
  refine addF t hf hl (by decide +kernel) (by decide) ?_
  clear t hf hl
  intro n1 M1 xs t hf hl
  refine seqP_nx.mpr ?_
  simp [-seqP_nx]
  refine addF t hf hl (by decide +kernel) (by decide) ?_
  clear t hf hl
  intro n1 M1 xs t hf hl
  refine seqP_nx.mpr ?_
  simp [-seqP_nx]
  refine addF t hf hl (by decide +kernel) (by decide) ?_
  clear t hf hl
  intro n1 M1 xs t hf hl
  refine seqP_nx.mpr ?_
  simp only [List.length_cons, List.length_nil] at hl
  refine seq_by (fun o => ∃ ρ M1, o = .nx ρ M1 ∧ OddI m M 70 ρ M1) ?_ ?_
  · simp [-seqP_nx]
    refine forL_by _ (fun i ρ M1 => OddI m M (45 + 5 * i) ρ M1) ⟨n1, xs, rfl, t, hf, by omega⟩ ?_ ?_
    · rintro i x ρ M2 hx ⟨n2, ys, rfl, t2, hf2, hl2⟩
      refine ⟨by simp [stand], ?_⟩
      have hi : i < 4 := by
        have := (List.getElem?_eq_some_iff.mp hx).1
        simpa using this
      have hx2 : x ∈ [D.int 9, D.int 10, D.int 200, D.int 201] := List.mem_of_getElem? hx
      obtain ⟨k, rfl, k0, k1, k2, g1, g2⟩ : ∃ k : Int, x = .int k ∧ 0 ≤ k ∧ k ≤ 100000 ∧ (PySem.Txt.mul (PySem.Str.ofString "9") k).length ≤ 1000 ∧ ([D.str (PySem.Txt.mul (PySem.Str.ofString "9") k), .str (PySem.Str.ofString "-" ++ PySem.Txt.mul (PySem.Str.ofString "9") k), .str (PySem.Str.ofString "1/" ++ PySem.Txt.mul (PySem.Str.ofString "9") k)].all fineB = true)
          ∧ ([D.str (PySem.Str.ofString "0 " ++ PySem.Txt.mul (PySem.Str.ofString "9") k ++ PySem.Str.ofString " 0"), .str (PySem.Txt.mul (PySem.Str.ofString "9") k ++ PySem.Str.ofString " 1")].all fineB = true) := by
        simp only [List.mem_cons, List.not_mem_nil, or_false] at hx2
        rcases hx2 with rfl | rfl | rfl | rfl
        · exact ⟨9, rfl, by decide, by decide, by decide +kernel, by decide +kernel, by decide +kernel⟩
        · exact ⟨10, rfl, by decide, by decide, by decide +kernel, by decide +kernel, by decide +kernel⟩
        · exact ⟨200, rfl, by decide, by decide, by decide +kernel, by decide +kernel, by decide +kernel⟩
        · exact ⟨201, rfl, by decide, by decide, by decide +kernel, by decide +kernel, by decide +kernel⟩
      have n9 : (PySem.Str.ofString "9").length ≤ 10 := by decide +kernel
      simp [k0, k1, n9, -seqP_nx]
      refine seqP_nx.mpr ?_
      have m1 : (PySem.Str.ofString "-").length ≤ 5 := by decide +kernel
      have m2 : (PySem.Str.ofString "1/").length ≤ 5 := by decide +kernel
      have m3 : (PySem.Str.ofString "0 ").length ≤ 5 := by decide +kernel
      have m4 : (PySem.Str.ofString " 0").length ≤ 5 := by decide +kernel
      have m5 : (PySem.Str.ofString " 1").length ≤ 5 := by decide +kernel
      have m6 : (PySem.Str.ofString "0 " ++ PySem.Txt.mul (PySem.Str.ofString "9") k).length ≤ 2000 := by
        have := (tx_tl (PySem.Str.ofString "0 ")).symm
        rw [← tx_tl (PySem.Str.ofString "0 "), ← tx_tl (PySem.Txt.mul (PySem.Str.ofString "9") k), tx_app, tx_len, List.length_append]
        have e1 : (TL.tl (PySem.Str.ofString "0 ")).length ≤ 5 := m3
        have e2 : (TL.tl (PySem.Txt.mul (PySem.Str.ofString "9") k)).length ≤ 1000 := k2
        omega
      simp [-seqP_nx]
      refine ⟨by omega, by omega, ?_⟩
      refine addF t2 hf2 hl2 g1 (by simp; omega) ?_
      clear t2 hf2 hl2 ys n2 M2
      intro n2 M2 ys t2 hf2 hl2
      refine seqP_nx.mpr ?_
      simp only [List.length_cons, List.length_nil] at hl2
      simp [-seqP_nx]
      refine ⟨by omega, by omega, by omega, ?_⟩
      refine addF t2 hf2 hl2 g2 (by simp; omega) ?_
      clear t2 hf2 hl2 ys n2 M2
      intro n2 M2 ys t2 hf2 hl2
      simp only [List.length_cons, List.length_nil] at hl2
      simp [turnP, wipeO, wipeD]
      exact ⟨n2, ys, rfl, t2, hf2, by omega⟩
    · rintro ρ M2 ⟨n2, ys, rfl, t2, hf2, hl2⟩
      exact ⟨by simp [stand], _, M2, rfl, n2, ys, rfl, t2, hf2, by simp at hl2; omega⟩
  · rintro o ⟨ρ, M2, rfl, n2, ys, rfl, t2, hf2, hl2⟩
    refine seqP_nx.mpr ?_
    have hl3 : ys.length ≤ 70 := by omega
    simp only [ok_pre, wipeD, List.foldl, List.set]
    refine seq_by (fun o => ∃ ρ M1, o = .nx ρ M1 ∧ OddI m M 80 ρ M1) ?_ ?_
    · simp [-seqP_nx]
      refine forL_by _ (fun i ρ M1 => OddI m M (70 + 2 * i) ρ M1) ⟨n2, ys, rfl, t2, hf2, by omega⟩ ?_ ?_
      · clear t2 hf2 hl2 hl3
        rintro i x ρ M2 hx ⟨n2, ys, rfl, t2, hf2, hl2⟩
        refine ⟨by simp [stand], ?_⟩
        have hi : i < 2 := by
          have := (List.getElem?_eq_some_iff.mp hx).1
          simpa using this
        have hx2 : x ∈ [D.int 200, D.int 201] := List.mem_of_getElem? hx
        obtain ⟨k, rfl, k0, k1⟩ : ∃ k : Nat, x = .int (k : Int) ∧ 200 ≤ k ∧ k ≤ 201 := by
          simp only [List.mem_cons, List.not_mem_nil, or_false] at hx2
          rcases hx2 with rfl | rfl
          · exact ⟨200, rfl, by decide, by decide⟩
          · exact ⟨201, rfl, by decide, by decide⟩
        simp [-seqP_nx, mkL]
        refine ⟨⟨by omega, by omega⟩, ?_⟩
        have e7 : List.replicate k (D.str (PySem.Str.ofString "7")) = (List.replicate k 0).map fun a : Nat => D.str (tx ((fun _ => [55]) a)) := by
          rw [show PySem.Str.ofString "7" = tx [55] by decide +kernel]
          simp
        rw [e7, join_ok (n := 1) lit_bl (fun _ _ => by simp) (by simp; omega)]
        have j1 := joinL_len (s := [32]) (n := 1) (ps := (List.replicate k 0).map fun _ => [55]) (by
          intro p hp
          obtain ⟨_, _, rfl⟩ := List.mem_map.mp hp
          simp)
        simp only [List.length_map, List.length_replicate, List.length_cons, List.length_nil] at j1
        refine appF t2 hf2 hl2 (fineB_tx ?_ (by omega)) (by omega) ?_
        · intro c hc
          rcases joinL_mem hc with h | ⟨p, hp, h⟩
          · simp at h; omega
          · obtain ⟨_, _, rfl⟩ := List.mem_map.mp hp
            simp at h
            omega
        clear t2 hf2 hl2
        intro M2 ys t2 hf2 hl2
        refine seqP_nx.mpr ?_
        have lk : ((k : Int) - 1).natAbs.log2 < 1920 := by
          have := (b9_nat (n := k - 1) (by omega)).b2.log
          rw [show (k : Int) - 1 = ((k - 1 : Nat) : Int) by omega]
          exact this
        have l13 : PySem.Str.ofString " 1/3 " = tx [32, 49, 47, 51, 32] := by decide +kernel
        have dl := (b9_nat (n := k - 1) (by omega)).len
        have dk : (k : Int) - 1 = ((k - 1 : Nat) : Int) := by omega
        rw [← dk] at dl
        simp [lk, l13, -seqP_nx]
        refine ⟨by omega, ?_⟩
        refine seqP_nx.mpr ?_
        generalize hlast : (32 :: 49 :: 47 :: 51 :: 32 :: decZ ((k : Int) - 1)) = last
        have ll : last.length ≤ 20 := by rw [← hlast]; simp; omega
        have lw : ∀ c ∈ last, c < 128 := by
          rw [← hlast]
          intro c hc
          simp only [List.mem_cons] at hc
          rcases hc with h | h | h | h | h | h
          · omega
          · omega
          · omega
          · omega
          · omega
          · exact dec_low _ c h
        simp [rng, -seqP_nx]
        refine ⟨by omega, by omega, ?_⟩
        refine comp_map (f := fun j : Nat => D.int (j : Int)) (fun j => .str (tx (decZ (j : Int) ++ last))) (by simp [stand]) ?_ ?_
        · intro j hj
          have hj2 := List.mem_range.mp hj
          have b2 := (b9_nat (n := j) (by omega)).b2
          have lj : j.log2 < 1920 := by simpa using b2.log
          have := (b9_nat (n := j) (by omega)).len
          simp [lj]
          omega
        simp only []
        refine seqP_nx.mpr ?_
        have hj := joinL_len (s := [10]) (n := 40) (ps := (List.range k).map fun j : Nat => decZ (j : Int) ++ last) (by
          intro p hp
          obtain ⟨j, hj, rfl⟩ := List.mem_map.mp hp
          have hj2 := List.mem_range.mp hj
          have := (b9_nat (n := j) (by omega)).len
          simp
          omega)
        simp only [List.length_map, List.length_range, List.length_cons, List.length_nil] at hj
        simp
        rw [join_ok (n := 40) (f := fun j : Nat => decZ (j : Int) ++ last) lit_nl (by
          intro j hj
          have hj2 := List.mem_range.mp hj
          have := (b9_nat (n := j) (by omega)).len
          simp
          omega) (by simp; omega)]
        refine appF t2 hf2 hl2 (fineB_tx ?_ (by omega)) (by omega) ?_
        · intro c hc
          rcases joinL_mem hc with h | ⟨p, hp, h⟩
          · simp at h; omega
          · obtain ⟨j, _, rfl⟩ := List.mem_map.mp hp
            rcases List.mem_append.mp h with h | h
            · exact dec_low _ c h
            · exact lw c h
        intro M3 zs t3 hf3 hl3
        simp [turnP, wipeO, wipeD]
        exact ⟨n2, zs, rfl, t3, hf3, by omega⟩
      · rintro ρ M2 ⟨n2, ys, rfl, t2, hf2, hl2⟩
        exact ⟨by simp [stand], _, M2, rfl, n2, ys, rfl, t2, hf2, by simp at hl2; omega⟩
    · rintro o ⟨ρ, M2, rfl, n2, ys, rfl, t2, hf2, hl2⟩
      refine seqP_nx.mpr ?_
      simp
      rw [ok_finC (by have := t2.2.2.1; omega) t2.1]
      refine ⟨ys, ?_, by omega, ?_⟩
      · simpa using hf2
      · rw [t2.2.1]
theorem fine_of {l : List Nat} {k : Nat} (h1 : ∀ c ∈ l, c < 128) (h2 : l.length ≤ k) (hk : k ≤ 100000) : Fine l := ⟨h1, by omega⟩
theorem odd_comp {M : DSt} {r : Option Dv} : ∀ (xs : List D), xs.all fineB = true → compL (stand [] M) (compStep (.name 3) (Rw.tNot (tVal (eCall f__law_judged (aCons (eVar 3) aNil)))) (eVar 3) [r, none, none, none, none]) xs M = some ([], M)
  | [], _ => by simp [compL, stand, grd_ok]
  | x :: xs, h => by
    rw [List.all_cons, Bool.and_eq_true] at h
    obtain ⟨l, hl, rfl⟩ := fineB_str h.1
    have e := judged_eq (M := M) hl
    have ih := odd_comp (M := M) (r := r) xs h.2
    have hs : compStep (.name 3) (Rw.tNot (tVal (eCall f__law_judged (aCons (eVar 3) aNil)))) (eVar 3) [r, none, none, none, none] (.str (tx l)) M = some (none, M) := by
      obtain ⟨p, h1, rfl⟩ : Ok (Rw.tNot (tVal (eCall f__law_judged (aCons (eVar 3) aNil))) [r, none, none, some (.d (.str (tx l))), none] M) fun p => p = (false, M) := by simp [e]
      simp only [compStep, Tgt.put, List.set, h1]
    unfold compL
    rw [grd_ok (by simp [stand]), hs]
    simp only [ih]
theorem law_true (ns : List Int) (hl : ns.length ≤ 63) (hb : ∀ z ∈ ns, z.natAbs.log2 < 1048577) : ∃ M, f_law [.r (ns.map D.int)] [] = some (.d (.bl true), M) := by
  suffices h : Ok (f_law [.r (ns.map D.int)] []) fun p => p.1 = .d (.bl true) by
    obtain ⟨⟨v, M⟩, e, h⟩ := h
    simp only at h
    subst h
    exact ⟨M, e⟩
  unfold f_law
  rw [ok_fn]
  unfold b_law
  simp only [startD, List.replicate]
  generalize hM0 : ([] : DSt) = M0
  clear hM0
  refine seq_by (fun o => ∃ M1, o = .nx [some (.r (ns.map D.int)), none, none, none, none] M1) ?_ ?_
  · simp [-seqP_nx]
    refine forL_by _ (fun i ρ M1 => ρ = [some (.r (ns.map D.int)), none, none, none, none]) rfl ?_ ?_
    · rintro i x ρ M1 hx rfl
      refine ⟨by simp [stand], ?_⟩
      obtain ⟨hi, rfl⟩ := rng_at.mp hx
      simp [-seqP_nx]
      refine (purse_ok (show i ≤ 1000 by omega)).mono ?_
      rintro _ ⟨x, rfl, a, c, q, rfl, q0, q1⟩
      have hp : Pu 1000000 M1.length (M1 ++ [some [.int a, .int c, .int q]]) := ⟨a, c, q, by simp, q0, by omega⟩
      simp [-seqP_nx]
      refine seqP_nx.mpr ?_
      generalize M1 ++ [some [.int a, .int c, .int q]] = M2 at *
      generalize M1.length = n at *
      simp [-seqP_nx]
      refine (text_ok hp (by omega)).mono ?_
      rintro ⟨v, M3⟩ ⟨l, low, len, hv, hM3⟩
      simp only at hv
      subst hv
      simp only at hM3
      simp [-seqP_nx]
      refine seqP_nx.mpr ?_
      have j1 := fun M => judged_eq (M := M) (fine_of low len (by decide))
      simp [j1, -seqP_nx]
      refine seqP_nx.mpr ?_
      simp only [ok_pre, wipeD, List.foldl, List.set]
      simp [-seqP_nx]
      refine (draw_ok hM3.1 (by omega) (by decide) (by decide)).mono ?_
      rintro ⟨v, M4⟩ ⟨r, hr, hv, hM4⟩
      simp only at hv
      subst hv
      simp only at hM4
      simp [-seqP_nx]
      refine ⟨⟨by omega, by omega⟩, ?_⟩
      refine forL_by _ (fun j ρ M' => ∃ l2 : List Nat, (∀ c ∈ l2, c < 128) ∧ l2.length + 2 ≤ 12012 * 2 ^ j ∧ Pu (1110004 + 100 * j) n M' ∧ ρ = [some (.r (ns.map D.int)), some (.d (.int (i : Int))), some (.c n), some (.d (.str (tx l2))), none]) ⟨l, low, by omega, hM4.1.mono (by omega), rfl⟩ ?_ ?_
      · rintro j x ρ M5 hx ⟨l2, low2, len2, hp2, rfl⟩
        refine ⟨by simp [stand], ?_⟩
        obtain ⟨hj, rfl⟩ := rng_at.mp hx
        have hj3 : j < 3 := by omega
        have hp4 : 2 ^ j ≤ 4 := by
          have : j = 0 ∨ j = 1 ∨ j = 2 := by omega
          rcases this with rfl | rfl | rfl <;> decide
        simp [-seqP_nx]
        refine (bent_ok hp2 (by omega) low2 (by omega)).mono ?_
        rintro ⟨v, M6⟩ ⟨l3, low3, len3, hv, hM6⟩
        simp only at hv
        subst hv
        simp only at hM6
        simp [-seqP_nx]
        refine seqP_nx.mpr ?_
        have len4 : l3.length + 2 ≤ 12012 * 2 ^ (j + 1) := by
          rw [Nat.pow_succ]
          omega
        have hp8 : 2 ^ (j + 1) ≤ 8 := by
          rw [Nat.pow_succ]
          omega
        have j2 := fun M => judged_eq (M := M) (fine_of low3 (show l3.length ≤ 100000 by omega) (by decide))
        simp [j2, turnP, wipeO, wipeD]
        exact ⟨l3, low3, len4, hM6.1.mono (by omega), rfl⟩
      · rintro ρ M5 ⟨l2, low2, len2, hp2, rfl⟩
        exact ⟨by simp [stand], by simp [turnP, wipeO, wipeD]⟩
    · rintro ρ M1 rfl
      exact ⟨by simp [stand], M1, rfl⟩
  · rintro o ⟨M1, rfl⟩
    refine seqP_nx.mpr ?_
    simp only [ok_ret, ok_e2]
    simp [-ok_comp]
    have e2 : Ok (eComp false (iS (eFrz (eCall f__law_odd aNil))) (.name 3) (Rw.tNot (tVal (eCall f__law_judged (aCons (eVar 3) aNil)))) (eVar 3) [3] [some (.r (ns.map D.int)), none, none, none, none] M1) fun p => p = (.d (.lst []), M1) := by
      simp only [ok_comp]
      obtain ⟨p, h1, xs, hf, hl, rfl⟩ := odd_ok (M := M1)
      have hbx : xs.length ≤ big := by unfold big; omega
      have oc := odd_comp (M := M1) (r := some (.r (ns.map D.int))) xs hf
      simp [h1, frz, -ok_compStep]
      refine ⟨by omega, ?_⟩
      refine ⟨_, oc, ?_⟩
      simp
    obtain ⟨p, e3, rfl⟩ := e2
    rw [e3]
    simp
end Lk87
end PMk87
section PZk87
open PySem PySem.W PyProof.Rows
set_option Elab.async false
set_option maxRecDepth 100000 in
set_option maxHeartbeats 0 in
theorem PySem.Challenge.cw_rowecho_k87_texts_of_nothing_holds : PySem.Challenge.rw_rowecho_k87_texts_of_nothing.Holds := by
  w_on; o_law; k_head; (case hw => w_witness2)
  k_fill
  refine L2.walk_ofB (l := PySem.Challenge.rw_rowecho_k87_texts_of_nothing) (n := 63) (k := 7) (x := "_law_script") (CX := fun _ => L2.CX0) (sp := fun w => Rw.spD _ Lk87.f_law 1) rfl (by decide) rfl ⟨rfl, by decide, by decide⟩ (fun w h Y => PySem.W.kIn_of Y) ?F (fun _ _ a ns hl hb _ hS => (Lk87.law_true ns hl (Rw.bits_log hb)).elim fun _ h => Rw.law_sp hS h) (fun _ _ _ _ _ h => h)
  case F =>
    intro w mg fa h KX G hmg
    refine' Lk87.all_mk KX G hmg ?a1 ?l1 ?c1 ?k1 ?a2 ?l2 ?c2 ?k2 ?a3 ?l3 ?c3 ?k3 ?a4 ?l4 ?c4 ?k4 ?a5 ?l5 ?c5 ?k5 ?a6 ?l6 ?c6 ?k6 ?a7 ?l7 ?c7 ?k7 ?a8 ?l8 ?c8 ?k8 ?a9 ?l9 ?c9 ?k9 ?a10 ?l10 ?c10 ?k10 ?a11 ?l11 ?c11 ?k11 ?a12 ?l12 ?c12 ?k12 ?a13 ?l13 ?c13 ?k13 ?a14 ?l14 ?c14 ?k14 ?a15 ?l15 ?c15 ?k15 ?a16 ?l16 ?c16 ?k16 ?a17 ?l17 ?c17 ?k17 ?a18 ?l18 ?c18 ?k18 ?a19 ?l19 ?c19 ?k19 ?a20 ?l20 ?c20 ?k20 ?a21 ?l21 ?c21 ?k21 ?a22 ?l22 ?c22 ?k22 ?a23 ?l23 ?c23 ?k23 ?a24 ?l24 ?c24 ?k24 ?a25 ?l25 ?c25 ?k25 ?a26 ?l26 ?c26 ?k26 ?a27 ?l27 ?c27 ?k27 ?a28 ?l28 ?c28 ?k28 ?a29 ?l29 ?c29 ?k29 ?a30 ?l30 ?c30 ?k30 ?zz_len ?zz_max ?zz_int ?zz_range ?zz_str ?zz_enumerate ?zz_abs ?zz_min ?zz_isinstance ?zz_ValueError ?xa_NoText ?xx_NoText ?xk_NoText ?xb_NoText ?xt_NoText ?xd_NoText ?xa_NoLength ?xx_NoLength ?xk_NoLength ?xb_NoLength ?xt_NoLength ?xd_NoLength ?xa_NoGap ?xx_NoGap ?xk_NoGap ?xb_NoGap ?xt_NoGap ?xd_NoGap ?xa_NoKind ?xx_NoKind ?xk_NoKind ?xb_NoKind ?xt_NoKind ?xd_NoKind ?xa_Full ?xx_Full ?xk_Full ?xb_Full ?xt_Full ?xd_Full ?xa_NoNumber ?xx_NoNumber ?xk_NoNumber ?xb_NoNumber ?xt_NoNumber ?xd_NoNumber ?xa_NoPlace ?xx_NoPlace ?xk_NoPlace ?xb_NoPlace ?xt_NoPlace ?xd_NoPlace ?xa_NoDeed ?xx_NoDeed ?xk_NoDeed ?xb_NoDeed ?xt_NoDeed ?xd_NoDeed ?xa_Empty ?xx_Empty ?xk_Empty ?xb_Empty ?xt_Empty ?xd_Empty ?xa_NoTracks ?xx_NoTracks ?xk_NoTracks ?xb_NoTracks ?xt_NoTracks ?xd_NoTracks ?xa_NoBounds ?xx_NoBounds ?xk_NoBounds ?xb_NoBounds ?xt_NoBounds ?xd_NoBounds ?xa_NoLine ?xx_NoLine ?xk_NoLine ?xb_NoLine ?xt_NoLine ?xd_NoLine ?xa_NoCount ?xx_NoCount ?xk_NoCount ?xb_NoCount ?xt_NoCount ?xd_NoCount ?xa_EchoError ?xx_EchoError ?xk_EchoError ?xb_EchoError ?xt_EchoError ?xd_EchoError ?xs_NoText_EchoError ?xn_ ?xw_ ?xg_NoText ?xh_NoText ?xc_NoText ?xm_NoText ?kn_NoLength ?ki_NoText_NoLength ?kn_NoGap ?ki_NoText_NoGap ?kn_NoKind ?ki_NoText_NoKind ?kn_Full ?ki_NoText_Full ?kn_NoNumber ?ki_NoText_NoNumber ?kn_NoPlace ?ki_NoText_NoPlace ?kn_NoText ?ki_NoText_NoText ?kn_NoDeed ?ki_NoText_NoDeed ?kn_Empty ?ki_NoText_Empty ?kn_NoTracks ?ki_NoText_NoTracks ?kn_NoBounds ?ki_NoText_NoBounds ?kn_NoLine ?ki_NoText_NoLine ?kn_NoCount ?ki_NoText_NoCount ?kn_ValueError ?ki_NoText_ValueError ?ga1_FIGURES ?ga1_MOST_FIGURES ?ga1_MOST_NUMBERS ?ga1_FEW_FIGURES
    (case a1 => k_is)
    (case l1 => k_is)
    (case c1 => k_is)
    (case k1 => k_is)
    (case a2 => k_is)
    (case l2 => k_is)
    (case c2 => k_is)
    (case k2 => k_is)
    (case a3 => k_is)
    (case l3 => k_is)
    (case c3 => k_is)
    (case k3 => k_is)
    (case a4 => k_is)
    (case l4 => k_is)
    (case c4 => k_is)
    (case k4 => k_is)
    (case a5 => k_is)
    (case l5 => k_is)
    (case c5 => k_is)
    (case k5 => k_is)
    (case a6 => k_is)
    (case l6 => k_is)
    (case c6 => k_is)
    (case k6 => k_is)
    (case a7 => k_is)
    (case l7 => k_is)
    (case c7 => k_is)
    (case k7 => k_is)
    (case a8 => k_is)
    (case l8 => k_is)
    (case c8 => k_is)
    (case k8 => k_is)
    (case a9 => k_is)
    (case l9 => k_is)
    (case c9 => k_is)
    (case k9 => k_is)
    (case a10 => k_is)
    (case l10 => k_is)
    (case c10 => k_is)
    (case k10 => k_is)
    (case a11 => k_is)
    (case l11 => k_is)
    (case c11 => k_is)
    (case k11 => k_is)
    (case a12 => k_is)
    (case l12 => k_is)
    (case c12 => k_is)
    (case k12 => k_is)
    (case a13 => k_is)
    (case l13 => k_is)
    (case c13 => k_is)
    (case k13 => k_is)
    (case a14 => k_is)
    (case l14 => k_is)
    (case c14 => k_is)
    (case k14 => k_is)
    (case a15 => k_is)
    (case l15 => k_is)
    (case c15 => k_is)
    (case k15 => k_is)
    (case a16 => k_is)
    (case l16 => k_is)
    (case c16 => k_is)
    (case k16 => k_is)
    (case a17 => k_is)
    (case l17 => k_is)
    (case c17 => k_is)
    (case k17 => k_is)
    (case a18 => k_is)
    (case l18 => k_is)
    (case c18 => k_is)
    (case k18 => k_is)
    (case a19 => k_is)
    (case l19 => k_is)
    (case c19 => k_is)
    (case k19 => k_is)
    (case a20 => k_is)
    (case l20 => k_is)
    (case c20 => k_is)
    (case k20 => k_is)
    (case a21 => k_is)
    (case l21 => k_is)
    (case c21 => k_is)
    (case k21 => k_is)
    (case a22 => k_is)
    (case l22 => k_is)
    (case c22 => k_is)
    (case k22 => k_is)
    (case a23 => k_is)
    (case l23 => k_is)
    (case c23 => k_is)
    (case k23 => k_is)
    (case a24 => k_is)
    (case l24 => k_is)
    (case c24 => k_is)
    (case k24 => k_is)
    (case a25 => k_is)
    (case l25 => k_is)
    (case c25 => k_is)
    (case k25 => k_is)
    (case a26 => k_is)
    (case l26 => k_is)
    (case c26 => k_is)
    (case k26 => k_is)
    (case a27 => k_is)
    (case l27 => k_is)
    (case c27 => k_is)
    (case k27 => k_is)
    (case a28 => k_is)
    (case l28 => k_is)
    (case c28 => k_is)
    (case k28 => k_is)
    (case a29 => k_is)
    (case l29 => k_is)
    (case c29 => k_is)
    (case k29 => k_is)
    (case a30 => k_is)
    (case l30 => k_is)
    (case c30 => k_is)
    (case k30 => k_is)
    (case zz_len => k_is)
    (case zz_max => k_is)
    (case zz_int => k_is)
    (case zz_range => k_is)
    (case zz_str => k_is)
    (case zz_enumerate => k_is)
    (case zz_abs => k_is)
    (case zz_min => k_is)
    (case zz_isinstance => k_is)
    (case zz_ValueError => k_is)
    (case xa_NoText => k_is)
    (case xx_NoText => k_exc)
    (case xk_NoText => k_is)
    (case xb_NoText => k_is)
    (case xt_NoText => k_is)
    (case xd_NoText => k_is)
    (case xa_NoLength => k_is)
    (case xx_NoLength => k_exc)
    (case xk_NoLength => k_is)
    (case xb_NoLength => k_is)
    (case xt_NoLength => k_is)
    (case xd_NoLength => k_is)
    (case xa_NoGap => k_is)
    (case xx_NoGap => k_exc)
    (case xk_NoGap => k_is)
    (case xb_NoGap => k_is)
    (case xt_NoGap => k_is)
    (case xd_NoGap => k_is)
    (case xa_NoKind => k_is)
    (case xx_NoKind => k_exc)
    (case xk_NoKind => k_is)
    (case xb_NoKind => k_is)
    (case xt_NoKind => k_is)
    (case xd_NoKind => k_is)
    (case xa_Full => k_is)
    (case xx_Full => k_exc)
    (case xk_Full => k_is)
    (case xb_Full => k_is)
    (case xt_Full => k_is)
    (case xd_Full => k_is)
    (case xa_NoNumber => k_is)
    (case xx_NoNumber => k_exc)
    (case xk_NoNumber => k_is)
    (case xb_NoNumber => k_is)
    (case xt_NoNumber => k_is)
    (case xd_NoNumber => k_is)
    (case xa_NoPlace => k_is)
    (case xx_NoPlace => k_exc)
    (case xk_NoPlace => k_is)
    (case xb_NoPlace => k_is)
    (case xt_NoPlace => k_is)
    (case xd_NoPlace => k_is)
    (case xa_NoDeed => k_is)
    (case xx_NoDeed => k_exc)
    (case xk_NoDeed => k_is)
    (case xb_NoDeed => k_is)
    (case xt_NoDeed => k_is)
    (case xd_NoDeed => k_is)
    (case xa_Empty => k_is)
    (case xx_Empty => k_exc)
    (case xk_Empty => k_is)
    (case xb_Empty => k_is)
    (case xt_Empty => k_is)
    (case xd_Empty => k_is)
    (case xa_NoTracks => k_is)
    (case xx_NoTracks => k_exc)
    (case xk_NoTracks => k_is)
    (case xb_NoTracks => k_is)
    (case xt_NoTracks => k_is)
    (case xd_NoTracks => k_is)
    (case xa_NoBounds => k_is)
    (case xx_NoBounds => k_exc)
    (case xk_NoBounds => k_is)
    (case xb_NoBounds => k_is)
    (case xt_NoBounds => k_is)
    (case xd_NoBounds => k_is)
    (case xa_NoLine => k_is)
    (case xx_NoLine => k_exc)
    (case xk_NoLine => k_is)
    (case xb_NoLine => k_is)
    (case xt_NoLine => k_is)
    (case xd_NoLine => k_is)
    (case xa_NoCount => k_is)
    (case xx_NoCount => k_exc)
    (case xk_NoCount => k_is)
    (case xb_NoCount => k_is)
    (case xt_NoCount => k_is)
    (case xd_NoCount => k_is)
    (case xa_EchoError => k_is)
    (case xx_EchoError => k_exc)
    (case xk_EchoError => k_is)
    (case xb_EchoError => k_is)
    (case xt_EchoError => k_is)
    (case xd_EchoError => k_is)
    (case xs_NoText_EchoError => first | rfl | k_is)
    (case xn_ => k_is)
    (case xw_ => k_is)
    (case xg_NoText => k_is)
    (case xh_NoText => k_is)
    (case xc_NoText => k_is)
    (case xm_NoText => k_is)
    (case kn_NoLength => first | rfl | k_is)
    (case ki_NoText_NoLength => first | rfl | k_is)
    (case kn_NoGap => first | rfl | k_is)
    (case ki_NoText_NoGap => first | rfl | k_is)
    (case kn_NoKind => first | rfl | k_is)
    (case ki_NoText_NoKind => first | rfl | k_is)
    (case kn_Full => first | rfl | k_is)
    (case ki_NoText_Full => first | rfl | k_is)
    (case kn_NoNumber => first | rfl | k_is)
    (case ki_NoText_NoNumber => first | rfl | k_is)
    (case kn_NoPlace => first | rfl | k_is)
    (case ki_NoText_NoPlace => first | rfl | k_is)
    (case kn_NoText => first | rfl | k_is)
    (case ki_NoText_NoText => first | rfl | k_is)
    (case kn_NoDeed => first | rfl | k_is)
    (case ki_NoText_NoDeed => first | rfl | k_is)
    (case kn_Empty => first | rfl | k_is)
    (case ki_NoText_Empty => first | rfl | k_is)
    (case kn_NoTracks => first | rfl | k_is)
    (case ki_NoText_NoTracks => first | rfl | k_is)
    (case kn_NoBounds => first | rfl | k_is)
    (case ki_NoText_NoBounds => first | rfl | k_is)
    (case kn_NoLine => first | rfl | k_is)
    (case ki_NoText_NoLine => first | rfl | k_is)
    (case kn_NoCount => first | rfl | k_is)
    (case ki_NoText_NoCount => first | rfl | k_is)
    (case kn_ValueError => first | rfl | k_is)
    (case ki_NoText_ValueError => first | rfl | k_is)
    (case ga1_FIGURES => k_is)
    (case ga1_MOST_FIGURES => k_is)
    (case ga1_MOST_NUMBERS => k_is)
    (case ga1_FEW_FIGURES => k_is)
#print axioms PySem.Challenge.cw_rowecho_k87_texts_of_nothing_holds
end PZk87
