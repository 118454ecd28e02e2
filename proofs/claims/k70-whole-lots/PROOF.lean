import PyProof.Rows.All
import Wide.All
import OpenK.AllK
import Wide.FinOn
import PyProof.EqAt
import PyProof.EqKinds
import PyProof.TupleCall
import HandS.ForMost
import HandS.Walk
import HandS.Wide
import HandS.Evl
import HandS.EndBits
import HandS.IsInst
import HandS.SortInts
import HandS.Exc
import HandS.TupAny
import HandS.Style
import HandS.Conv
import HandS.More
import HandS.NoneIn
import HandS.Iter
import HandS.TupLe
import HandS.TryOnly
import HandS.ExcOwn
import HandS.WordsExc
import HandS.ExcIs
import KE.KIsAll
import HandS.ExcValue
import HandS.Text
import HandS.Zip
import HandS.Deep
import HandS.Defaults
import HandS.Remove
import KE.DataMinMax
import KE.SortData
import KE.DataFind
import HandS.Dict
import PySem.Challenge.RW_rowecho_k70_whole_lots
set_option Elab.async false
section PRwSem
set_option autoImplicit false
set_option linter.all false
/-! RwSem: a pure reading of the program: data D, values Dv (data, a cell of the store, the script), an environment by slots, a store of lists that may change. Every construct is a function; nothing of the model is in sight. -/
namespace Rw
open PySem (Str)
noncomputable section

inductive D where
  | non | bl (b : Bool) | int (i : Int) | str (s : Str) | ty (n : String) | lst (xs : List D) | tup (xs : List D)
/-- an attribute of an object that is only read: data, or a cell; or such an object -/
inductive Fv where
  | d (x : D) | c (n : Nat)
inductive Gv where
  | f (x : Fv) | k (c : String) (ns : List Str) (fs : List Fv)
/-- a table that is only read: keys (lists of whole numbers) to data -/
abbrev Tb := List (List Int × D)
/-- a value: data that never changes, a cell of the store, a list that is only read (the script), an object that is only read (its class, the attributes' names, the attributes) -/
inductive Dv where
  | d (x : D) | c (n : Nat) | r (xs : List D) | o (c : String) (ns : List Str) (gs : List Gv) | k (b : Bool) (T : Tb)

abbrev DEnv := List (Option Dv)
abbrev DSt := List (Option (List D))
abbrev DE := DEnv → DSt → Option (Dv × DSt)
abbrev DT := DEnv → DSt → Option (Bool × DSt)
abbrev DA := DEnv → DSt → Option (List Dv × DSt)
abbrev DF := List Dv → DSt → Option (Dv × DSt)
inductive Out where
  | nx (ρ : DEnv) (M : DSt) | rt (v : Dv) (M : DSt) | bk (ρ : DEnv) (M : DSt) | ct (ρ : DEnv) (M : DSt)
abbrev DS := DEnv → DSt → Option Out
abbrev DI := DEnv → DSt → Option (List D × List Nat × DSt)

/-- the bound of lists here -/
abbrev big : Nat := 1000000
/-- only where p holds -/
def grd {α : Type} (p : Prop) (o : Option α) : Option α := open Classical in if p then o else none
theorem grd_ok {α : Type} {p : Prop} {o : Option α} (h : p) : grd p o = o := if_pos h
theorem grd_some {α : Type} {p : Prop} {o : Option α} {x : α} (h : grd p o = some x) : p ∧ o = some x := by
  unfold grd at h
  split at h
  · exact ⟨by assumption, h⟩
  · cases h

/-- the list that a value is -/
def lv (M : DSt) : Dv → Option (List D)
  | .d (.lst xs) => some xs
  | .c n => (M[n]?).join
  | .r xs => some xs
  | _ => none
/-- .. but the script -/
def lw (M : DSt) : Dv → Option (List D)
  | .d (.lst xs) => some xs
  | .c n => (M[n]?).join
  | _ => none
/-- a list or a tuple -/
def sv (M : DSt) : Dv → Option (List D)
  | .d (.tup xs) => some xs
  | v => lv M v
/-- data: a cell is read -/
def dv (M : DSt) : Dv → Option D
  | .d x => some x
  | .c n => ((M[n]?).join).map D.lst
  | .r xs => some (.lst xs)
  | .o _ _ _ => none
  | .k _ _ => none
/-- a new list: a cell (c), or data -/
def mkL (c : Bool) (xs : List D) (M : DSt) : Option (Dv × DSt) := match c with
  | true => some (.c M.length, M ++ [some xs])
  | false => some (.d (.lst xs), M)

/-! ### expressions -/
def eVar (i : Nat) : DE := fun ρ M => match ρ[i]? with
  | some (some x) => some (x, M)
  | _ => none
def eC (x : D) : DE := fun _ M => some (.d x, M)
def e1 (f : Dv → DSt → Option (Dv × DSt)) (a : DE) : DE := fun ρ M => match a ρ M with
  | some (x, M1) => f x M1
  | none => none
def e2 (f : Dv → Dv → DSt → Option (Dv × DSt)) (a b : DE) : DE := fun ρ M => match a ρ M with
  | some (x, M1) => match b ρ M1 with
    | some (y, M2) => f x y M2
    | none => none
  | none => none
def aNil : DA := fun _ M => some ([], M)
def aCons (a : DE) (as : DA) : DA := fun ρ M => match a ρ M with
  | some (x, M1) => match as ρ M1 with
    | some (xs, M2) => some (x :: xs, M2)
    | none => none
  | none => none
def eA (f : List Dv → DSt → Option (Dv × DSt)) (as : DA) : DE := fun ρ M => match as ρ M with
  | some (xs, M1) => f xs M1
  | none => none
/-- a chain of two comparisons -/
def eChain (f g : Dv → Dv → DSt → Option (Dv × DSt)) (a b c : DE) : DE := fun ρ M => match a ρ M with
  | some (x, M1) => match b ρ M1 with
    | some (y, M2) => match f x y M2 with
      | some (.d (.bl true), M3) => match c ρ M3 with
        | some (z, M4) => g y z M4
        | none => none
      | some (.d (.bl false), M3) => some (.d (.bl false), M3)
      | _ => none
    | none => none
  | none => none
def tVal (a : DE) : DT := fun ρ M => match a ρ M with
  | some (.d (.bl b), M1) => some (b, M1)
  | _ => none
def tAnd (a b : DT) : DT := fun ρ M => match a ρ M with
  | some (true, M1) => b ρ M1
  | some (false, M1) => some (false, M1)
  | none => none
def tOr (a b : DT) : DT := fun ρ M => match a ρ M with
  | some (true, M1) => some (true, M1)
  | some (false, M1) => b ρ M1
  | none => none
def tNot (a : DT) : DT := fun ρ M => match a ρ M with
  | some (b, M1) => some (!b, M1)
  | none => none
def tYes : DT := fun _ M => some (true, M)
def eIf (t : DT) (a b : DE) : DE := fun ρ M => match t ρ M with
  | some (true, M1) => a ρ M1
  | some (false, M1) => b ρ M1
  | none => none
def eAnd (a b : DE) : DE := fun ρ M => match a ρ M with
  | some (.d (.bl true), M1) => b ρ M1
  | some (.d (.bl false), M1) => some (.d (.bl false), M1)
  | _ => none
def eOr (a b : DE) : DE := fun ρ M => match a ρ M with
  | some (.d (.bl true), M1) => some (.d (.bl true), M1)
  | some (.d (.bl false), M1) => b ρ M1
  | _ => none
def eNot (a : DE) : DE := fun ρ M => match a ρ M with
  | some (.d (.bl b), M1) => some (.d (.bl (!b)), M1)
  | _ => none
/-- data alone -/
def allD : List Dv → Option (List D)
  | [] => some []
  | .d x :: r => (allD r).map (x :: ·)
  | _ :: _ => none
def eTup (as : DA) : DE := eA (fun vs M => match allD vs with
  | some xs => grd (xs.length ≤ big) (some (.d (.tup xs), M))
  | none => none) as
def eLst (c : Bool) (as : DA) : DE := eA (fun vs M => match allD vs with
  | some xs => grd (xs.length ≤ big) (mkL c xs M)
  | none => none) as
/-- a value that is handed on as data: a list that was just made (the last cell) is no cell any more -/
def frz (b : Nat) : Dv × DSt → Option (Dv × DSt)
  | (.d x, M) => some (.d x, M)
  | (.c n, M) => if n = b ∧ M.length = b + 1 then match (M[n]?).join with
      | some xs => some (.d (.lst xs), M.take b)
      | none => none
    else none
  | _ => none
def eFrz (a : DE) : DE := fun ρ M => match a ρ M with
  | some p => frz M.length p
  | none => none
/-- a cell is data from now on -/
def eFrzC (a : DE) : DE := fun ρ M => match a ρ M with
  | some (.c n, M1) => match (M1[n]?).join with
    | some xs => some (.d (.lst xs), M1.set n none)
    | none => none
  | _ => none

/-! ### operators -/
def iLn (i : Int) : Prop := i.natAbs.log2 < 4000000
def mulOk (i j : Int) : Prop := (-(2 ^ 64) < i ∧ i < 2 ^ 64) ∨ (-(2 ^ 64) < j ∧ j < 2 ^ 64) ∨ (iLn i ∧ iLn j)
def divOk (j : Int) : Prop := j ≠ 0 ∧ j.natAbs.log2 < 9000
def powOk (i j : Int) : Prop := 0 ≤ j ∧ j ≤ 1000000 ∧ i.natAbs < 2 ^ 64
abbrev O1 := Dv → DSt → Option (Dv × DSt)
abbrev O2 := Dv → Dv → DSt → Option (Dv × DSt)
abbrev OA := List Dv → DSt → Option (Dv × DSt)
/-- two intsD -/
def oI (f : Int → Int → D) : O2 := fun x y M => match x, y with
  | .d (.int i), .d (.int j) => some (.d (f i j), M)
  | _, _ => none
def oIg (p : Int → Int → Prop) (f : Int → Int → D) : O2 := fun x y M => match x, y with
  | .d (.int i), .d (.int j) => grd (p i j) (some (.d (f i j), M))
  | _, _ => none
def oAdd (c : Bool) : O2 := fun x y M => match x, y with
  | .d (.int i), .d (.int j) => some (.d (.int (i + j)), M)
  | .d (.str s), .d (.str t) => grd (s.length + t.length ≤ big) (some (.d (.str (s ++ t)), M))
  | .d (.tup xs), .d (.tup ys) => grd (xs ≠ [] ∧ ys ≠ [] ∧ xs.length + ys.length ≤ big) (some (.d (.tup (xs ++ ys)), M))
  | x, y => match lw M x, lw M y with
    | some xs, some ys => grd (xs.length + ys.length ≤ big) (mkL c (xs ++ ys) M)
    | _, _ => none
def oSub : O2 := oI fun i j => .int (i - j)
def oMul : O2 := oIg mulOk fun i j => .int (i * j)
/-- a list so many times -/
def oRep (c : Bool) : O2 := fun x y M => match lw M x, y with
  | some xs, .d (.int k) => grd (-(2 ^ 62) ≤ k ∧ k < 2 ^ 62 ∧ xs.length * k.toNat ≤ big) (mkL c (List.replicate k.toNat xs).flatten M)
  | _, _ => none
/-- ints, or a list so many times -/
def oMulU (c : Bool) : O2 := fun x y M => match x, y with
  | .d (.int i), .d (.int j) => grd (mulOk i j) (some (.d (.int (i * j)), M))
  | x, y => oRep c x y M
def oDiv : O2 := oIg (fun _ j => divOk j) fun i j => .int (i.fdiv j)
def oMod : O2 := oIg (fun _ j => j ≠ 0) fun i j => .int (i.fmod j)
def oPow : O2 := oIg powOk fun i j => .int (i ^ j.toNat)
def oLt : O2 := oI fun i j => .bl (decide (i < j))
def oLe : O2 := oI fun i j => .bl (decide (i ≤ j))
def oGt : O2 := oI fun i j => .bl (decide (j < i))
def oGe : O2 := oI fun i j => .bl (decide (j ≤ i))
def oNeg : O1 := fun x M => match x with
  | .d (.int i) => some (.d (.int (-i)), M)
  | _ => none
/-! == of data -/
mutual
def D.eqv : D → D → Bool
  | .non, .non => true
  | .bl a, .bl b => a == b
  | .bl a, .int j => (if a then 1 else 0) == j
  | .int i, .bl b => i == (if b then 1 else 0)
  | .int i, .int j => i == j
  | .str x, .str y => x == y
  | .lst xs, .lst ys => D.eqvs xs ys
  | .tup xs, .tup ys => D.eqvs xs ys
  | _, _ => false
def D.eqvs : List D → List D → Bool
  | [], [] => true
  | x :: xs, y :: ys => D.eqv x y && D.eqvs xs ys
  | [], _ :: _ => false
  | _ :: _, [] => false
end
/-- flat to the depth n, no classes in it, texts of signs that are such -/
def strFine (s : Str) : Bool := s.cps.all (· < 0x110000)
def D.shp : Nat → D → Bool
  | _, .non => true
  | _, .bl _ => true
  | _, .int _ => true
  | _, .str s => strFine s
  | _, .ty _ => false
  | 0, .lst _ => false
  | 0, .tup _ => false
  | n + 1, .lst xs => xs.all (D.shp n)
  | n + 1, .tup xs => xs.all (D.shp n)
def oEq : O2 := fun x y M => match dv M x, dv M y with
  | some a, some b => grd (a.shp 9 = true ∧ b.shp 9 = true) (some (.d (.bl (D.eqv a b)), M))
  | _, _ => none
def oNe : O2 := fun x y M => match dv M x, dv M y with
  | some a, some b => grd (a.shp 9 = true ∧ b.shp 9 = true) (some (.d (.bl (!D.eqv a b)), M))
  | _, _ => none
def isNon : Dv → Bool
  | .d .non => true
  | _ => false
def oIsN : O1 := fun x M => some (.d (.bl (isNon x)), M)
def oNotN : O1 := fun x M => some (.d (.bl (!isNon x)), M)
/-- flat things: None, truths, intsD, texts -/
def D.flat : D → Bool
  | .non => true
  | .bl _ => true
  | .int _ => true
  | .str _ => true
  | _ => false
def oIn (neg : Bool) : O2 := fun x y M => match x, sv M y with
  | .d a, some ys => grd (a.flat = true ∧ ys.all D.flat = true) (some (.d (.bl (xor neg (ys.any fun b => D.eqv b a))), M))
  | _, _ => none
/-- the place that an int means -/
def ixD (n : Nat) (i : Int) : Option Nat := if 0 ≤ i then (if i < n then some i.toNat else none) else if -(n : Int) ≤ i then some (i + n).toNat else none
def oIx : O2 := fun x y M => match sv M x, y with
  | some xs, .d (.int i) => match ixD xs.length i with
    | some k => match xs[k]? with
      | some z => some (.d z, M)
      | none => none
    | none => none
  | none, .d (.int i) => match x with
    | .d (.str s) => grd (s.length ≤ big) (match ixD s.cps.toList.length i with
      | some k => match s.cps.toList[k]? with
        | some z => some (.d (.str ⟨#[z]⟩), M)
        | none => none
      | none => none)
    | _ => none
  | _, _ => none
def sIxD (n d : Nat) : Option Int → Nat
  | none => d
  | some v => if v < 0 then (v + (n : Int)).toNat else min v.toNat n
def cutD (xs : List D) (lo hi : Option Int) : List D := (xs.drop (sIxD xs.length 0 lo)).take (sIxD xs.length xs.length hi - sIxD xs.length 0 lo)
abbrev DO := DEnv → DSt → Option (Option Int × DSt)
def pNone : DO := fun _ M => some (none, M)
def pSome (a : DE) : DO := fun ρ M => match a ρ M with
  | some (.d (.int i), M1) => some (some i, M1)
  | _ => none
def eSl (f : Dv → Option Int → Option Int → DSt → Option (Dv × DSt)) (a : DE) (lo hi : DO) : DE := fun ρ M => match a ρ M with
  | some (x, M1) => match lo ρ M1 with
    | some (l, M2) => match hi ρ M2 with
      | some (h, M3) => f x l h M3
      | none => none
    | none => none
  | none => none
def slL (c : Bool) : Dv → Option Int → Option Int → DSt → Option (Dv × DSt) := fun x l h M => match lv M x with
  | some xs => mkL c (cutD xs l h) M
  | none => none
def slT : Dv → Option Int → Option Int → DSt → Option (Dv × DSt) := fun x l h M => match x with
  | .d (.tup xs) => some (.d (.tup (cutD xs l h)), M)
  | _ => none

/-- a slice of a list or a tuple -/
def slU (c : Bool) : Dv → Option Int → Option Int → DSt → Option (Dv × DSt) := fun x l h M => match x with
  | .d (.tup xs) => some (.d (.tup (cutD xs l h)), M)
  | x => slL c x l h M

/-! ### built-ins -/
def intsD : List D → Option (List Int)
  | [] => some []
  | .int i :: r => (intsD r).map (i :: ·)
  | _ :: _ => none
def blsD : List D → Option (List Bool)
  | [] => some []
  | .bl b :: r => (blsD r).map (b :: ·)
  | _ :: _ => none
def oAbs : OA := fun vs M => match vs with
  | [.d (.int i)] => some (.d (.int (if i < 0 then -i else i)), M)
  | _ => none
def oLen : OA := fun vs M => match vs with
  | [.d (.str s)] => grd (s.length ≤ big) (some (.d (.int s.length), M))
  | [v] => match sv M v with
    | some xs => some (.d (.int xs.length), M)
    | none => none
  | _ => none
def oMax2 : OA := fun vs M => match vs with
  | [.d (.int i), .d (.int j)] => some (.d (.int (if j > i then j else i)), M)
  | _ => none
def oMin2 : OA := fun vs M => match vs with
  | [.d (.int i), .d (.int j)] => some (.d (.int (if j < i then j else i)), M)
  | _ => none
def oSum : OA := fun vs M => match vs with
  | [v] => match lv M v with
    | some xs => match intsD xs with
      | some ns => some (.d (.int ns.sum), M)
      | none => none
    | none => none
  | _ => none
def oAll : OA := fun vs M => match vs with
  | [v] => match lv M v with
    | some xs => match blsD xs with
      | some bs => some (.d (.bl (bs.all id)), M)
      | none => none
    | none => none
  | _ => none
def oAny : OA := fun vs M => match vs with
  | [v] => match lv M v with
    | some xs => match blsD xs with
      | some bs => some (.d (.bl (bs.any id)), M)
      | none => none
    | none => none
  | _ => none
def oInt : OA := fun vs M => match vs with
  | [.d (.int i)] => some (.d (.int i), M)
  | [.d (.bl b)] => some (.d (.int (if b then 1 else 0)), M)
  | _ => none
/-- list(xs) -/
def oList (c : Bool) : OA := fun vs M => match vs with
  | [v] => match sv M v with
    | some xs => mkL c xs M
    | none => none
  | _ => none
/-- intsD from a on -/
def rng (a : Int) (n : Nat) : List D := (List.range n).map fun (k : Nat) => .int (a + (k : Int))
/-- list(range(n)), list(range(a, b)) -/
def oListR1 (c : Bool) : OA := fun vs M => match vs with
  | [.d (.int j)] => grd (-1000000 ≤ j ∧ j ≤ 1000000) (mkL c (rng 0 j.toNat) M)
  | _ => none
def oListR2 (c : Bool) : OA := fun vs M => match vs with
  | [.d (.int i), .d (.int j)] => grd (-1000000 ≤ i ∧ i ≤ 1000000 ∧ -1000000 ≤ j ∧ j ≤ 1000000) (mkL c (rng i (j - i).toNat) M)
  | _ => none
/-- the built-in class that a value has -/
def D.tyN : D → String
  | .non => "NoneType"
  | .bl _ => "bool"
  | .int _ => "int"
  | .str _ => "str"
  | .lst _ => "list"
  | .tup _ => "tuple"
  | .ty _ => "type"
def subTy (a b : String) : Bool := a == b || (a == "bool" && b == "int")
/-- isinstance(x, T), T a built-in class -/
def oIsi (T : String) : OA := fun vs M => match vs with
  | [v, .d (.ty n)] => if n = T then match dv M v with
    | some (.ty _) => none
    | some x => some (.d (.bl (subTy x.tyN T)), M)
    | none => none
    else none
  | _ => none
/-- sorted(xs) of ints -/
def oSorted (c : Bool) : OA := fun vs M => match vs with
  | [v] => match lv M v with
    | some xs => match intsD xs with
      | some ns => mkL c ((ns.mergeSort (fun a b => decide (a ≤ b))).map D.int) M
      | none => none
    | none => none
  | _ => none
/-- xs[::-1] -/
def oRev (c : Bool) : O1 := fun v M => match lv M v with
  | some xs => mkL c xs.reverse M
  | none => none

/-! ### methods of lists -/
def setC (M : DSt) (n : Nat) (xs : List D) : DSt := M.set n (some xs)
def mAppend : Dv → List Dv → DSt → Option (Dv × DSt) := fun v as M => match v, as with
  | .c n, [.d x] => match (M[n]?).join with
    | some xs => grd (xs.length < big) (some (.d .non, setC M n (xs ++ [x])))
    | none => none
  | _, _ => none
def mPop : Dv → List Dv → DSt → Option (Dv × DSt) := fun v as M => match v, as with
  | .c n, [] => match (M[n]?).join with
    | some xs => match xs[xs.length - 1]? with
      | some y => some (.d y, setC M n xs.dropLast)
      | none => none
    | none => none
  | .c n, [.d (.int i)] => match (M[n]?).join with
    | some xs => match ixD xs.length i with
      | some k => match xs[k]? with
        | some y => grd (-(2 ^ 62) ≤ i ∧ i < 2 ^ 62) (some (.d y, setC M n (xs.eraseIdx k)))
        | none => none
      | none => none
    | none => none
  | _, _ => none
def mClear : Dv → List Dv → DSt → Option (Dv × DSt) := fun v as M => match v, as with
  | .c n, [] => match (M[n]?).join with
    | some _ => some (.d .non, setC M n [])
    | none => none
  | _, _ => none
def mInsert : Dv → List Dv → DSt → Option (Dv × DSt) := fun v as M => match v, as with
  | .c n, [.d (.int i), .d y] => match (M[n]?).join with
    | some xs => grd (xs.length < big ∧ 0 ≤ i ∧ i < 2 ^ 62) (some (.d .non, setC M n (xs.take i.toNat ++ [y] ++ xs.drop i.toNat)))
    | none => none
  | _, _ => none
def eM (f : Dv → List Dv → DSt → Option (Dv × DSt)) (a : DE) (as : DA) : DE := fun ρ M => match a ρ M with
  | some (x, M1) => match as ρ M1 with
    | some (xs, M2) => f x xs M2
    | none => none
  | none => none

/-! ### targets -/
inductive Tgt where
  | name (i : Nat) | tup (ts : List Tgt)
mutual
def Tgt.put : Tgt → Dv → DEnv → Option DEnv
  | .name i, v, ρ => some (ρ.set i (some v))
  | .tup ts, .d (.tup xs), ρ => if xs.length = ts.length then Tgt.puts ts xs ρ else none
  | .tup ts, .d (.lst xs), ρ => if xs.length = ts.length then Tgt.puts ts xs ρ else none
  | .tup _, _, _ => none
def Tgt.puts : List Tgt → List D → DEnv → Option DEnv
  | [], [], ρ => some ρ
  | t :: ts, x :: xs, ρ => match t.put (.d x) ρ with
    | some ρ1 => Tgt.puts ts xs ρ1
    | none => none
  | _, _, _ => none
end
mutual
def Tgt.slots : Tgt → List Nat
  | .name i => [i]
  | .tup ts => Tgt.slotss ts
def Tgt.slotss : List Tgt → List Nat
  | [] => []
  | t :: ts => t.slots ++ Tgt.slotss ts
end
/-- slots forgotten -/
def wipeD (ρ : DEnv) : List Nat → DEnv
  | [] => ρ
  | v :: vs => (wipeD ρ vs).set v none

/-! ### what is walked -/
/-- the walked cells stand as they stood -/
def stand (src : List Nat) (M M' : DSt) : Prop := ∀ n ∈ src, M'[n]? = M[n]?
def cellsOf : Dv → List Nat
  | .c n => [n]
  | _ => []
def iL (a : DE) : DI := fun ρ M => match a ρ M with
  | some (x, M1) => match lv M1 x with
    | some xs => some (xs, cellsOf x, M1)
    | none => none
  | none => none
def iT (a : DE) : DI := fun ρ M => match a ρ M with
  | some (.d (.tup xs), M1) => some (xs, [], M1)
  | _ => none
/-- a list or a tuple -/
def iS (a : DE) : DI := fun ρ M => match a ρ M with
  | some (.d (.tup xs), M1) => some (xs, [], M1)
  | some (x, M1) => match lv M1 x with
    | some xs => some (xs, cellsOf x, M1)
    | none => none
  | none => none
def iR1 (a : DA) : DI := fun ρ M => match a ρ M with
  | some ([.d (.int j)], M1) => grd (-(2 ^ 62) ≤ j ∧ j < 2 ^ 62) (some (rng 0 j.toNat, [], M1))
  | _ => none
def iR2 (a : DA) : DI := fun ρ M => match a ρ M with
  | some ([.d (.int i), .d (.int j)], M1) => grd (-(2 ^ 62) ≤ i ∧ i < 2 ^ 62 ∧ -(2 ^ 62) ≤ j ∧ j < 2 ^ 62) (some (rng i (j - i).toNat, [], M1))
  | _ => none
def enumD (k : Nat) : List D → List D
  | [] => []
  | x :: xs => .tup [.int (k : Int), x] :: enumD (k + 1) xs
def iEn (a : DA) : DI := fun ρ M => match a ρ M with
  | some ([x], M1) => match lv M1 x with
    | some xs => some (enumD 0 xs, cellsOf x, M1)
    | none => none
  | _ => none
def zipD : List D → List D → List D
  | x :: xs, y :: ys => .tup [x, y] :: zipD xs ys
  | _, _ => []
def iZ (a : DA) : DI := fun ρ M => match a ρ M with
  | some ([x, y], M1) => match lv M1 x, lv M1 y with
    | some xs, some ys => some (zipD xs ys, cellsOf x ++ cellsOf y, M1)
    | _, _ => none
  | _ => none

/-! ### comprehensions -/
/-- chk: the walked cells stand as they stood, ahead of every turn and at the end -/
def compL {α : Type} (chk : DSt → Prop) (step : α → DSt → Option (Option D × DSt)) : List α → DSt → Option (List D × DSt)
  | [], M => grd (chk M) (some ([], M))
  | x :: xs, M => grd (chk M) (match step x M with
    | some (o, M1) => match compL chk step xs M1 with
      | some (ys, M2) => match o with
        | some y => some (y :: ys, M2)
        | none => some (ys, M2)
      | none => none
    | none => none)
def compStep (tg : Tgt) (t : DT) (el : DE) (ρ : DEnv) (x : D) (M : DSt) : Option (Option D × DSt) :=
  match tg.put (.d x) ρ with
    | some ρ1 => match t ρ1 M with
      | some (true, M1) => match el ρ1 M1 with
        | some (.d y, M2) => some (some y, M2)
        | _ => none
      | some (false, M1) => some (none, M1)
      | none => none
    | none => none
def eComp (c : Bool) (it : DI) (tg : Tgt) (t : DT) (el : DE) (own : List Nat) : DE := fun ρ M => match it ρ M with
  | some (xs, src, M1) => grd (xs.length ≤ big) (match compL (stand src M1) (compStep tg t el (wipeD ρ own)) xs M1 with
    | some (ys, M2) => mkL c ys M2
    | none => none)
  | none => none

/-! ### statements -/
def dPass : DS := fun ρ M => some (.nx ρ M)
def dSeq (s t : DS) : DS := fun ρ M => match s ρ M with
  | some (.nx ρ1 M1) => t ρ1 M1
  | o => o
def dAsg (tg : Tgt) (a : DE) : DS := fun ρ M => match a ρ M with
  | some (v, M1) => match tg.put v ρ with
    | some ρ1 => some (.nx ρ1 M1)
    | none => none
  | none => none
/-- a, b = e, f -/
def dPar (i j : Nat) (a b : DE) : DS := fun ρ M => match a ρ M with
  | some (x, M1) => match b ρ M1 with
    | some (y, M2) => some (.nx ((ρ.set i (some x)).set j (some y)) M2)
    | none => none
  | none => none
def dAug (i : Nat) (f : O2) (a : DE) : DS := fun ρ M => match ρ[i]? with
  | some (some x) => match a ρ M with
    | some (y, M1) => match f x y M1 with
      | some (z, M2) => some (.nx (ρ.set i (some z)) M2)
      | none => none
    | none => none
  | _ => none
/-- o[i] = e -/
def dPut (o i e : DE) : DS := fun ρ M => match e ρ M with
  | some (.d x, M1) => match o ρ M1 with
    | some (.c n, M2) => match i ρ M2 with
      | some (.d (.int k), M3) => match (M3[n]?).join with
        | some xs => match ixD xs.length k with
          | some j => some (.nx ρ (setC M3 n (xs.set j x)))
          | none => none
        | none => none
      | _ => none
    | _ => none
  | _ => none
def dExpr (a : DE) : DS := fun ρ M => match a ρ M with
  | some (_, M1) => some (.nx ρ M1)
  | none => none
def dRet (a : DE) : DS := fun ρ M => match a ρ M with
  | some (v, M1) => some (.rt v M1)
  | none => none
def dRetN : DS := fun _ M => some (.rt (.d .non) M)
def dIf (t : DT) (a b : DS) : DS := fun ρ M => match t ρ M with
  | some (true, M1) => a ρ M1
  | some (false, M1) => b ρ M1
  | none => none
def dBreak : DS := fun ρ M => some (.bk ρ M)
def dCont : DS := fun ρ M => some (.ct ρ M)
def dNever : DS := fun _ _ => none
/-- slots forgotten behind a statement -/
def wipeO (vs : List Nat) : Out → Out
  | .nx ρ M => .nx (wipeD ρ vs) M
  | .bk ρ M => .bk (wipeD ρ vs) M
  | .ct ρ M => .ct (wipeD ρ vs) M
  | .rt v M => .rt v M
def dWipe (vs : List Nat) (s : DS) : DS := fun ρ M => match s ρ M with
  | some o => some (wipeO vs o)
  | none => none
/-- slots forgotten ahead of a block -/
def dPre (vs : List Nat) (s : DS) : DS := fun ρ M => s (wipeD ρ vs) M
def forL {α : Type} (chk : DSt → Prop) (step : α → DEnv → DSt → Option Out) : List α → DEnv → DSt → Option Out
  | [], ρ, M => grd (chk M) (some (.nx ρ M))
  | x :: xs, ρ, M => grd (chk M) (match step x ρ M with
    | some (.nx ρ1 M1) => forL chk step xs ρ1 M1
    | some (.ct ρ1 M1) => forL chk step xs ρ1 M1
    | some (.bk ρ1 M1) => some (.nx ρ1 M1)
    | some (.rt v M1) => some (.rt v M1)
    | none => none)
def forStep (tg : Tgt) (s : DS) (x : D) (ρ : DEnv) (M : DSt) : Option Out := match tg.put (.d x) ρ with
  | some ρ1 => s ρ1 M
  | none => none
def dFor (it : DI) (tg : Tgt) (s : DS) : DS := fun ρ M => match it ρ M with
  | some (xs, src, M1) => forL (stand src M1) (forStep tg s) xs ρ M1
  | none => none
def whileL (t : DT) (s : DS) : Nat → DEnv → DSt → Option Out
  | 0, _, _ => none
  | n + 1, ρ, M => match t ρ M with
    | some (true, M1) => match s ρ M1 with
      | some (.nx ρ1 M2) => whileL t s n ρ1 M2
      | some (.ct ρ1 M2) => whileL t s n ρ1 M2
      | some (.bk ρ1 M2) => some (.nx ρ1 M2)
      | some (.rt v M2) => some (.rt v M2)
      | none => none
    | some (false, M1) => some (.nx ρ M1)
    | none => none
open Classical in
def dWhile (t : DT) (s : DS) : DS := fun ρ M => if h : ∃ o n, whileL t s n ρ M = some o then some h.choose else none
theorem whileL_mono {t : DT} {s : DS} : ∀ {n : Nat} {ρ : DEnv} {M : DSt} {o : Out}, whileL t s n ρ M = some o → whileL t s (n + 1) ρ M = some o
  | 0, _, _, _, h => by cases h
  | n + 1, ρ, M, o, h => by
    unfold whileL at h ⊢
    cases e : t ρ M with
    | none => simp only [e] at h; cases h
    | some p =>
      obtain ⟨b, M1⟩ := p
      simp only [e] at h ⊢
      cases b with
      | false => exact h
      | true =>
        simp only at h ⊢
        cases e2 : s ρ M1 with
        | none => simp only [e2] at h; cases h
        | some q =>
          simp only [e2] at h ⊢
          cases q with
          | nx ρ1 M2 => exact whileL_mono h
          | ct ρ1 M2 => exact whileL_mono h
          | bk ρ1 M2 => exact h
          | rt v M2 => exact h
theorem whileL_le {t : DT} {s : DS} {n m : Nat} {ρ : DEnv} {M : DSt} {o : Out} (h : whileL t s n ρ M = some o) (l : n ≤ m) : whileL t s m ρ M = some o := by
  induction l with
  | refl => exact h
  | step _ ih => exact whileL_mono ih
theorem dWhile_of {t : DT} {s : DS} {n : Nat} {ρ : DEnv} {M : DSt} {o : Out} (h : whileL t s n ρ M = some o) : dWhile t s ρ M = some o := by
  have hx : ∃ o n, whileL t s n ρ M = some o := ⟨o, n, h⟩
  unfold dWhile
  rw [dif_pos hx]
  obtain ⟨m, hm⟩ := hx.choose_spec
  have a := whileL_le hm (Nat.le_max_left m n)
  have b := whileL_le h (Nat.le_max_right m n)
  rw [a] at b
  exact b
theorem dWhile_some {t : DT} {s : DS} {ρ : DEnv} {M : DSt} {o : Out} (h : dWhile t s ρ M = some o) : ∃ n, whileL t s n ρ M = some o := by
  unfold dWhile at h
  split at h
  · rename_i hx
    cases h
    exact hx.choose_spec
  · cases h
/-- one turn -/
theorem dWhile_eq (t : DT) (s : DS) (ρ : DEnv) (M : DSt) : dWhile t s ρ M = match t ρ M with
    | some (true, M1) => match s ρ M1 with
      | some (.nx ρ1 M2) => dWhile t s ρ1 M2
      | some (.ct ρ1 M2) => dWhile t s ρ1 M2
      | some (.bk ρ1 M2) => some (.nx ρ1 M2)
      | some (.rt v M2) => some (.rt v M2)
      | none => none
    | some (false, M1) => some (.nx ρ M1)
    | none => none := by
  have key : ∀ o, dWhile t s ρ M = some o ↔ (match t ρ M with
    | some (true, M1) => match s ρ M1 with
      | some (.nx ρ1 M2) => dWhile t s ρ1 M2
      | some (.ct ρ1 M2) => dWhile t s ρ1 M2
      | some (.bk ρ1 M2) => some (.nx ρ1 M2)
      | some (.rt v M2) => some (.rt v M2)
      | none => none
    | some (false, M1) => some (.nx ρ M1)
    | none => none) = some o := by
    intro o
    constructor
    · intro h
      obtain ⟨n, hn⟩ := dWhile_some h
      cases n with
      | zero => cases hn
      | succ n =>
        unfold whileL at hn
        cases e : t ρ M with
        | none => simp only [e] at hn; cases hn
        | some p =>
          obtain ⟨b, M1⟩ := p
          simp only [e] at hn
          cases b with
          | false => exact hn
          | true =>
            simp only at hn ⊢
            cases e2 : s ρ M1 with
            | none => simp only [e2] at hn; cases hn
            | some q =>
              simp only [e2] at hn
              cases q with
              | nx ρ1 M2 => exact dWhile_of hn
              | ct ρ1 M2 => exact dWhile_of hn
              | bk ρ1 M2 => exact hn
              | rt v M2 => exact hn
    · intro h
      cases e : t ρ M with
      | none => simp only [e] at h; cases h
      | some p =>
        obtain ⟨b, M1⟩ := p
        simp only [e] at h
        cases b with
        | false => exact dWhile_of (n := 1) (by unfold whileL; simp only [e]; exact h)
        | true =>
          simp only at h
          cases e2 : s ρ M1 with
          | none => simp only [e2] at h; cases h
          | some q =>
            simp only [e2] at h
            cases q with
            | nx ρ1 M2 =>
              obtain ⟨n, hn⟩ := dWhile_some h
              exact dWhile_of (n := n + 1) (by unfold whileL; simp only [e, e2]; exact hn)
            | ct ρ1 M2 =>
              obtain ⟨n, hn⟩ := dWhile_some h
              exact dWhile_of (n := n + 1) (by unfold whileL; simp only [e, e2]; exact hn)
            | bk ρ1 M2 => exact dWhile_of (n := 1) (by unfold whileL; simp only [e, e2]; exact h)
            | rt v M2 => exact dWhile_of (n := 1) (by unfold whileL; simp only [e, e2]; exact h)
  apply Option.ext
  exact key

/-! ### defs -/
def startD (n : Nat) (as : List Dv) : DEnv := as.map some ++ List.replicate (n - as.length) none
/-- behind a def: its own cells are gone, but one that it hands back -/
def fin (b : Nat) (v : Dv) (M : DSt) : Option (Dv × DSt) := match v with
  | .c n => if n < b then some (.c n, M.take b) else match (M[n]?).join with
    | some xs => some (.c b, M.take b ++ [some xs])
    | none => none
  | .o _ _ _ => none
  | .k _ _ => none
  | v => some (v, M.take b)
def fnD (n : Nat) (s : DS) : DF := fun as M => match s (startD n as) M with
  | some (.rt v M1) => fin M.length v M1
  | some (.nx _ M1) => fin M.length (.d .non) M1
  | _ => none
def eCall (f : DF) (as : DA) : DE := eA f as
end
end Rw
end PRwSem
section PRwSem2
set_option autoImplicit false
set_option linter.all false
/-! RwSem2: further constructs of the pure reading. -/
namespace Rw
noncomputable section
/-- a def that calls itself, to a depth -/
def recD (F : DF → DF) : Nat → DF
  | 0 => fun _ _ => none
  | n + 1 => F (recD F n)
/-- how many turns range(i, j, c) has -/
def szC (i j c : Int) : Nat := (if c > 0 then (if i < j then (j - i - 1) / c + 1 else 0) else (if i > j then (i - j - 1) / (-c) + 1 else 0)).toNat
def rngC (i c : Int) (n : Nat) : List D := (List.range n).map fun (k : Nat) => .int (i + (k : Int) * c)
def iR3 (a : DA) : DI := fun ρ M => match a ρ M with
  | some ([.d (.int i), .d (.int j), .d (.int c)], M1) => grd (c ≠ 0 ∧ -1000000 ≤ c ∧ c ≤ 1000000 ∧ -1000000000 ≤ i ∧ i ≤ 1000000000 ∧ -1000000000 ≤ j ∧ j ≤ 1000000000) (some (rngC i c (szC i j c), [], M1))
  | _ => none
def maxZ : List Int → Int
  | [] => 0
  | [x] => x
  | x :: y :: r => max x (maxZ (y :: r))
def minZ : List Int → Int
  | [] => 0
  | [x] => x
  | x :: y :: r => min x (minZ (y :: r))
def oMax1 : OA := fun vs M => match vs with
  | [v] => match lv M v with
    | some xs => match intsD xs with
      | some ns => grd (0 < ns.length) (some (.d (.int (maxZ ns)), M))
      | none => none
    | none => none
  | _ => none
def oMin1 : OA := fun vs M => match vs with
  | [v] => match lv M v with
    | some xs => match intsD xs with
      | some ns => grd (0 < ns.length) (some (.d (.int (minZ ns)), M))
      | none => none
    | none => none
  | _ => none
def mReverse : Dv → List Dv → DSt → Option (Dv × DSt) := fun v as M => match v, as with
  | .c n, [] => match (M[n]?).join with
    | some xs => some (.d .non, setC M n xs.reverse)
    | none => none
  | _, _ => none
/-- o[i] op= e -/
def dAugS (f : O2) (o i e : DE) : DS := fun ρ M => match o ρ M with
  | some (.c n, M1) => match i ρ M1 with
    | some (.d (.int k), M2) => match (M2[n]?).join with
      | some xs => match ixD xs.length k with
        | some j => match xs[j]? with
          | some x => match e ρ M2 with
            | some (y, M3) => match f (.d x) y M3 with
              | some (.d z, M4) => match (M4[n]?).join with
                | some ys => if ys.length = xs.length then some (.nx ρ (setC M4 n (ys.set j z))) else none
                | none => none
              | _ => none
            | none => none
          | none => none
        | none => none
      | none => none
    | _ => none
  | _ => none
/-- <= of two tuples of two ints -/
def oLeT : O2 := fun x y M => match x, y with
  | .d (.tup [.int a, .int b]), .d (.tup [.int c, .int d]) => some (.d (.bl (if a = c then decide (b ≤ d) else decide (a ≤ c))), M)
  | _, _ => none
end
end Rw
end PRwSem2
section PRwSemX
set_option autoImplicit false
set_option linter.all false
/-! RwSemX: runs that end in an exception, as pure functions: the class, the slots, the store. -/
namespace Rw
open PySem (Str)
noncomputable section
abbrev DX := DEnv → DSt → Option (String × DEnv × DSt)
abbrev FX := List Dv → DSt → Option (String × DSt)
def xNo : DX := fun _ _ => none
def xAlt (a b : DX) : DX := fun ρ M => match a ρ M with
  | some r => some r
  | none => b ρ M
/-- first s, then b raises -/
def xSeq (s : DS) (b : DX) : DX := fun ρ M => match s ρ M with
  | some (.nx ρ1 M1) => b ρ1 M1
  | _ => none
def xIf (c : DT) (a b : DX) : DX := fun ρ M => match c ρ M with
  | some (true, M1) => a ρ M1
  | some (false, M1) => b ρ M1
  | none => none
def xCall (f : FX) (as : DA) : DX := fun ρ M => match as ρ M with
  | some (vs, M1) => match f vs M1 with
    | some (c, M2) => some (c, ρ, M2)
    | none => none
  | none => none
def xRaise (c : String) : DX := fun ρ M => some (c, ρ, M)
def fnX (n : Nat) (b : DX) : FX := fun as M => match b (startD n as) M with
  | some (c, _, M1) => some (c, M1.take M.length)
  | none => none
/-- try: d, which raises as x; except, one of cs: h -/
def dTry (cs : List String) (d : DS) (x : DX) (h : DS) : DS := fun ρ M => match x ρ M with
  | some (c, ρ1, M1) => grd (c ∈ cs) (h ρ1 M1)
  | none => d ρ M
/-- .. except .. as i: j = i -/
def dTryAs (cs : List String) (d : DS) (x : DX) (i j : Nat) : DS := fun ρ M => match x ρ M with
  | some (c, ρ1, M1) => grd (c ∈ cs) (some (.nx (((ρ1.set i (some (.d (.ty c)))).set j (some (.d (.ty c)))).set i none) M1))
  | none => d ρ M
/-- xs.index(y), xs.count(y): flat things -/
def mIndex : Dv → List Dv → DSt → Option (Dv × DSt) := fun v as M => match as, lv M v with
  | [.d y], some xs => grd (y.flat = true ∧ xs.all D.flat = true) (match xs.findIdx? fun b => D.eqv b y with
    | some j => some (.d (.int (j : Nat)), M)
    | none => none)
  | _, _ => none
def mCount : Dv → List Dv → DSt → Option (Dv × DSt) := fun v as M => match as, lv M v with
  | [.d y], some xs => grd (y.flat = true ∧ xs.all D.flat = true) (some (.d (.int (xs.countP fun b => D.eqv b y : Nat)), M))
  | _, _ => none
def strsD : List D → Option (List Str)
  | [] => some []
  | .str s :: r => (strsD r).map (s :: ·)
  | _ :: _ => none
/-- a.join(xs) -/
def oJoin (a : Str) : O1 := fun v M => match lv M v with
  | some xs => match strsD xs with
    | some ys => grd ((ys.map (·.length)).sum + ys.length * a.length ≤ big) (some (.d (.str (Str.join a ys)), M))
    | none => none
  | none => none
/-- isinstance(v, a class of errors): yes for the classes cs, no for the others of all -/
def oIsX (all cs : List String) : O1 := fun v M => match v with
  | .d .non => some (.d (.bl false), M)
  | .d (.ty c) => grd (c ∈ all) (some (.d (.bl (cs.contains c)), M))
  | _ => none
end
end Rw
end PRwSemX
section PRwSemY
set_option autoImplicit false
set_option linter.all false
/-! RwSemY: a chain of three comparisons; a loop whose body raises. -/
namespace Rw
open PySem (Str)
noncomputable section
/-- a chain of three comparisons -/
def eChain3 (f g h : O2) (a b c d : DE) : DE := fun ρ M => match a ρ M with
  | some (x, M1) => match b ρ M1 with
    | some (y, M2) => match f x y M2 with
      | some (.d (.bl true), M3) => match c ρ M3 with
        | some (z, M4) => match g y z M4 with
          | some (.d (.bl true), M5) => match d ρ M5 with
            | some (w, M6) => h z w M6
            | none => none
          | some (.d (.bl false), M5) => some (.d (.bl false), M5)
          | _ => none
        | none => none
      | some (.d (.bl false), M3) => some (.d (.bl false), M3)
      | _ => none
    | none => none
  | none => none
/-- len(set(xs)), whole numbers -/
def dupStep (acc : List Int) (x : Int) : List Int := if acc.any (· == x) then acc else acc ++ [x]
def distZ (ns : List Int) : Nat := (ns.foldl dupStep []).length
def oDist : O1 := fun v M => match lv M v with
  | some xs => match intsD xs with
    | some ns => grd (ns.length ≤ 4000) (some (.d (.int (distZ ns : Nat)), M))
    | none => none
  | none => none
/-- x in xs, things of any depth -/
def oInD (neg : Bool) : O2 := fun x y M => match dv M x, dv M y with
  | some a, some (.lst ys) => grd (a.shp 8 = true ∧ (D.lst ys).shp 9 = true) (some (.d (.bl (xor neg (ys.any fun b => D.eqv b a))), M))
  | _, _ => none
/-- a loop that raises within its body -/
def xForL (chk : DSt → Prop) (step : D → DEnv → DSt → Option Out) (xs : D → DX) : List D → DX
  | [], _, _ => none
  | x :: r, ρ, M => grd (chk M) (match xs x ρ M with
    | some q => some q
    | none => match step x ρ M with
      | some (.nx ρ1 M1) => xForL chk step xs r ρ1 M1
      | some (.ct ρ1 M1) => xForL chk step xs r ρ1 M1
      | _ => none)
def xForStep (tg : Tgt) (b : DX) (x : D) : DX := fun ρ M => match tg.put (.d x) ρ with
  | some ρ1 => b ρ1 M
  | none => none
def xFor (it : DI) (tg : Tgt) (s : DS) (b : DX) : DX := fun ρ M => match it ρ M with
  | some (xs, src, M1) => xForL (stand src M1) (forStep tg s) (xForStep tg b) xs ρ M1
  | none => none
end
end Rw
end PRwSemY
section PRwSemZ
set_option autoImplicit false
set_option linter.all false
/-! RwSemZ: is of truths, the order of tuples of whole numbers. -/
namespace Rw
open PySem (Str)
noncomputable section
/-- x is b, truths -/
def oIsB : O2 := fun x y M => match x, y with
  | .d (.bl a), .d (.bl b) => some (.d (.bl (decide (a = b))), M)
  | _, _ => none
def oNotB : O2 := fun x y M => match x, y with
  | .d (.bl a), .d (.bl b) => some (.d (.bl (!decide (a = b))), M)
  | _, _ => none
def lexZ : List Int → List Int → Bool
  | [], [] => false
  | [], _ :: _ => true
  | _ :: _, [] => false
  | x :: xs, y :: ys => if x = y then lexZ xs ys else decide (x < y)
def oLtT : O2 := fun x y M => match x, y with
  | .d (.tup xs), .d (.tup ys) => match intsD xs, intsD ys with
    | some ns, some ms => some (.d (.bl (lexZ ns ms)), M)
    | _, _ => none
  | _, _ => none
def oGtT : O2 := fun x y M => match x, y with
  | .d (.tup xs), .d (.tup ys) => match intsD xs, intsD ys with
    | some ns, some ms => some (.d (.bl (lexZ ms ns)), M)
    | _, _ => none
  | _, _ => none
/-- the list in a slot is data from now on -/
def gFrz (i : Nat) : DS := fun ρ M => match ρ[i]? with
  | some (some (.c n)) => match (M[n]?).join with
    | some xs => some (.nx (ρ.set i (some (.d (.lst xs)))) (M.set n none))
    | none => none
  | _ => none
end
end Rw
end PRwSemZ
section PRwSemV
set_option autoImplicit false
set_option linter.all false
/-! RwSemV: calls by the parameters' names, list.remove, least and sorted of rows of whole numbers. -/
namespace Rw
open PySem (Str)
noncomputable section
/-- what stands at these places -/
def prm {α : Type} (is : List Nat) (xs : List α) : List α := is.filterMap fun i => xs[i]?
/-- a call by the parameters' names: what is written in which order -/
def eCallK (is : List Nat) (f : DF) (as : DA) : DE := eA (fun vs M => f (prm is vs) M) as
/-- xs.remove(y) -/
def mRemove : Dv → List Dv → DSt → Option (Dv × DSt) := fun v as M => match v, as with
  | .c n, [.d y] => match (M[n]?).join with
    | some xs => grd (y.shp 8 = true ∧ (D.lst xs).shp 9 = true) (match xs.findIdx? fun b => D.eqv b y with
      | some j => some (.d .non, setC M n (xs.eraseIdx j))
      | none => none)
    | none => none
  | _, _ => none
/-- a tuple (t), or a list, of whole numbers -/
def rowT (t : Bool) : D → Option (List Int)
  | .tup xs => if t then intsD xs else none
  | .lst xs => if t then none else intsD xs
  | _ => none
def rowsT (t : Bool) : List D → Option (List (List Int))
  | [] => some []
  | x :: r => match rowT t x, rowsT t r with
    | some a, some b => some (a :: b)
    | _, _ => none
def bkD (t : Bool) (ns : List Int) : D := if t then .tup (ns.map D.int) else .lst (ns.map D.int)
def minL : List Int → List (List Int) → List Int
  | x, [] => x
  | x, y :: r => minL (if lexZ y x then y else x) r
/-- min(xs), tuples of whole numbers -/
def oMinT : OA := fun vs M => match vs with
  | [v] => match lv M v with
    | some xs => match rowsT true xs with
      | some (x :: r) => some (.d (bkD true (minL x r)), M)
      | _ => none
    | none => none
  | _ => none
/-- sorted(xs), tuples (t) or lists of whole numbers -/
def oSortT (t c : Bool) : OA := fun vs M => match vs with
  | [v] => match lv M v with
    | some xs => match rowsT t xs with
      | some nss => grd (nss.length ≤ 4000 ∧ (t = true → ∀ ns ∈ nss, ns ≠ [])) (mkL c ((nss.mergeSort fun a b => !lexZ b a).map (bkD t)) M)
      | none => none
    | none => none
  | _ => none
end
end Rw
end PRwSemV
section PRwSemD
set_option autoImplicit false
set_option linter.all false
/-! RwSemD: a dict of one def's own, from {} to its end: whole numbers, or tuples of them, to data. -/
namespace Rw
open PySem (Str)
noncomputable section
abbrev XS := DEnv → DSt → Tb → Option (Out × Tb)
def look (T : Tb) (k : List Int) : Option D := (T.find? fun x => decide (x.1 = k)).map (·.2)
def tput (T : Tb) (k : List Int) (v : D) : Tb := if (T.any fun x => decide (x.1 = k)) = true then T.map fun x => if x.1 = k then (x.1, v) else x else T ++ [(k, v)]
/-- a key: a tuple (b) of whole numbers, or one -/
def keyI (b : Bool) : D → Option (List Int)
  | .tup xs => if b then intsD xs else none
  | .int i => if b then none else some [i]
  | _ => none
/-- d[k] -/
def eGet (b : Bool) (k : DE) (T : Tb) : DE := fun ρ M => match k ρ M with
  | some (.d x, M1) => match keyI b x with
    | some ks => match look T ks with
      | some v => some (.d v, M1)
      | none => none
    | none => none
  | _ => none
/-- k in d -/
def eHas (b neg : Bool) (k : DE) (T : Tb) : DE := fun ρ M => match k ρ M with
  | some (.d x, M1) => match keyI b x with
    | some ks => some (.d (.bl (xor neg (look T ks).isSome)), M1)
    | none => none
  | _ => none
/-- d.get((..), None) -/
def eGetN (as : DA) (T : Tb) : DE := fun ρ M => match as ρ M with
  | some (vs, M1) => match allD vs with
    | some xs => match intsD xs with
      | some ks => grd (ks.length ≤ big) (some (.d ((look T ks).getD .non), M1))
      | none => none
    | none => none
  | none => none
/-- the keys (whole numbers), in order -/
def keyD (x : List Int × D) : D := (x.1.map D.int).headD .non
def iK (T : Tb) : DI := fun _ M => some (T.map keyD, [], M)
/-! ### statements -/
def kPass : XS := fun ρ M T => some (.nx ρ M, T)
def kSeq (s t : XS) : XS := fun ρ M T => match s ρ M T with
  | some (.nx ρ1 M1, T1) => t ρ1 M1 T1
  | o => o
def kAsg (tg : Tgt) (a : Tb → DE) : XS := fun ρ M T => match a T ρ M with
  | some (v, M1) => match tg.put v ρ with
    | some ρ1 => some (.nx ρ1 M1, T)
    | none => none
  | none => none
def kExpr (a : Tb → DE) : XS := fun ρ M T => match a T ρ M with
  | some (_, M1) => some (.nx ρ M1, T)
  | none => none
def kRet (a : Tb → DE) : XS := fun ρ M T => match a T ρ M with
  | some (v, M1) => some (.rt v M1, T)
  | none => none
def kIf (t : Tb → DT) (a b : XS) : XS := fun ρ M T => match t T ρ M with
  | some (true, M1) => a ρ M1 T
  | some (false, M1) => b ρ M1 T
  | none => none
def kWipe (vs : List Nat) (s : XS) : XS := fun ρ M T => match s ρ M T with
  | some (o, T1) => some (wipeO vs o, T1)
  | none => none
def kPre (vs : List Nat) (s : XS) : XS := fun ρ M T => s (wipeD ρ vs) M T
/-- d[(..)] = e -/
def kPut (as : DA) (e : Tb → DE) : XS := fun ρ M T => match e T ρ M with
  | some (.d v, M1) => match as ρ M1 with
    | some (vs, M2) => match allD vs with
      | some xs => match intsD xs with
        | some ks => grd (ks.length ≤ big ∧ T.length < big) (some (.nx ρ M2, tput T ks v))
        | none => none
      | none => none
    | none => none
  | _ => none
/-- d[i] = e -/
def kPutI (i : DE) (e : Tb → DE) : XS := fun ρ M T => match e T ρ M with
  | some (.d v, M1) => match i ρ M1 with
    | some (.d (.int k), M2) => grd (T.length < big) (some (.nx ρ M2, tput T [k] v))
    | _ => none
  | _ => none
def forK {α : Type} (chk : DSt → Prop) (step : α → XS) : List α → XS
  | [], ρ, M, T => grd (chk M) (some (.nx ρ M, T))
  | x :: xs, ρ, M, T => grd (chk M) (match step x ρ M T with
    | some (.nx ρ1 M1, T1) => forK chk step xs ρ1 M1 T1
    | some (.ct ρ1 M1, T1) => forK chk step xs ρ1 M1 T1
    | some (.bk ρ1 M1, T1) => some (.nx ρ1 M1, T1)
    | some (.rt v M1, T1) => some (.rt v M1, T1)
    | none => none)
def stepK (tg : Tgt) (s : XS) (x : D) : XS := fun ρ M T => match tg.put (.d x) ρ with
  | some ρ1 => s ρ1 M T
  | none => none
def kFor (it : DI) (tg : Tgt) (s : XS) : XS := fun ρ M T => match it ρ M with
  | some (xs, src, M1) => forK (stand src M1) (stepK tg s) xs ρ M1 T
  | none => none
/-- x = {}, what follows -/
def dNew (d : Nat) (s : XS) : DS := fun ρ M => grd (d < ρ.length) (match s (ρ.set d none) M [] with
  | some (.nx ρ1 M1, _) => some (.nx (ρ1.set d none) M1)
  | some (.bk ρ1 M1, _) => some (.bk (ρ1.set d none) M1)
  | some (.ct ρ1 M1, _) => some (.ct (ρ1.set d none) M1)
  | some (.rt v M1, _) => some (.rt v M1)
  | none => none)
end
end Rw
end PRwSemD
section PRwSemLd
set_option autoImplicit false
set_option linter.all false
/-! RwSemLd: a dict that is lent to a def: the def reads it, walks over it, and hands back data. -/
namespace Rw
noncomputable section
/-- d[k] of a dict that was handed in -/
def eKGet (a k : DE) : DE := fun ρ M => match a ρ M with
  | some (.k b T, M1) => match k ρ M1 with
    | some (.d x, M2) => match keyI b x with
      | some ks => match look T ks with
        | some v => some (.d v, M2)
        | none => none
      | none => none
    | _ => none
  | _ => none
/-- the dict itself -/
def eSelf (b : Bool) (T : Tb) : DE := fun _ M => some (.k b T, M)
/-- f(.., d, ..) -/
def eLoan (f : DF) (as : Tb → DA) (T : Tb) : DE := fun ρ M => match as T ρ M with
  | some (vs, M1) => match f vs M1 with
    | some (.d x, M2) => some (.d x, M2)
    | _ => none
  | none => none
/-- the keys, tuples of whole numbers -/
def keysT (T : Tb) : List D := T.map fun x => .tup (x.1.map D.int)
/-- for (..) in a dict that was handed in -/
def kForT (src : DE) (ts : List Tgt) (s : XS) : XS := fun ρ M T => match src ρ M with
  | some (.k true T', M1) => forK (stand [] M1) (stepK (.tup ts) s) (keysT T') ρ M1 T
  | _ => none
end
end Rw
end PRwSemLd
section PDk70
set_option linter.all false
set_option maxRecDepth 100000
namespace Lk70
open Rw
open PySem (Str)
noncomputable section
def v_KINDS : D := (.tup [(.str "plain"), (.str "moved"), (.str "shape")])
def v_MOST_GAP : D := (.int 200)
def v_MOST_LENGTH : D := (.int 40)
/-- _law_at(_law_script, _law_k): slots _law_script 0, _law_k 1 -/
def b__law_at : DS :=
    (dSeq (dIf (tVal (e2 oLt (eVar 1) (eA oLen (aCons (eVar 0) aNil)))) (dRet (e2 oIx (eVar 0) (eVar 1))) dPass)
    (dRet (eC (.int 0))))
def f__law_at : DF := fnD 2 b__law_at
/-- _law_purse(_law_script, _law_at_here): slots _law_script 0, _law_at_here 1, _law_cell 2 -/
def b__law_purse : DS :=
    (dSeq (dAsg (.name 2) (eCall f__law_at (aCons (eVar 0) (aCons (eVar 1) aNil))))
    (dRet (eLst true (aCons (eA oMax2 (aCons (e2 oSub (eVar 2) (e2 oPow (eC (.int 10)) (eC (.int 18)))) (aCons (eC (.int 0)) aNil))) (aCons (eVar 2) (aCons (e2 (oMulU false) (eC (.int 1000)) (eVar 1)) aNil))))))
def f__law_purse : DF := fnD 3 b__law_purse
/-- _law_mixed(_law_cell, _law_k): slots _law_cell 0, _law_k 1, _law_number_here 2 -/
def b__law_mixed : DS :=
    (dSeq (dAsg (.name 2) (e2 oMod (e2 (oAdd false) (e2 (oAdd false) (e2 (oMulU false) (eVar 0) (eC (.int 1103515245))) (e2 (oMulU false) (e2 (oMulU false) (eC (.int 7919)) (eVar 1)) (eVar 1))) (eVar 1)) (eC (.int 2147483647))))
    (dSeq (dAsg (.name 2) (e2 oMod (e2 (oMulU false) (eVar 2) (eVar 2)) (eC (.int 2147483629))))
    (dRet (e2 oMod (e2 (oMulU false) (eVar 2) (eC (.int 69621))) (eC (.int 2147483587))))))
def f__law_mixed : DF := fnD 3 b__law_mixed
/-- _law_draw(_law_purse_here, _law_out_of): slots _law_purse_here 0, _law_out_of 1, _law_drawn 2, _law_number_here 3, _law_k 4; cells _law_purse_here -/
def b__law_draw : DS :=
    (dSeq (dIf (tVal (e2 oGt (e2 oIx (eVar 0) (eC (.int 0))) (eC (.int 0)))) (dSeq (dAsg (.name 2) (e2 oMod (e2 oIx (eVar 0) (eC (.int 0))) (eVar 1)))
      (dSeq (dPut (eVar 0) (eC (.int 0)) (e2 oDiv (e2 oIx (eVar 0) (eC (.int 0))) (eVar 1)))
      (dRet (eVar 2)))) dPass)
    (dSeq (dAsg (.name 3) (eC (.int 0)))
    (dSeq (dFor (iR1 (aCons (e2 oIx (eLst false (aCons (eC (.int 1)) (aCons (eC (.int 4)) aNil))) (eA oInt (aCons (e2 oGt (eVar 1) (e2 oPow (eC (.int 10)) (eC (.int 9)))) aNil))) aNil)) (.name 4) (dWipe [4] (dSeq (dPut (eVar 0) (eC (.int 2)) (e2 (oAdd false) (e2 oIx (eVar 0) (eC (.int 2))) (eC (.int 1))))
      (dAsg (.name 3) (e2 (oAdd false) (e2 (oMulU false) (eVar 3) (eC (.int 2147483587))) (eCall f__law_mixed (aCons (e2 oIx (eVar 0) (eC (.int 1))) (aCons (e2 oIx (eVar 0) (eC (.int 2))) aNil))))))))
    (dRet (e2 oMod (eVar 3) (eVar 1))))))
def f__law_draw : DF := fnD 5 b__law_draw
/-- _law_kind(_law_purse_here): slots _law_purse_here 0; cells _law_purse_here -/
def b__law_kind : DS :=
    (dRet (e2 oIx (eLst false (aCons (eC (.str "plain")) (aCons (eC (.str "moved")) (aCons (eC (.str "shape")) aNil)))) (eCall f__law_draw (aCons (eVar 0) (aCons (eC (.int 3)) aNil)))))
def f__law_kind : DF := fnD 1 b__law_kind
/-- _law_gap(_law_purse_here, _law_row_here): slots _law_purse_here 0, _law_row_here 1; cells _law_purse_here -/
def b__law_gap : DS :=
    (dRet (e2 oIx (eLst false (aCons (eC (.int 1)) (aCons (e2 (oAdd false) (eC (.int 1)) (eCall f__law_draw (aCons (eVar 0) (aCons (eC (.int 4)) aNil)))) (aCons (e2 (oAdd false) (eC (.int 1)) (eCall f__law_draw (aCons (eVar 0) (aCons (eA oMax2 (aCons (eC (.int 1)) (aCons (eA oLen (aCons (eVar 1) aNil)) aNil))) aNil)))) (aCons (eC (.int 200)) aNil))))) (e2 oDiv (eCall f__law_draw (aCons (eVar 0) (aCons (eC (.int 12)) aNil))) (eC (.int 3)))))
def f__law_gap : DF := fnD 2 b__law_gap
/-- _law_length(_law_purse_here, _law_row_here): slots _law_purse_here 0, _law_row_here 1; cells _law_purse_here -/
def b__law_length : DS :=
    (dRet (e2 oIx (eLst false (aCons (e2 (oAdd false) (eC (.int 1)) (eCall f__law_draw (aCons (eVar 0) (aCons (eC (.int 4)) aNil)))) (aCons (e2 (oAdd false) (eC (.int 1)) (eCall f__law_draw (aCons (eVar 0) (aCons (eA oMax2 (aCons (eC (.int 1)) (aCons (eA oMin2 (aCons (eC (.int 40)) (aCons (e2 (oAdd false) (eA oLen (aCons (eVar 1) aNil)) (eC (.int 1))) aNil))) aNil))) aNil)))) (aCons (eC (.int 40)) aNil)))) (e2 oDiv (eCall f__law_draw (aCons (eVar 0) (aCons (eC (.int 8)) aNil))) (eC (.int 3)))))
def f__law_length : DF := fnD 2 b__law_length
/-- leads_of(rows): slots rows 0, found 1, p 2, row 3; cells found -/
def b_leads_of : DS :=
    (dSeq (dAsg (.name 1) (eLst true aNil))
    (dSeq (dFor (iEn (aCons (eVar 0) aNil)) (.tup [(.name 2), (.name 3)]) (dWipe [2, 3] (dIf (Rw.tAnd (tVal (e1 oNotN (e2 oIx (eVar 3) (eC (.int 0))))) (tVal (e2 oEq (e2 oIx (e2 oIx (eVar 0) (e2 oIx (eVar 3) (eC (.int 0)))) (eC (.int 1))) (eVar 2)))) (dExpr (eM mAppend (eVar 1) (aCons (e2 oIx (eVar 3) (eC (.int 0))) aNil))) (dExpr (eM mAppend (eVar 1) (aCons (eC .non) aNil))))))
    (dRet (eVar 1))))
def f_leads_of : DF := fnD 4 b_leads_of
/-- must_kind(kind): slots kind 0 -/
def b_must_kind : DS :=
    (dIf (tVal (e2 (oIn true) (eVar 0) (eC v_KINDS))) dNever dPass)
def f_must_kind : DF := fnD 1 b_must_kind
/-- must_gap(gap): slots gap 0 -/
def b_must_gap : DS :=
    (dIf (Rw.tNot (tVal (eChain oLe oLe (eC (.int 1)) (eVar 0) (eC v_MOST_GAP)))) dNever dPass)
def f_must_gap : DF := fnD 1 b_must_gap
/-- must_length(length): slots length 0 -/
def b_must_length : DS :=
    (dIf (Rw.tNot (tVal (eChain oLe oLe (eC (.int 1)) (eVar 0) (eC v_MOST_LENGTH)))) dNever dPass)
def f_must_length : DF := fnD 1 b_must_length
/-- must_ask(kind, gap, length): slots kind 0, gap 1, length 2 -/
def b_must_ask : DS :=
    (dSeq (dExpr (eCall f_must_kind (aCons (eVar 0) aNil)))
    (dSeq (dExpr (eCall f_must_gap (aCons (eVar 1) aNil)))
    (dExpr (eCall f_must_length (aCons (eVar 2) aNil)))))
def f_must_ask : DF := fnD 3 b_must_ask
/-- stretch(row, length, place): slots row 0, length 1, place 2 -/
def b_stretch : DS :=
    (dRet (eSl (slU false) (eVar 0) (pSome (eVar 2)) (pSome (e2 (oAdd false) (eVar 2) (eVar 1)))))
def f_stretch : DF := fnD 3 b_stretch
/-- count_of(row, length): slots row 0, length 1 -/
def b_count_of : DS :=
    (dRet (eA oMax2 (aCons (eC (.int 0)) (aCons (e2 (oAdd false) (e2 oSub (eA oLen (aCons (eVar 0) aNil)) (eVar 1)) (eC (.int 1))) aNil))))
def f_count_of : DF := fnD 2 b_count_of
/-- stretches(row, length): slots row 0, length 1, place 2 -/
def b_stretches : DS :=
    (dRet (eComp false (iR1 (aCons (eCall f_count_of (aCons (eVar 0) (aCons (eVar 1) aNil))) aNil)) (.name 2) Rw.tYes (eCall f_stretch (aCons (eVar 0) (aCons (eVar 1) (aCons (eVar 2) aNil)))) [2]))
def f_stretches : DF := fnD 3 b_stretches
/-- uneven(numbers): slots numbers 0, total 1, number 2 -/
def b_uneven : DS :=
    (dSeq (dAsg (.name 1) (eA oSum (aCons (eVar 0) aNil)))
    (dRet (e2 oSub (e2 (oMulU false) (eA oLen (aCons (eVar 0) aNil)) (eA oSum (aCons (eComp false (iS (eVar 0)) (.name 2) Rw.tYes (e2 (oMulU false) (eVar 2) (eVar 2)) [2]) aNil))) (e2 (oMulU false) (eVar 1) (eVar 1)))))
def f_uneven : DF := fnD 3 b_uneven
/-- divisor(one, other): slots one 0, other 1 -/
def b_divisor : DS :=
    (dSeq (dAsg (.name 0) (eA oAbs (aCons (eVar 0) aNil)))
    (dSeq (dAsg (.name 1) (eA oAbs (aCons (eVar 1) aNil)))
    (dSeq (dWhile (tVal (e2 oGt (eVar 1) (eC (.int 0)))) (dPar 0 1 (eVar 1) (e2 oMod (eVar 0) (eVar 1))))
    (dRet (eVar 0)))))
def f_divisor : DF := fnD 2 b_divisor
/-- made(top, bottom): slots top 0, bottom 1, by 2 -/
def b_made : DS :=
    (dSeq (dAsg (.name 2) (eCall f_divisor (aCons (eVar 0) (aCons (eVar 1) aNil))))
    (dSeq (dIf (tVal (e2 oLt (eVar 1) (eC (.int 0)))) (dAsg (.name 2) (e1 oNeg (eVar 2))) dPass)
    (dRet (eTup (aCons (e2 oDiv (eVar 0) (eVar 2)) (aCons (e2 oDiv (eVar 1) (eVar 2)) aNil))))))
def f_made : DF := fnD 3 b_made
/-- shape_far(one, other): slots one 0, other 1, first 2, second 3, both 4, a 5, b 6 -/
def b_shape_far : DS :=
    (dSeq (dAsg (.name 2) (eCall f_uneven (aCons (eVar 0) aNil)))
    (dSeq (dAsg (.name 3) (eCall f_uneven (aCons (eVar 1) aNil)))
    (dSeq (dIf (Rw.tOr (tVal (e2 oEq (eVar 2) (eC (.int 0)))) (tVal (e2 oEq (eVar 3) (eC (.int 0))))) (dRet (eTup (aCons (eA oInt (aCons (e2 oNe (eVar 2) (eVar 3)) aNil)) (aCons (eC (.int 1)) aNil)))) dPass)
    (dSeq (dAsg (.name 4) (e2 oSub (e2 (oMulU false) (eA oLen (aCons (eVar 0) aNil)) (eA oSum (aCons (eComp false (iZ (aCons (eVar 0) (aCons (eVar 1) aNil))) (.tup [(.name 5), (.name 6)]) Rw.tYes (e2 (oMulU false) (eVar 5) (eVar 6)) [5, 6]) aNil))) (e2 (oMulU false) (eA oSum (aCons (eVar 0) aNil)) (eA oSum (aCons (eVar 1) aNil)))))
    (dRet (eCall f_made (aCons (e2 oSub (e2 (oMulU false) (eVar 2) (eVar 3)) (e2 (oMulU false) (eVar 4) (eA oAbs (aCons (eVar 4) aNil)))) (aCons (e2 (oMulU false) (eVar 2) (eVar 3)) aNil))))))))
def f_shape_far : DF := fnD 7 b_shape_far
/-- plain_far(one, other): slots one 0, other 1, a 2, b 3 -/
def b_plain_far : DS :=
    (dRet (eCall f_made (aCons (eA oSum (aCons (eComp false (iZ (aCons (eVar 0) (aCons (eVar 1) aNil))) (.tup [(.name 2), (.name 3)]) Rw.tYes (e2 (oMulU false) (e2 oSub (eVar 2) (eVar 3)) (e2 oSub (eVar 2) (eVar 3))) [2, 3]) aNil)) (aCons (eA oLen (aCons (eVar 0) aNil)) aNil))))
def f_plain_far : DF := fnD 4 b_plain_far
/-- moved_far(one, other): slots one 0, other 1, a 2, b 3 -/
def b_moved_far : DS :=
    (dRet (eCall f_made (aCons (eCall f_uneven (aCons (eComp false (iZ (aCons (eVar 0) (aCons (eVar 1) aNil))) (.tup [(.name 2), (.name 3)]) Rw.tYes (e2 oSub (eVar 2) (eVar 3)) [2, 3]) aNil)) (aCons (e2 (oMulU false) (eA oLen (aCons (eVar 0) aNil)) (eA oLen (aCons (eVar 0) aNil))) aNil))))
def f_moved_far : DF := fnD 4 b_moved_far
/-- far_told(kind, one, other): slots kind 0, one 1, other 2 -/
def b_far_told : DS :=
    (dSeq (dIf (tVal (e2 oEq (eVar 0) (eC (.str "plain")))) (dRet (eCall f_plain_far (aCons (eVar 1) (aCons (eVar 2) aNil)))) dPass)
    (dSeq (dIf (tVal (e2 oEq (eVar 0) (eC (.str "moved")))) (dRet (eCall f_moved_far (aCons (eVar 1) (aCons (eVar 2) aNil)))) dPass)
    (dRet (eCall f_shape_far (aCons (eVar 1) (aCons (eVar 2) aNil))))))
def f_far_told : DF := fnD 3 b_far_told
/-- is_less(one, other): slots one 0, other 1 -/
def b_is_less : DS :=
    (dRet (e2 oLt (e2 (oMulU false) (e2 oIx (eVar 0) (eC (.int 0))) (e2 oIx (eVar 1) (eC (.int 1)))) (e2 (oMulU false) (e2 oIx (eVar 1) (eC (.int 0))) (e2 oIx (eVar 0) (eC (.int 1))))))
def f_is_less : DF := fnD 2 b_is_less
/-- place_of(some, kind, here, places): slots some 0, kind 1, here 2, places 3, best 4, found 5, place 6, far 7 -/
def b_place_of : DS :=
    (dSeq (dAsg (.name 4) (eC .non))
    (dSeq (dAsg (.name 5) (eC .non))
    (dSeq (dFor (iS (eVar 3)) (.name 6) (dWipe [6, 7] (dSeq (dAsg (.name 7) (eCall f_far_told (aCons (eVar 1) (aCons (eVar 2) (aCons (e2 oIx (eVar 0) (eVar 6)) aNil)))))
      (dIf (Rw.tOr (tVal (e1 oIsN (eVar 4))) (tVal (eCall f_is_less (aCons (eVar 7) (aCons (eVar 4) aNil))))) (dSeq (dAsg (.name 4) (eVar 7))
        (dAsg (.name 5) (eVar 6))) dPass))))
    (dRet (eVar 5)))))
def f_place_of : DF := fnD 8 b_place_of
/-- nexts(row, kind, gap, length): slots row 0, kind 1, gap 2, length 3, some 4, many 5, found 6, p 7, here 8, ahead 9, behind 10; cells found -/
def b_nexts : DS :=
    (dSeq (dExpr (eCall f_must_ask (aCons (eVar 1) (aCons (eVar 2) (aCons (eVar 3) aNil)))))
    (dSeq (dAsg (.name 4) (eCall f_stretches (aCons (eVar 0) (aCons (eVar 3) aNil))))
    (dSeq (dAsg (.name 5) (eA oLen (aCons (eVar 4) aNil)))
    (dSeq (dAsg (.name 6) (eLst true aNil))
    (dSeq (dFor (iEn (aCons (eVar 4) aNil)) (.tup [(.name 7), (.name 8)]) (dWipe [7, 8, 9, 10] (dSeq (dAsg (.name 9) (eCall f_place_of (aCons (eVar 4) (aCons (eVar 1) (aCons (eVar 8) (aCons (eA (oListR2 false) (aCons (e2 (oAdd false) (eVar 7) (eVar 2)) (aCons (eVar 5) aNil))) aNil))))))
      (dSeq (dAsg (.name 10) (eCall f_place_of (aCons (eVar 4) (aCons (eVar 1) (aCons (eVar 8) (aCons (eA (oListR1 false) (aCons (eA oMax2 (aCons (eC (.int 0)) (aCons (e2 (oAdd false) (e2 oSub (eVar 7) (eVar 2)) (eC (.int 1))) aNil))) aNil)) aNil))))))
      (dExpr (eM mAppend (eVar 6) (aCons (eTup (aCons (eVar 9) (aCons (eVar 10) aNil))) aNil)))))))
    (dRet (eVar 6)))))))
def f_nexts : DF := fnD 11 b_nexts
/-- chains(row, kind, gap, length): slots row 0, kind 1, gap 2, length 3, leads 4, found 5, p 6, there 7, chain 8; cells chain, found -/
def b_chains : DS :=
    (dSeq (dAsg (.name 4) (eFrz (eCall f_leads_of (aCons (eFrz (eCall f_nexts (aCons (eVar 0) (aCons (eVar 1) (aCons (eVar 2) (aCons (eVar 3) aNil)))))) aNil))))
    (dSeq (dAsg (.name 5) (eLst true aNil))
    (dSeq (dFor (iEn (aCons (eVar 4) aNil)) (.tup [(.name 6), (.name 7)]) (dWipe [6, 7, 8] (dIf (Rw.tAnd (tVal (e1 oNotN (eVar 7))) (tVal (e2 (oIn true) (eVar 6) (eVar 4)))) (dSeq (dAsg (.name 8) (eLst true (aCons (eVar 6) aNil)))
        (dSeq (dWhile (tVal (e1 oNotN (e2 oIx (eVar 4) (e2 oIx (eVar 8) (e1 oNeg (eC (.int 1))))))) (dExpr (eM mAppend (eVar 8) (aCons (e2 oIx (eVar 4) (e2 oIx (eVar 8) (e1 oNeg (eC (.int 1))))) aNil))))
        (dExpr (eM mAppend (eVar 5) (aCons (eFrzC (eVar 8)) aNil))))) dPass)))
    (dRet (eVar 5)))))
def f_chains : DF := fnD 9 b_chains
/-- _law_number(_law_purse_here, _law_way): slots _law_purse_here 0, _law_way 1; cells _law_purse_here -/
def b__law_number : DS :=
    (dSeq (dIf (tVal (e2 oEq (eVar 1) (eC (.int 0)))) (dRet (eCall f__law_draw (aCons (eVar 0) (aCons (eC (.int 2)) aNil)))) dPass)
    (dSeq (dIf (tVal (e2 oEq (eVar 1) (eC (.int 1)))) (dRet (e2 oSub (eCall f__law_draw (aCons (eVar 0) (aCons (eC (.int 5)) aNil))) (eC (.int 2)))) dPass)
    (dSeq (dIf (tVal (e2 oEq (eVar 1) (eC (.int 2)))) (dRet (e2 oSub (eCall f__law_draw (aCons (eVar 0) (aCons (eC (.int 199)) aNil))) (eC (.int 99)))) dPass)
    (dRet (e2 oIx (eLst false (aCons (e2 (oAdd false) (e2 oSub (eCall f__law_draw (aCons (eVar 0) (aCons (e2 oSub (e2 (oMulU false) (eC (.int 2)) (e2 oPow (eC (.int 10)) (eC (.int 9)))) (eC (.int 1))) aNil))) (e2 oPow (eC (.int 10)) (eC (.int 9)))) (eC (.int 1))) (aCons (e2 oSub (e2 oPow (eC (.int 10)) (eC (.int 9))) (eC (.int 1))) (aCons (e2 oSub (eC (.int 1)) (e2 oPow (eC (.int 10)) (eC (.int 9)))) aNil)))) (eCall f__law_draw (aCons (eVar 0) (aCons (eC (.int 3)) aNil))))))))
def f__law_number : DF := fnD 2 b__law_number
/-- _law_row(_law_purse_here, _law_most): slots _law_purse_here 0, _law_most 1, _law_many 2, _law_way 3, _law_found 4, _law_k 5; cells _law_found, _law_purse_here -/
def b__law_row : DS :=
    (dSeq (dAsg (.name 2) (eCall f__law_draw (aCons (eVar 0) (aCons (e2 (oAdd false) (eVar 1) (eC (.int 1))) aNil))))
    (dSeq (dAsg (.name 3) (eCall f__law_draw (aCons (eVar 0) (aCons (eC (.int 5)) aNil))))
    (dSeq (dAsg (.name 4) (eLst true aNil))
    (dSeq (dFor (iR1 (aCons (eVar 2) aNil)) (.name 5) (dWipe [5] (dIf (Rw.tAnd (tVal (e2 oEq (eVar 3) (eC (.int 4)))) (Rw.tAnd (tVal (e2 oGt (eVar 5) (eC (.int 2)))) (tVal (e2 oGt (eCall f__law_draw (aCons (eVar 0) (aCons (eC (.int 4)) aNil))) (eC (.int 0)))))) (dExpr (eM mAppend (eVar 4) (aCons (e2 (oMulU false) (e2 oIx (eVar 4) (e2 oSub (eVar 5) (eC (.int 3)))) (e2 oIx (eLst false (aCons (eC (.int 1)) (aCons (eC (.int 1)) (aCons (eC (.int 2)) aNil)))) (e2 (oMulU false) (e2 oMod (eVar 5) (eC (.int 3))) (eA oInt (aCons (e2 oLt (eA oAbs (aCons (e2 oIx (eVar 4) (e2 oSub (eVar 5) (eC (.int 3)))) aNil)) (e2 oPow (eC (.int 10)) (eC (.int 8)))) aNil))))) aNil))) (dExpr (eM mAppend (eVar 4) (aCons (eCall f__law_number (aCons (eVar 0) (aCons (e2 oMod (eVar 3) (eC (.int 4))) aNil))) aNil))))))
    (dRet (eVar 4))))))
def f__law_row : DF := fnD 6 b__law_row
/-- _law_one(_law_purse_here): slots _law_purse_here 0; cells _law_purse_here -/
def b__law_one : DS :=
    (dRet (eCall f__law_row (aCons (eVar 0) (aCons (e2 oIx (eLst false (aCons (eC (.int 9)) (aCons (eC (.int 24)) (aCons (eC (.int 40)) aNil)))) (e2 oDiv (eCall f__law_draw (aCons (eVar 0) (aCons (eC (.int 8)) aNil))) (eC (.int 3)))) aNil))))
def f__law_one : DF := fnD 1 b__law_one
/-- lots(row, kind, gap, length, fraction): slots row 0, kind 1, gap 2, length 3, fraction 4, some 5, found 6, left 7, lot 8, at 9, p 10, near 11, q 12; cells found, left -/
def b_lots : DS :=
    (dSeq (dExpr (eCall f_must_ask (aCons (eVar 1) (aCons (eVar 2) (aCons (eVar 3) aNil)))))
    (dSeq (dAsg (.name 5) (eCall f_stretches (aCons (eVar 0) (aCons (eVar 3) aNil))))
    (dSeq (dAsg (.name 6) (eLst true aNil))
    (dSeq (dAsg (.name 7) (eA (oListR1 true) (aCons (eA oLen (aCons (eVar 5) aNil)) aNil)))
    (dSeq (dWhile (tVal (e2 oGt (eA oLen (aCons (eVar 7) aNil)) (eC (.int 0)))) (dWipe [8, 9, 10, 11] (dSeq (dAsg (.name 8) (eLst false (aCons (eM mPop (eVar 7) (aCons (eC (.int 0)) aNil)) aNil)))
      (dSeq (dAsg (.name 9) (eC (.int 0)))
      (dPre [10, 11] (dSeq (dWhile (tVal (e2 oLt (eVar 9) (eA oLen (aCons (eVar 8) aNil)))) (dWipe [10, 11] (dSeq (dAsg (.name 10) (e2 oIx (eVar 8) (eVar 9)))
        (dSeq (dAsg (.name 11) (eComp false (iS (eVar 7)) (.name 12) (Rw.tAnd (tVal (e2 oGe (eA oAbs (aCons (e2 oSub (eVar 12) (eVar 10)) aNil)) (eVar 2))) (Rw.tNot (tVal (eCall f_is_less (aCons (eVar 4) (aCons (eCall f_far_told (aCons (eVar 1) (aCons (e2 oIx (eVar 5) (eVar 10)) (aCons (e2 oIx (eVar 5) (eVar 12)) aNil)))) aNil)))))) (eVar 12) [12]))
        (dSeq (dAsg (.name 8) (e2 (oAdd false) (eVar 8) (eVar 11)))
        (dSeq (dAsg (.name 7) (eComp true (iS (eVar 7)) (.name 12) (tVal (e2 (oIn true) (eVar 12) (eVar 11))) (eVar 12) [12]))
        (dAug 9 (oI fun i j => .int (i + j)) (eC (.int 1)))))))))
      (dExpr (eM mAppend (eVar 6) (aCons (eA (oSorted false) (aCons (eVar 8) aNil)) aNil)))))))))
    (dRet (eVar 6)))))))
def f_lots : DF := fnD 13 b_lots
/-- _law_less(_law_one_here, _law_other): slots _law_one_here 0, _law_other 1 -/
def b__law_less : DS :=
    (dRet (e2 oLt (e2 (oMulU false) (e2 oIx (eVar 0) (eC (.int 0))) (e2 oIx (eVar 1) (eC (.int 1)))) (e2 (oMulU false) (e2 oIx (eVar 1) (eC (.int 0))) (e2 oIx (eVar 0) (eC (.int 1))))))
def f__law_less : DF := fnD 2 b__law_less
/-- must_place(row, length, place): slots row 0, length 1, place 2 -/
def b_must_place : DS :=
    (dIf (Rw.tNot (tVal (eChain oLe oLt (eC (.int 0)) (eVar 2) (eCall f_count_of (aCons (eVar 0) (aCons (eVar 1) aNil)))))) dNever dPass)
def f_must_place : DF := fnD 3 b_must_place
/-- far(row, kind, length, p, q): slots row 0, kind 1, length 2, p 3, q 4 -/
def b_far : DS :=
    (dSeq (dExpr (eCall f_must_kind (aCons (eVar 1) aNil)))
    (dSeq (dExpr (eCall f_must_length (aCons (eVar 2) aNil)))
    (dSeq (dExpr (eCall f_must_place (aCons (eVar 0) (aCons (eVar 2) (aCons (eVar 3) aNil)))))
    (dSeq (dExpr (eCall f_must_place (aCons (eVar 0) (aCons (eVar 2) (aCons (eVar 4) aNil)))))
    (dRet (eCall f_far_told (aCons (eVar 1) (aCons (eCall f_stretch (aCons (eVar 0) (aCons (eVar 2) (aCons (eVar 3) aNil)))) (aCons (eCall f_stretch (aCons (eVar 0) (aCons (eVar 2) (aCons (eVar 4) aNil)))) aNil)))))))))
def f_far : DF := fnD 5 b_far
/-- _law_within(_law_finer, _law_coarser): slots _law_finer 0, _law_coarser 1, _law_lot 2, _law_other 3, _law_p 4 -/
def b__law_within : DS :=
    (dSeq (dFor (iS (eVar 0)) (.name 2) (dWipe [2, 3] (dPre [3] (dFor (iS (eVar 1)) (.name 3) (dWipe [3] (dIf (Rw.tAnd (tVal (e2 (oIn false) (e2 oIx (eVar 2) (eC (.int 0))) (eVar 3))) (tVal (e2 oGt (eA oLen (aCons (eComp false (iS (eVar 2)) (.name 4) (tVal (e2 (oIn true) (eVar 4) (eVar 3))) (eVar 4) [4]) aNil)) (eC (.int 0))))) (dRet (eC (.bl false))) dPass))))))
    (dRet (eC (.bl true))))
def f__law_within : DF := fnD 5 b__law_within
/-- _law_together(_law_told, _law_fars, _law_gap_here, _law_mark): slots _law_told 0, _law_fars 1, _law_gap_here 2, _law_mark 3, _law_lot 4, _law_there 5, _law_at_here 6, _law_p 7, _law_q 8; cells _law_there -/
def b__law_together : DS :=
    (dSeq (dFor (iS (eVar 0)) (.name 4) (dWipe [4, 5, 6, 7, 8] (dSeq (dAsg (.name 5) (eLst true (aCons (e2 oIx (eVar 4) (eC (.int 0))) aNil)))
      (dSeq (dAsg (.name 6) (eC (.int 0)))
      (dPre [7, 8] (dSeq (dWhile (tVal (e2 oLt (eVar 6) (eA oLen (aCons (eVar 5) aNil)))) (dWipe [7, 8] (dSeq (dAsg (.name 7) (e2 oIx (eVar 5) (eVar 6)))
        (dPre [8] (dSeq (dFor (iS (eVar 4)) (.name 8) (dWipe [8] (dIf (Rw.tAnd (tVal (e2 (oIn true) (eVar 8) (eVar 5))) (Rw.tAnd (tVal (e2 oGe (eA oAbs (aCons (e2 oSub (eVar 8) (eVar 7)) aNil)) (eVar 2))) (Rw.tNot (tVal (eCall f__law_less (aCons (eVar 3) (aCons (eKGet (eVar 1) (eTup (aCons (eVar 7) (aCons (eVar 8) aNil)))) aNil))))))) (dExpr (eM mAppend (eVar 5) (aCons (eVar 8) aNil))) dPass)))
        (dAsg (.name 6) (e2 (oAdd false) (eVar 6) (eC (.int 1)))))))))
      (dIf (tVal (e2 oNe (eA (oSorted false) (aCons (eVar 5) aNil)) (eVar 4))) (dRet (eC (.bl false))) dPass)))))))
    (dRet (eC (.bl true))))
def f__law_together : DF := fnD 9 b__law_together
/-- _law_fine(_law_told, _law_fars, _law_many, _law_gap_here, _law_mark): slots _law_told 0, _law_fars 1, _law_many 2, _law_gap_here 3, _law_mark 4, _law_within_here 5, _law_every 6, _law_k 7, _law_lot 8, _law_place 9, _law_p 10, _law_q 11; cells _law_within_here -/
def b__law_fine : DS :=
    (dNew 5
    (kSeq (kAsg (.name 6) fun T => (eLst false aNil))
    (kSeq (kFor (iEn (aCons (eVar 0) aNil)) (.tup [(.name 7), (.name 8)]) (kWipe [7, 8, 9] (kSeq (kAsg (.name 6) fun T => (e2 (oAdd false) (eVar 6) (eVar 8)))
      (kPre [9] (kFor (iS (eVar 8)) (.name 9) (kWipe [9] (kPutI (eVar 9) fun T => (eVar 7))))))))
    (kSeq (kIf (fun T => (tVal (e2 oNe (eA (oSorted false) (aCons (eVar 6) aNil)) (eA (oListR1 false) (aCons (eVar 2) aNil))))) (kRet fun T => (eC (.bl false))) kPass)
    (kSeq (kForT (eVar 1)  [(.name 10), (.name 11)] (kWipe [10, 11] (kIf (fun T => (Rw.tAnd (tVal (e2 oGe (eA oAbs (aCons (e2 oSub (eVar 11) (eVar 10)) aNil)) (eVar 3))) (Rw.tAnd (Rw.tNot (tVal (eCall f__law_less (aCons (eVar 4) (aCons (eKGet (eVar 1) (eTup (aCons (eVar 10) (aCons (eVar 11) aNil)))) aNil))))) (tVal (e2 oNe (eGet false (eVar 10) T) (eGet false (eVar 11) T)))))) (kRet fun T => (eC (.bl false))) kPass)))
    (kRet fun T => (eCall f__law_together (aCons (eVar 0) (aCons (eVar 1) (aCons (eVar 3) (aCons (eVar 4) aNil)))))))))))
def f__law_fine : DF := fnD 12 b__law_fine
/-- law(_law_script): slots _law_script 0, _law_k 1, _law_purse_here 2, _law_row_here 3, _law_kind_here 4, _law_gap_here 5, _law_length_here 6, _law_many 7, _law_fars 8, _law_p 9, _law_q 10, _law_last 11, _law_mark 12, _law_turn 13, _law_new 14, _law_told 15, _law_chain 16, _law_most 17; cells _law_fars, _law_purse_here -/
def b_law : DS :=
    (dSeq (dFor (iR1 (aCons (eC (.int 3)) aNil)) (.name 1) (dWipe [1, 2, 3, 4, 5, 6, 7, 8, 9, 10, 11, 12, 13, 14, 15, 16, 17] (dSeq (dAsg (.name 2) (eCall f__law_purse (aCons (eVar 0) (aCons (eVar 1) aNil))))
      (dSeq (dAsg (.name 3) (eSl (slU false) (eFrz (eCall f__law_one (aCons (eVar 2) aNil))) pNone (pSome (eC (.int 24)))))
      (dSeq (dAsg (.name 4) (eCall f__law_kind (aCons (eVar 2) aNil)))
      (dSeq (dAsg (.name 5) (eCall f__law_gap (aCons (eVar 2) (aCons (eVar 3) aNil))))
      (dSeq (dAsg (.name 6) (eCall f__law_length (aCons (eVar 2) (aCons (eVar 3) aNil))))
      (dSeq (dAsg (.name 7) (eA oMax2 (aCons (eC (.int 0)) (aCons (e2 (oAdd false) (e2 oSub (eA oLen (aCons (eVar 3) aNil)) (eVar 6)) (eC (.int 1))) aNil))))
      (dNew 8
      (kPre [9, 10] (kSeq (kFor (iR1 (aCons (eVar 7) aNil)) (.name 9) (kWipe [9, 10] (kPre [10] (kFor (iR1 (aCons (eVar 7) aNil)) (.name 10) (kWipe [10] (kPut (aCons (eVar 9) (aCons (eVar 10) aNil)) fun T => (eCall f_far (aCons (eVar 3) (aCons (eVar 4) (aCons (eVar 6) (aCons (eVar 9) (aCons (eVar 10) aNil))))))))))))
      (kSeq (kIf (fun T => (tVal (e2 oNe (eFrz (eCall f_lots (aCons (eVar 3) (aCons (eVar 4) (aCons (eVar 5) (aCons (eVar 6) (aCons (eTup (aCons (e1 oNeg (eC (.int 1))) (aCons (eC (.int 7)) aNil))) aNil))))))) (eComp false (iR1 (aCons (eVar 7) aNil)) (.name 9) Rw.tYes (eLst false (aCons (eVar 9) aNil)) [9])))) (kRet fun T => (eC (.bl false))) kPass)
      (kSeq (kAsg (.name 11) fun T => eComp false (iR1 (aCons (eVar 7) aNil)) (.name 9) Rw.tYes (eLst false (aCons (eVar 9) aNil)) [9])
      (kSeq (kAsg (.name 12) fun T => (eTup (aCons (eC (.int 0)) (aCons (eC (.int 1)) aNil))))
      (kPre [13, 14, 15] (kSeq (kFor (iR1 (aCons (e2 (oMulU false) (eC (.int 3)) (eA oInt (aCons (e2 oGt (eVar 7) (eC (.int 0))) aNil))) aNil)) (.name 13) (kWipe [13, 14, 15] (kSeq (kAsg (.name 14) fun T => (eGet true (eTup (aCons (eCall f__law_draw (aCons (eVar 2) (aCons (eVar 7) aNil))) (aCons (eCall f__law_draw (aCons (eVar 2) (aCons (eVar 7) aNil))) aNil))) T))
        (kSeq (kIf (fun T => (tVal (eCall f__law_less (aCons (eVar 12) (aCons (eVar 14) aNil))))) (kAsg (.name 12) fun T => (eVar 14)) kPass)
        (kSeq (kAsg (.name 15) fun T => (eFrz (eCall f_lots (aCons (eVar 3) (aCons (eVar 4) (aCons (eVar 5) (aCons (eVar 6) (aCons (eVar 12) aNil))))))))
        (kSeq (kIf (fun T => (Rw.tOr (Rw.tNot (tVal (eLoan f__law_fine (fun T => (aCons (eVar 15) (aCons (eSelf true T) (aCons (eVar 7) (aCons (eVar 5) (aCons (eVar 12) aNil)))))) T))) (Rw.tNot (tVal (eCall f__law_within (aCons (eVar 11) (aCons (eVar 15) aNil))))))) (kRet fun T => (eC (.bl false))) kPass)
        (kAsg (.name 11) fun T => (eVar 15))))))))
      (kPre [9, 10, 16, 17] (kFor (iS (eFrz (eCall f_chains (aCons (eVar 3) (aCons (eVar 4) (aCons (eVar 5) (aCons (eVar 6) aNil))))))) (.name 16) (kWipe [9, 10, 16, 17] (kSeq (kAsg (.name 17) fun T => (eTup (aCons (eC (.int 0)) (aCons (eC (.int 1)) aNil))))
        (kPre [9, 10] (kSeq (kFor (iZ (aCons (eVar 16) (aCons (eSl (slU false) (eVar 16) (pSome (eC (.int 1))) pNone) aNil))) (.tup [(.name 9), (.name 10)]) (kWipe [9, 10] (kIf (fun T => (tVal (eCall f__law_less (aCons (eVar 17) (aCons (eGet true (eTup (aCons (eVar 9) (aCons (eVar 10) aNil))) T) aNil))))) (kAsg (.name 17) fun T => (eGet true (eTup (aCons (eVar 9) (aCons (eVar 10) aNil))) T)) kPass)))
        (kIf (fun T => (Rw.tNot (tVal (eCall f__law_within (aCons (eLst false (aCons (eVar 16) aNil)) (aCons (eFrz (eCall f_lots (aCons (eVar 3) (aCons (eVar 4) (aCons (eVar 5) (aCons (eVar 6) (aCons (eVar 17) aNil))))))) aNil)))))) (kRet fun T => (eC (.bl false))) kPass)))))))))))))))))))))))
    (dRet (eC (.bl true))))
def f_law : DF := fnD 18 b_law
end
end Lk70
end PDk70
section PRwOk
set_option autoImplicit false
set_option linter.all false
set_option maxRecDepth 100000
/-! RwOk: what a pure reading comes to, pushed through its parts by simp. -/
namespace Rw
open PySem (Str)
/-- it comes to something of which P holds -/
def Ok {α : Type} (o : Option α) (P : α → Prop) : Prop := ∃ x, o = some x ∧ P x
section
variable {α β : Type} {P : α → Prop} {ρ : DEnv} {M : DSt}
@[simp ↓] theorem ok_some {x : α} : Ok (some x) P ↔ P x := ⟨fun ⟨y, e, h⟩ => by cases e; exact h, fun h => ⟨x, rfl, h⟩⟩
@[simp ↓] theorem ok_none : Ok (none : Option α) P ↔ False := ⟨fun ⟨y, e, h⟩ => (nomatch e), fun h => h.elim⟩
@[simp ↓] theorem ok_grd {p : Prop} {o : Option α} : Ok (grd p o) P ↔ p ∧ Ok o P := by
  constructor
  · rintro ⟨x, e, h⟩
    obtain ⟨a, b⟩ := grd_some e
    exact ⟨a, x, b, h⟩
  · rintro ⟨a, x, b, h⟩
    exact ⟨x, by rw [grd_ok a]; exact b, h⟩
theorem Ok.mono {o : Option α} {Q : α → Prop} (h : Ok o P) (k : ∀ x, P x → Q x) : Ok o Q := let ⟨x, e, p⟩ := h; ⟨x, e, k x p⟩
theorem Ok.of {o : Option α} {x : α} (e : o = some x) (h : P x) : Ok o P := ⟨x, e, h⟩
theorem ok_eq {o : Option α} {x : α} (h : Ok o fun y => y = x) : o = some x := let ⟨_, e, p⟩ := h; p ▸ e
end
/-- the value of a slot; a value of a kind -/
def getV : DEnv → Nat → Option Dv
  | [], _ => none
  | x :: _, 0 => x
  | _ :: r, i + 1 => getV r i
theorem getV_eq : ∀ (ρ : DEnv) (i : Nat), getV ρ i = (ρ[i]?).join
  | [], _ => by simp [getV]
  | x :: r, 0 => by simp [getV]
  | x :: r, i + 1 => by simp [getV, getV_eq r i]
def asB : Dv → Option Bool
  | .d (.bl b) => some b
  | _ => none
def asI : Dv → Option Int
  | .d (.int b) => some b
  | _ => none
def asD : Dv → Option D
  | .d x => some x
  | _ => none
def asC : Dv → Option Nat
  | .c n => some n
  | _ => none
/-- the cell n of the store -/
def cel (M : DSt) (n : Nat) : Option (List D) := (M[n]?).join
/-- the item at a place -/
def atD (xs : List D) (i : Int) : Option D := match ixD xs.length i with
  | some k => xs[k]?
  | none => none
section
variable {α : Type} {x : Dv} {y : Option Dv} {r : DEnv} {i : Nat} {P : Dv → Prop}
@[simp ↓] theorem ok_getV0 : Ok (getV (some x :: r) 0) P ↔ P x := by simp [getV]
@[simp ↓] theorem ok_getV0n : Ok (getV (none :: r) 0) P ↔ False := by simp [getV]
@[simp ↓] theorem ok_getVs : Ok (getV (y :: r) (i + 1)) P ↔ Ok (getV r i) P := by simp [getV]
@[simp ↓] theorem ok_asB {b : Bool} {P : Bool → Prop} : Ok (asB (.d (.bl b))) P ↔ P b := by simp [asB]
@[simp ↓] theorem ok_asI {b : Int} {P : Int → Prop} : Ok (asI (.d (.int b))) P ↔ P b := by simp [asI]
@[simp ↓] theorem ok_asD {b : D} {P : D → Prop} : Ok (asD (.d b)) P ↔ P b := by simp [asD]
@[simp ↓] theorem ok_asC {b : Nat} {P : Nat → Prop} : Ok (asC (.c b)) P ↔ P b := by simp [asC]
theorem celOk {M : DSt} {n : Nat} {xs : List D} (h : M[n]? = some (some xs)) (P : List D → Prop) : Ok (cel M n) P ↔ P xs := by simp [cel, h]
end
section
variable {ρ : DEnv} {M : DSt} {P : Dv × DSt → Prop}
@[simp ↓] theorem ok_var {i : Nat} : Ok (eVar i ρ M) P ↔ Ok (getV ρ i) fun x => P (x, M) := by
  unfold eVar
  rw [getV_eq]
  cases e : ρ[i]? with
  | none => simp
  | some o => cases o <;> simp
@[simp ↓] theorem ok_c {d : D} : Ok (eC d ρ M) P ↔ P (.d d, M) := by simp [eC]
@[simp ↓] theorem ok_e1 {f : O1} {a : DE} : Ok (e1 f a ρ M) P ↔ Ok (a ρ M) fun p => Ok (f p.1 p.2) P := by
  unfold e1
  cases a ρ M <;> simp
@[simp ↓] theorem ok_e2 {f : O2} {a b : DE} : Ok (e2 f a b ρ M) P ↔ Ok (a ρ M) fun p => Ok (b ρ p.2) fun q => Ok (f p.1 q.1 q.2) P := by
  unfold e2
  cases a ρ M with
  | none => simp
  | some p =>
    obtain ⟨x, M1⟩ := p
    simp only [ok_some]
    cases b ρ M1 <;> simp
@[simp ↓] theorem ok_aNil {P : List Dv × DSt → Prop} : Ok (aNil ρ M) P ↔ P ([], M) := by simp [aNil]
@[simp ↓] theorem ok_aCons {a : DE} {as : DA} {P : List Dv × DSt → Prop} : Ok (aCons a as ρ M) P ↔ Ok (a ρ M) fun p => Ok (as ρ p.2) fun q => P (p.1 :: q.1, q.2) := by
  unfold aCons
  cases a ρ M with
  | none => simp
  | some p =>
    obtain ⟨x, M1⟩ := p
    simp only [ok_some]
    cases as ρ M1 <;> simp
@[simp ↓] theorem ok_eA {f : OA} {as : DA} : Ok (eA f as ρ M) P ↔ Ok (as ρ M) fun p => Ok (f p.1 p.2) P := by
  unfold eA
  cases as ρ M <;> simp
@[simp ↓] theorem ok_call {f : DF} {as : DA} : Ok (eCall f as ρ M) P ↔ Ok (as ρ M) fun p => Ok (f p.1 p.2) P := by
  unfold eCall
  exact ok_eA
@[simp ↓] theorem ok_eM {f : Dv → List Dv → DSt → Option (Dv × DSt)} {a : DE} {as : DA} : Ok (eM f a as ρ M) P ↔ Ok (a ρ M) fun p => Ok (as ρ p.2) fun q => Ok (f p.1 q.1 q.2) P := by
  unfold eM
  cases a ρ M with
  | none => simp
  | some p =>
    obtain ⟨x, M1⟩ := p
    simp only [ok_some]
    cases as ρ M1 <;> simp
@[simp ↓] theorem ok_eTup {as : DA} : Ok (eTup as ρ M) P ↔ Ok (as ρ M) fun p => Ok (allD p.1) fun xs => xs.length ≤ big ∧ P (.d (.tup xs), p.2) := by
  unfold eTup
  rw [ok_eA]
  constructor <;> (intro h; refine h.mono fun p hp => ?_) <;> (cases e : allD p.1 <;> simp [e] at hp ⊢ <;> exact hp)
@[simp ↓] theorem ok_eLst {c : Bool} {as : DA} : Ok (eLst c as ρ M) P ↔ Ok (as ρ M) fun p => Ok (allD p.1) fun xs => xs.length ≤ big ∧ Ok (mkL c xs p.2) P := by
  unfold eLst
  rw [ok_eA]
  constructor <;> (intro h; refine h.mono fun p hp => ?_) <;> (cases e : allD p.1 <;> simp [e] at hp ⊢ <;> exact hp)
@[simp ↓] theorem ok_chain {f g : O2} {a b c : DE} : Ok (eChain f g a b c ρ M) P ↔ Ok (a ρ M) fun p => Ok (b ρ p.2) fun q => Ok (f p.1 q.1 q.2) fun r => Ok (asB r.1) fun k => if k = true then Ok (c ρ r.2) fun s => Ok (g q.1 s.1 s.2) P else P (.d (.bl false), r.2) := by
  unfold eChain
  cases a ρ M with
  | none => simp
  | some p =>
    obtain ⟨x, M1⟩ := p
    simp only [ok_some]
    cases b ρ M1 with
    | none => simp
    | some q =>
      obtain ⟨y, M2⟩ := q
      simp only [ok_some]
      cases f x y M2 with
      | none => simp
      | some r =>
        obtain ⟨z, M3⟩ := r
        simp only [ok_some]
        cases z with
        | c n => simp [asB]
        | r n => simp [asB]
        | o _ _ _ => simp [asB]
        | k _ _ => simp [asB]
        | d z =>
          cases z with
          | bl k =>
            cases k
            · simp
            · simp only [ok_asB, if_true]
              cases c ρ M3 <;> simp
          | _ => simp [asB]
@[simp ↓] theorem ok_eAnd {a b : DE} : Ok (eAnd a b ρ M) P ↔ Ok (a ρ M) fun p => Ok (asB p.1) fun k => if k = true then Ok (b ρ p.2) P else P (.d (.bl false), p.2) := by
  unfold eAnd
  cases a ρ M with
  | none => simp
  | some p =>
    obtain ⟨z, M3⟩ := p
    cases z with
    | c n => simp [asB]
    | r n => simp [asB]
    | o _ _ _ => simp [asB]
    | k _ _ => simp [asB]
    | d z =>
      cases z with
      | bl k => cases k <;> simp
      | _ => simp [asB]
@[simp ↓] theorem ok_eOr {a b : DE} : Ok (eOr a b ρ M) P ↔ Ok (a ρ M) fun p => Ok (asB p.1) fun k => if k = true then P (.d (.bl true), p.2) else Ok (b ρ p.2) P := by
  unfold eOr
  cases a ρ M with
  | none => simp
  | some p =>
    obtain ⟨z, M3⟩ := p
    cases z with
    | c n => simp [asB]
    | r n => simp [asB]
    | o _ _ _ => simp [asB]
    | k _ _ => simp [asB]
    | d z =>
      cases z with
      | bl k => cases k <;> simp
      | _ => simp [asB]
@[simp ↓] theorem ok_eNot {a : DE} : Ok (eNot a ρ M) P ↔ Ok (a ρ M) fun p => Ok (asB p.1) fun k => P (.d (.bl (!k)), p.2) := by
  unfold eNot
  cases a ρ M with
  | none => simp
  | some p =>
    obtain ⟨z, M3⟩ := p
    cases z with
    | c n => simp [asB]
    | r n => simp [asB]
    | o _ _ _ => simp [asB]
    | k _ _ => simp [asB]
    | d z =>
      cases z with
      | bl k => cases k <;> simp
      | _ => simp [asB]
@[simp ↓] theorem ok_eIf {t : DT} {a b : DE} : Ok (eIf t a b ρ M) P ↔ Ok (t ρ M) fun p => if p.1 = true then Ok (a ρ p.2) P else Ok (b ρ p.2) P := by
  unfold eIf
  cases t ρ M with
  | none => simp
  | some p =>
    obtain ⟨k, M3⟩ := p
    cases k <;> simp
@[simp ↓] theorem ok_eFrz {a : DE} : Ok (eFrz a ρ M) P ↔ Ok (a ρ M) fun p => Ok (frz M.length p) P := by
  unfold eFrz
  cases a ρ M <;> simp
@[simp ↓] theorem ok_eFrzC {a : DE} : Ok (eFrzC a ρ M) P ↔ Ok (a ρ M) fun p => Ok (asC p.1) fun n => Ok (cel p.2 n) fun xs => P (.d (.lst xs), p.2.set n none) := by
  unfold eFrzC
  cases a ρ M with
  | none => simp
  | some p =>
    obtain ⟨z, M3⟩ := p
    cases z with
    | d z => simp [asC]
    | r n => simp [asC]
    | o _ _ _ => simp [asC]
    | k _ _ => simp [asC]
    | c n =>
      simp only [ok_some, ok_asC]
      unfold cel
      cases e : (M3[n]?).join with
      | none => simp
      | some xs => simp
@[simp ↓] theorem ok_eSl {f : Dv → Option Int → Option Int → DSt → Option (Dv × DSt)} {a : DE} {lo hi : DO} : Ok (eSl f a lo hi ρ M) P ↔ Ok (a ρ M) fun p => Ok (lo ρ p.2) fun q => Ok (hi ρ q.2) fun r => Ok (f p.1 q.1 r.1 r.2) P := by
  unfold eSl
  cases a ρ M with
  | none => simp
  | some p =>
    obtain ⟨x, M1⟩ := p
    simp only [ok_some]
    cases lo ρ M1 with
    | none => simp
    | some q =>
      obtain ⟨y, M2⟩ := q
      simp only [ok_some]
      cases hi ρ M2 <;> simp
@[simp ↓] theorem ok_pNone {P : Option Int × DSt → Prop} : Ok (pNone ρ M) P ↔ P (none, M) := by simp [pNone]
@[simp ↓] theorem ok_pSome {a : DE} {P : Option Int × DSt → Prop} : Ok (pSome a ρ M) P ↔ Ok (a ρ M) fun p => Ok (asI p.1) fun i => P (some i, p.2) := by
  unfold pSome
  cases a ρ M with
  | none => simp
  | some p =>
    obtain ⟨z, M3⟩ := p
    cases z with
    | c n => simp [asI]
    | r n => simp [asI]
    | o _ _ _ => simp [asI]
    | k _ _ => simp [asI]
    | d z => cases z <;> simp [asI]
end
section
variable {ρ : DEnv} {M : DSt} {P : Bool × DSt → Prop}
@[simp ↓] theorem ok_tVal {a : DE} : Ok (tVal a ρ M) P ↔ Ok (a ρ M) fun p => Ok (asB p.1) fun b => P (b, p.2) := by
  unfold tVal
  cases a ρ M with
  | none => simp
  | some p =>
    obtain ⟨z, M3⟩ := p
    cases z with
    | c n => simp [asB]
    | r n => simp [asB]
    | o _ _ _ => simp [asB]
    | k _ _ => simp [asB]
    | d z => cases z <;> simp [asB]
@[simp ↓] theorem ok_tAnd {a b : DT} : Ok (Rw.tAnd a b ρ M) P ↔ Ok (a ρ M) fun p => if p.1 = true then Ok (b ρ p.2) P else P (false, p.2) := by
  unfold tAnd
  cases a ρ M with
  | none => simp
  | some p =>
    obtain ⟨k, M3⟩ := p
    cases k <;> simp
@[simp ↓] theorem ok_tOr {a b : DT} : Ok (Rw.tOr a b ρ M) P ↔ Ok (a ρ M) fun p => if p.1 = true then P (true, p.2) else Ok (b ρ p.2) P := by
  unfold tOr
  cases a ρ M with
  | none => simp
  | some p =>
    obtain ⟨k, M3⟩ := p
    cases k <;> simp
@[simp ↓] theorem ok_tNot {a : DT} : Ok (Rw.tNot a ρ M) P ↔ Ok (a ρ M) fun p => P (!p.1, p.2) := by
  unfold tNot
  cases a ρ M <;> simp
@[simp ↓] theorem ok_tYes : Ok (tYes ρ M) P ↔ P (true, M) := by simp [tYes]
end
section
variable {ρ : DEnv} {M : DSt} {P : Out → Prop}
/-- what follows a statement -/
def seqP (t : DS) (P : Out → Prop) : Out → Prop
  | .nx ρ M => Ok (t ρ M) P
  | .rt v M => P (.rt v M)
  | .bk ρ M => P (.bk ρ M)
  | .ct ρ M => P (.ct ρ M)
@[simp ↓] theorem seqP_nx {t : DS} : seqP t P (.nx ρ M) ↔ Ok (t ρ M) P := Iff.rfl
@[simp ↓] theorem seqP_rt {t : DS} {v : Dv} : seqP t P (.rt v M) ↔ P (.rt v M) := Iff.rfl
@[simp ↓] theorem seqP_bk {t : DS} : seqP t P (.bk ρ M) ↔ P (.bk ρ M) := Iff.rfl
@[simp ↓] theorem seqP_ct {t : DS} : seqP t P (.ct ρ M) ↔ P (.ct ρ M) := Iff.rfl
@[simp ↓] theorem ok_seq {s t : DS} : Ok (dSeq s t ρ M) P ↔ Ok (s ρ M) (seqP t P) := by
  unfold dSeq
  cases s ρ M with
  | none => simp
  | some o => cases o <;> simp
@[simp ↓] theorem ok_pass : Ok (dPass ρ M) P ↔ P (.nx ρ M) := by simp [dPass]
@[simp ↓] theorem ok_break : Ok (dBreak ρ M) P ↔ P (.bk ρ M) := by simp [dBreak]
@[simp ↓] theorem ok_cont : Ok (dCont ρ M) P ↔ P (.ct ρ M) := by simp [dCont]
@[simp ↓] theorem ok_never : Ok (dNever ρ M) P ↔ False := by simp [dNever]
@[simp ↓] theorem ok_asg {tg : Tgt} {a : DE} : Ok (dAsg tg a ρ M) P ↔ Ok (a ρ M) fun p => Ok (tg.put p.1 ρ) fun ρ1 => P (.nx ρ1 p.2) := by
  unfold dAsg
  cases a ρ M with
  | none => simp
  | some p =>
    obtain ⟨x, M1⟩ := p
    simp only [ok_some]
    cases tg.put x ρ <;> simp
@[simp] theorem put_name {i : Nat} {v : Dv} : Tgt.put (.name i) v ρ = some (ρ.set i (some v)) := by simp [Tgt.put]
@[simp ↓] theorem ok_putN {i : Nat} {v : Dv} {P : DEnv → Prop} : Ok (Tgt.put (.name i) v ρ) P ↔ P (ρ.set i (some v)) := by simp
@[simp] theorem put_tup {ts : List Tgt} {xs : List D} : Tgt.put (.tup ts) (.d (.tup xs)) ρ = if xs.length = ts.length then Tgt.puts ts xs ρ else none := by simp [Tgt.put]
@[simp] theorem put_lst {ts : List Tgt} {xs : List D} : Tgt.put (.tup ts) (.d (.lst xs)) ρ = if xs.length = ts.length then Tgt.puts ts xs ρ else none := by simp [Tgt.put]
@[simp ↓] theorem ok_putT {ts : List Tgt} {xs : List D} {P : DEnv → Prop} : Ok (Tgt.put (.tup ts) (.d (.tup xs)) ρ) P ↔ xs.length = ts.length ∧ Ok (Tgt.puts ts xs ρ) P := by
  simp only [put_tup]
  split <;> simp_all
@[simp ↓] theorem ok_putL {ts : List Tgt} {xs : List D} {P : DEnv → Prop} : Ok (Tgt.put (.tup ts) (.d (.lst xs)) ρ) P ↔ xs.length = ts.length ∧ Ok (Tgt.puts ts xs ρ) P := by
  simp only [put_lst]
  split <;> simp_all
@[simp] theorem puts_nil : Tgt.puts [] [] ρ = some ρ := by simp [Tgt.puts]
@[simp] theorem puts_cons {t : Tgt} {ts : List Tgt} {x : D} {xs : List D} : Tgt.puts (t :: ts) (x :: xs) ρ = (t.put (.d x) ρ).bind (Tgt.puts ts xs) := by
  simp only [Tgt.puts]
  cases t.put (.d x) ρ <;> rfl
@[simp ↓] theorem ok_puts0 {P : DEnv → Prop} : Ok (Tgt.puts [] [] ρ) P ↔ P ρ := by simp
@[simp ↓] theorem ok_putsC {t : Tgt} {ts : List Tgt} {x : D} {xs : List D} {P : DEnv → Prop} : Ok (Tgt.puts (t :: ts) (x :: xs) ρ) P ↔ Ok (t.put (.d x) ρ) fun ρ1 => Ok (Tgt.puts ts xs ρ1) P := by
  rw [puts_cons]
  cases t.put (.d x) ρ <;> simp
@[simp ↓] theorem ok_par {i j : Nat} {a b : DE} : Ok (dPar i j a b ρ M) P ↔ Ok (a ρ M) fun p => Ok (b ρ p.2) fun q => P (.nx ((ρ.set i (some p.1)).set j (some q.1)) q.2) := by
  unfold dPar
  cases a ρ M with
  | none => simp
  | some p =>
    obtain ⟨x, M1⟩ := p
    simp only [ok_some]
    cases b ρ M1 <;> simp
@[simp ↓] theorem ok_aug {i : Nat} {f : O2} {a : DE} : Ok (dAug i f a ρ M) P ↔ Ok (getV ρ i) fun x => Ok (a ρ M) fun p => Ok (f x p.1 p.2) fun q => P (.nx (ρ.set i (some q.1)) q.2) := by
  unfold dAug
  rw [getV_eq]
  cases e : ρ[i]? with
  | none => simp
  | some o =>
    cases o with
    | none => simp
    | some x =>
      simp only [Option.join_some, ok_some]
      cases a ρ M with
      | none => simp
      | some p =>
        obtain ⟨y, M1⟩ := p
        simp only [ok_some]
        cases f x y M1 <;> simp
@[simp ↓] theorem ok_put {o i e : DE} : Ok (dPut o i e ρ M) P ↔ Ok (e ρ M) fun p => Ok (asD p.1) fun x => Ok (o ρ p.2) fun q => Ok (asC q.1) fun n => Ok (i ρ q.2) fun r => Ok (asI r.1) fun k => Ok (cel r.2 n) fun xs => Ok (ixD xs.length k) fun j => P (.nx ρ (setC r.2 n (xs.set j x))) := by
  unfold dPut
  cases e ρ M with
  | none => simp
  | some p =>
    obtain ⟨x, M1⟩ := p
    simp only [ok_some]
    cases x with
    | c n => simp [asD]
    | r n => simp [asD]
    | o _ _ _ => simp [asD]
    | k _ _ => simp [asD]
    | d x =>
      simp only [ok_asD]
      cases o ρ M1 with
      | none => simp
      | some q =>
        obtain ⟨y, M2⟩ := q
        simp only [ok_some]
        cases y with
        | d n => simp [asC]
        | r n => simp [asC]
        | o _ _ _ => simp [asC]
        | k _ _ => simp [asC]
        | c n =>
          simp only [ok_asC]
          cases i ρ M2 with
          | none => simp
          | some r =>
            obtain ⟨z, M3⟩ := r
            simp only [ok_some]
            cases z with
            | c n => simp [asI]
            | r n => simp [asI]
            | o _ _ _ => simp [asI]
            | k _ _ => simp [asI]
            | d z =>
              cases z with
              | int k =>
                simp only [ok_asI]
                unfold cel
                cases e1 : (M3[n]?).join with
                | none => simp
                | some xs =>
                  simp only [ok_some]
                  cases e2 : ixD xs.length k with
                  | none => simp
                  | some j => simp
              | _ => simp [asI]
@[simp ↓] theorem ok_expr {a : DE} : Ok (dExpr a ρ M) P ↔ Ok (a ρ M) fun p => P (.nx ρ p.2) := by
  unfold dExpr
  cases a ρ M <;> simp
@[simp ↓] theorem ok_ret {a : DE} : Ok (dRet a ρ M) P ↔ Ok (a ρ M) fun p => P (.rt p.1 p.2) := by
  unfold dRet
  cases a ρ M <;> simp
@[simp ↓] theorem ok_retN : Ok (dRetN ρ M) P ↔ P (.rt (.d .non) M) := by simp [dRetN]
@[simp ↓] theorem ok_if {t : DT} {a b : DS} : Ok (dIf t a b ρ M) P ↔ Ok (t ρ M) fun p => if p.1 = true then Ok (a ρ p.2) P else Ok (b ρ p.2) P := by
  unfold dIf
  cases t ρ M with
  | none => simp
  | some p =>
    obtain ⟨k, M3⟩ := p
    cases k <;> simp
@[simp ↓] theorem ok_wipe {vs : List Nat} {s : DS} : Ok (dWipe vs s ρ M) P ↔ Ok (s ρ M) fun o => P (wipeO vs o) := by
  unfold dWipe
  cases s ρ M <;> simp
@[simp ↓] theorem ok_pre {vs : List Nat} {s : DS} : Ok (dPre vs s ρ M) P ↔ Ok (s (wipeD ρ vs) M) P := Iff.rfl
@[simp] theorem wipeO_nx {vs : List Nat} : wipeO vs (.nx ρ M) = .nx (wipeD ρ vs) M := rfl
@[simp] theorem wipeO_bk {vs : List Nat} : wipeO vs (.bk ρ M) = .bk (wipeD ρ vs) M := rfl
@[simp] theorem wipeO_ct {vs : List Nat} : wipeO vs (.ct ρ M) = .ct (wipeD ρ vs) M := rfl
@[simp] theorem wipeO_rt {vs : List Nat} {v : Dv} : wipeO vs (.rt v M) = .rt v M := rfl
@[simp] theorem wipeD_nil : wipeD ρ [] = ρ := rfl
@[simp] theorem wipeD_cons {v : Nat} {vs : List Nat} : wipeD ρ (v :: vs) = (wipeD ρ vs).set v none := rfl
@[simp ↓] theorem ok_for {it : DI} {tg : Tgt} {s : DS} : Ok (dFor it tg s ρ M) P ↔ Ok (it ρ M) fun p => Ok (forL (stand p.2.1 p.2.2) (forStep tg s) p.1 ρ p.2.2) P := by
  unfold dFor
  cases it ρ M <;> simp
@[simp ↓] theorem ok_forStep {tg : Tgt} {s : DS} {x : D} : Ok (forStep tg s x ρ M) P ↔ Ok (tg.put (.d x) ρ) fun ρ1 => Ok (s ρ1 M) P := by
  unfold forStep
  cases tg.put (.d x) ρ <;> simp
/-- what a turn is to reach -/
def turnP (Nx : DEnv → DSt → Prop) (P : Out → Prop) : Out → Prop
  | .nx ρ M => Nx ρ M
  | .ct ρ M => Nx ρ M
  | .bk ρ M => P (.nx ρ M)
  | .rt v M => P (.rt v M)
@[simp ↓] theorem turnP_nx {Nx : DEnv → DSt → Prop} : turnP Nx P (.nx ρ M) ↔ Nx ρ M := Iff.rfl
@[simp ↓] theorem turnP_ct {Nx : DEnv → DSt → Prop} : turnP Nx P (.ct ρ M) ↔ Nx ρ M := Iff.rfl
@[simp ↓] theorem turnP_bk {Nx : DEnv → DSt → Prop} : turnP Nx P (.bk ρ M) ↔ P (.nx ρ M) := Iff.rfl
@[simp ↓] theorem turnP_rt {Nx : DEnv → DSt → Prop} {v : Dv} : turnP Nx P (.rt v M) ↔ P (.rt v M) := Iff.rfl
/-- a for by its invariant -/
theorem forL_by {α : Type} {chk : DSt → Prop} {step : α → DEnv → DSt → Option Out} : ∀ (xs : List α) {ρ : DEnv} {M : DSt} (I : Nat → DEnv → DSt → Prop), I 0 ρ M →
    (∀ i x ρ M, xs[i]? = some x → I i ρ M → chk M ∧ Ok (step x ρ M) (turnP (I (i + 1)) P)) → (∀ ρ M, I xs.length ρ M → chk M ∧ P (.nx ρ M)) → Ok (forL chk step xs ρ M) P
  | [], ρ, M, I, h0, _, hd => by
    unfold forL
    rw [ok_grd]
    obtain ⟨a, b⟩ := hd ρ M h0
    exact ⟨a, by simpa using b⟩
  | x :: xs, ρ, M, I, h0, hs, hd => by
    unfold forL
    rw [ok_grd]
    obtain ⟨a, o, e, b⟩ := hs 0 x ρ M rfl h0
    refine ⟨a, ?_⟩
    rw [e]
    cases o with
    | nx ρ1 M1 => exact forL_by xs (fun i => I (i + 1)) b (fun i y ρ M hy hI => hs (i + 1) y ρ M (by simpa using hy) hI) (fun ρ M hI => hd ρ M hI)
    | ct ρ1 M1 => exact forL_by xs (fun i => I (i + 1)) b (fun i y ρ M hy hI => hs (i + 1) y ρ M (by simpa using hy) hI) (fun ρ M hI => hd ρ M hI)
    | bk ρ1 M1 => simpa using b
    | rt v M1 => simpa using b
/-- a while by its invariant and a measure -/
theorem while_by {t : DT} {s : DS} (I : Nat → DEnv → DSt → Prop) : ∀ (n : Nat) {ρ : DEnv} {M : DSt}, I n ρ M →
    (∀ n ρ M, I n ρ M → Ok (t ρ M) fun p => if p.1 = true then Ok (s ρ p.2) (turnP (fun ρ' M' => ∃ m, m < n ∧ I m ρ' M') P) else P (.nx ρ p.2)) → Ok (dWhile t s ρ M) P := by
  intro n
  induction n using Nat.strongRecOn with
  | _ n ih =>
    intro ρ M h0 hs
    obtain ⟨p, e, h⟩ := hs n ρ M h0
    obtain ⟨b, M1⟩ := p
    rw [dWhile_eq, e]
    cases b with
    | false => simpa using h
    | true =>
      simp only [if_true] at h
      obtain ⟨o, e2, h⟩ := h
      simp only [e2]
      cases o with
      | nx ρ1 M2 =>
        obtain ⟨m, hm, hI⟩ := h
        exact ih m hm hI hs
      | ct ρ1 M2 =>
        obtain ⟨m, hm, hI⟩ := h
        exact ih m hm hI hs
      | bk ρ1 M2 => simpa using h
      | rt v M2 => simpa using h
/-- behind a def's body -/
def finP (b : Nat) (P : Dv × DSt → Prop) : Out → Prop
  | .rt v M => Ok (fin b v M) P
  | .nx _ M => Ok (fin b (.d .non) M) P
  | _ => False
@[simp ↓] theorem finP_rt {b : Nat} {P : Dv × DSt → Prop} {v : Dv} : finP b P (.rt v M) ↔ Ok (fin b v M) P := Iff.rfl
@[simp ↓] theorem finP_nx {b : Nat} {P : Dv × DSt → Prop} : finP b P (.nx ρ M) ↔ Ok (fin b (.d .non) M) P := Iff.rfl
theorem ok_fn {n : Nat} {s : DS} {as : List Dv} {P : Dv × DSt → Prop} : Ok (fnD n s as M) P ↔ Ok (s (startD n as) M) (finP M.length P) := by
  unfold fnD
  cases s (startD n as) M with
  | none => simp
  | some o => cases o <;> simp [finP]
@[simp] theorem fin_d {b : Nat} {x : D} : fin b (.d x) M = some (.d x, M.take b) := rfl
@[simp] theorem fin_r {b : Nat} {x : List D} : fin b (.r x) M = some (.r x, M.take b) := rfl
end
/-! ### what is walked -/
section
variable {ρ : DEnv} {M : DSt} {P : List D × List Nat × DSt → Prop}
@[simp ↓] theorem ok_iS {a : DE} : Ok (iS a ρ M) P ↔ Ok (a ρ M) fun p => Ok (sv p.2 p.1) fun xs => P (xs, cellsOf p.1, p.2) := by
  unfold iS
  cases a ρ M with
  | none => simp
  | some p =>
    obtain ⟨x, M1⟩ := p
    simp only [ok_some]
    cases x with
    | c n => simp only [sv]; cases lv M1 (.c n) <;> simp
    | r n => simp [sv, lv]
    | o _ _ _ => simp [sv, lv]
    | k _ _ => simp [sv, lv]
    | d x => cases x <;> simp [sv, lv, cellsOf]
/-- ranges, pairs, of known arguments -/
noncomputable def wR1 (vs : List Dv) (M : DSt) : Option (List D × List Nat × DSt) := match vs with
  | [.d (.int j)] => grd (-(2 ^ 62) ≤ j ∧ j < 2 ^ 62) (some (rng 0 j.toNat, [], M))
  | _ => none
noncomputable def wR2 (vs : List Dv) (M : DSt) : Option (List D × List Nat × DSt) := match vs with
  | [.d (.int i), .d (.int j)] => grd (-(2 ^ 62) ≤ i ∧ i < 2 ^ 62 ∧ -(2 ^ 62) ≤ j ∧ j < 2 ^ 62) (some (rng i (j - i).toNat, [], M))
  | _ => none
@[simp ↓] theorem ok_iR1 {a : DA} : Ok (iR1 a ρ M) P ↔ Ok (a ρ M) fun p => Ok (wR1 p.1 p.2) P := by
  unfold iR1 wR1
  cases a ρ M with
  | none => simp
  | some p =>
    obtain ⟨x, M1⟩ := p
    simp only [ok_some]
    split
    · rename_i j M2 e
      cases e
      exact Iff.rfl
    · rename_i h
      split
      · rename_i j
        exact absurd rfl (h j M1)
      · exact Iff.rfl
@[simp ↓] theorem ok_iR2 {a : DA} : Ok (iR2 a ρ M) P ↔ Ok (a ρ M) fun p => Ok (wR2 p.1 p.2) P := by
  unfold iR2 wR2
  cases a ρ M with
  | none => simp
  | some p =>
    obtain ⟨x, M1⟩ := p
    simp only [ok_some]
    split
    · rename_i i j M2 e
      cases e
      exact Iff.rfl
    · rename_i h
      split
      · rename_i i j
        exact absurd rfl (h i j M1)
      · exact Iff.rfl
@[simp ↓] theorem ok_wR1 {j : Int} : Ok (wR1 [.d (.int j)] M) P ↔ (-(2 ^ 62) ≤ j ∧ j < 2 ^ 62) ∧ P (rng 0 j.toNat, [], M) := by simp only [wR1, ok_grd, ok_some]
@[simp ↓] theorem ok_wR2 {i j : Int} : Ok (wR2 [.d (.int i), .d (.int j)] M) P ↔ (-(2 ^ 62) ≤ i ∧ i < 2 ^ 62 ∧ -(2 ^ 62) ≤ j ∧ j < 2 ^ 62) ∧ P (rng i (j - i).toNat, [], M) := by simp only [wR2, ok_grd, ok_some]
def wEn (vs : List Dv) (M : DSt) : Option (List D × List Nat × DSt) := match vs with
  | [x] => match lv M x with
    | some xs => some (enumD 0 xs, cellsOf x, M)
    | none => none
  | _ => none
def wZ (vs : List Dv) (M : DSt) : Option (List D × List Nat × DSt) := match vs with
  | [x, y] => match lv M x, lv M y with
    | some xs, some ys => some (zipD xs ys, cellsOf x ++ cellsOf y, M)
    | _, _ => none
  | _ => none
@[simp ↓] theorem ok_iEn {a : DA} : Ok (iEn a ρ M) P ↔ Ok (a ρ M) fun p => Ok (wEn p.1 p.2) P := by
  unfold iEn wEn
  cases a ρ M with
  | none => simp
  | some p =>
    obtain ⟨x, M1⟩ := p
    simp only [ok_some]
    split
    · rename_i y M2 e
      cases e
      exact Iff.rfl
    · rename_i h
      split
      · rename_i y
        exact absurd rfl (h y M1)
      · exact Iff.rfl
@[simp ↓] theorem ok_iZ {a : DA} : Ok (iZ a ρ M) P ↔ Ok (a ρ M) fun p => Ok (wZ p.1 p.2) P := by
  unfold iZ wZ
  cases a ρ M with
  | none => simp
  | some p =>
    obtain ⟨x, M1⟩ := p
    simp only [ok_some]
    split
    · rename_i y z M2 e
      cases e
      exact Iff.rfl
    · rename_i h
      split
      · rename_i y z
        exact absurd rfl (h y z M1)
      · exact Iff.rfl
@[simp ↓] theorem ok_wEn {x : Dv} : Ok (wEn [x] M) P ↔ Ok (lv M x) fun xs => P (enumD 0 xs, cellsOf x, M) := by
  unfold wEn
  cases e : lv M x <;> simp [e]
@[simp ↓] theorem ok_wZ {x y : Dv} : Ok (wZ [x, y] M) P ↔ Ok (lv M x) fun xs => Ok (lv M y) fun ys => P (zipD xs ys, cellsOf x ++ cellsOf y, M) := by
  unfold wZ
  cases e : lv M x <;> cases e' : lv M y <;> simp [e, e']
end
/-! ### operators on known values -/
section
variable {M : DSt} {i j : Int} {c : Bool}
@[simp] theorem oAdd_i : oAdd c (.d (.int i)) (.d (.int j)) M = some (.d (.int (i + j)), M) := rfl
@[simp] theorem oSub_i : oSub (.d (.int i)) (.d (.int j)) M = some (.d (.int (i - j)), M) := rfl
@[simp] theorem oI_i {f : Int → Int → D} : oI f (.d (.int i)) (.d (.int j)) M = some (.d (f i j), M) := rfl
@[simp] theorem oMulU_i : oMulU c (.d (.int i)) (.d (.int j)) M = grd (mulOk i j) (some (.d (.int (i * j)), M)) := rfl
@[simp] theorem oDiv_i : oDiv (.d (.int i)) (.d (.int j)) M = grd (divOk j) (some (.d (.int (i.fdiv j)), M)) := rfl
@[simp] theorem oMod_i : oMod (.d (.int i)) (.d (.int j)) M = grd (j ≠ 0) (some (.d (.int (i.fmod j)), M)) := rfl
@[simp] theorem oPow_i : oPow (.d (.int i)) (.d (.int j)) M = grd (powOk i j) (some (.d (.int (i ^ j.toNat)), M)) := rfl
@[simp] theorem oLt_i : oLt (.d (.int i)) (.d (.int j)) M = some (.d (.bl (decide (i < j))), M) := rfl
@[simp] theorem oLe_i : oLe (.d (.int i)) (.d (.int j)) M = some (.d (.bl (decide (i ≤ j))), M) := rfl
@[simp] theorem oGt_i : oGt (.d (.int i)) (.d (.int j)) M = some (.d (.bl (decide (j < i))), M) := rfl
@[simp] theorem oGe_i : oGe (.d (.int i)) (.d (.int j)) M = some (.d (.bl (decide (j ≤ i))), M) := rfl
@[simp] theorem oNeg_i : oNeg (.d (.int i)) M = some (.d (.int (-i)), M) := rfl
@[simp] theorem oAbs_i : oAbs [.d (.int i)] M = some (.d (.int (if i < 0 then -i else i)), M) := rfl
@[simp] theorem oMax2_i : oMax2 [.d (.int i), .d (.int j)] M = some (.d (.int (if j > i then j else i)), M) := rfl
@[simp] theorem oMin2_i : oMin2 [.d (.int i), .d (.int j)] M = some (.d (.int (if j < i then j else i)), M) := rfl
@[simp] theorem oInt_i : oInt [.d (.int i)] M = some (.d (.int i), M) := rfl
@[simp] theorem oInt_b {b : Bool} : oInt [.d (.bl b)] M = some (.d (.int (if b then 1 else 0)), M) := rfl
@[simp] theorem oEq_i : oEq (.d (.int i)) (.d (.int j)) M = some (.d (.bl (i == j)), M) := by simp [oEq, dv, D.shp, D.eqv, grd_ok]
@[simp] theorem oNe_i : oNe (.d (.int i)) (.d (.int j)) M = some (.d (.bl (!(i == j))), M) := by simp [oNe, dv, D.shp, D.eqv, grd_ok]
@[simp] theorem oIsN_d {x : D} : oIsN (.d x) M = some (.d (.bl (isNon (.d x))), M) := rfl
@[simp] theorem oNotN_d {x : D} : oNotN (.d x) M = some (.d (.bl (!isNon (.d x))), M) := rfl
@[simp] theorem isNon_non : isNon (.d .non) = true := rfl
@[simp] theorem isNon_int : isNon (.d (.int i)) = false := rfl
@[simp] theorem isNon_tup {xs : List D} : isNon (.d (.tup xs)) = false := rfl
@[simp] theorem isNon_lst {xs : List D} : isNon (.d (.lst xs)) = false := rfl
@[simp] theorem lv_lst {xs : List D} : lv M (.d (.lst xs)) = some xs := rfl
@[simp] theorem lv_r {xs : List D} : lv M (.r xs) = some xs := rfl
@[simp] theorem lv_c {n : Nat} : lv M (.c n) = (M[n]?).join := rfl
@[simp] theorem lw_lst {xs : List D} : lw M (.d (.lst xs)) = some xs := rfl
@[simp] theorem lw_c {n : Nat} : lw M (.c n) = (M[n]?).join := rfl
@[simp] theorem sv_lst {xs : List D} : sv M (.d (.lst xs)) = some xs := rfl
@[simp] theorem sv_tup {xs : List D} : sv M (.d (.tup xs)) = some xs := rfl
@[simp] theorem sv_r {xs : List D} : sv M (.r xs) = some xs := rfl
@[simp] theorem sv_c {n : Nat} : sv M (.c n) = (M[n]?).join := rfl
@[simp] theorem cellsOf_d {x : D} : cellsOf (.d x) = [] := rfl
@[simp] theorem cellsOf_r {x : List D} : cellsOf (.r x) = [] := rfl
@[simp] theorem cellsOf_c {n : Nat} : cellsOf (.c n) = [n] := rfl
@[simp] theorem stand_nil {M' : DSt} : stand [] M M' ↔ True := by simp [stand]
@[simp] theorem allD_nil : allD [] = some [] := rfl
@[simp] theorem allD_cons {x : D} {r : List Dv} : allD (.d x :: r) = (allD r).map (x :: ·) := rfl
@[simp] theorem mkL_f {xs : List D} : mkL false xs M = some (.d (.lst xs), M) := rfl
@[simp] theorem mkL_t {xs : List D} : mkL true xs M = some (.c M.length, M ++ [some xs]) := rfl
@[simp] theorem setC_eq {n : Nat} {xs : List D} : setC M n xs = M.set n (some xs) := rfl
@[simp] theorem take_set_len {n : Nat} {x : Option (List D)} : (List.set M n x).take (List.length M) = M.set n x := by rw [List.take_of_length_le]; simp
@[simp ↓] theorem ok_allD0 {P : List D → Prop} : Ok (allD []) P ↔ P [] := by simp
@[simp ↓] theorem ok_allDC {x : D} {r : List Dv} {P : List D → Prop} : Ok (allD (.d x :: r)) P ↔ Ok (allD r) fun xs => P (x :: xs) := by
  rw [allD_cons]
  cases allD r <;> simp
@[simp] theorem fin_new {xs : List D} : fin (List.length M) (.c (List.length M)) (M ++ [some xs]) = some (.c (List.length M), M ++ [some xs]) := by simp [fin]
theorem rng_at {a : Int} {n i : Nat} {x : D} : (rng a n)[i]? = some x ↔ i < n ∧ x = .int (a + (i : Int)) := by
  unfold rng
  rw [List.getElem?_map]
  by_cases h : i < n
  · rw [List.getElem?_range h]
    simp [h, eq_comm]
  · rw [List.getElem?_eq_none (by simpa using h)]
    simp [h]
@[simp] theorem rng_len {a : Int} {n : Nat} : (rng a n).length = n := by simp [rng]
@[simp] theorem big_eq : big = 1000000 := rfl
@[simp] theorem oAdd_l {xs ys : List D} : oAdd c (.d (.lst xs)) (.d (.lst ys)) M = grd (xs.length + ys.length ≤ big) (mkL c (xs ++ ys) M) := rfl
@[simp] theorem slU_l {xs : List D} {l h : Option Int} : slU c (.d (.lst xs)) l h M = mkL c (cutD xs l h) M := rfl
@[simp] theorem slU_r {xs : List D} {l h : Option Int} : slU c (.r xs) l h M = mkL c (cutD xs l h) M := rfl
@[simp] theorem slU_t {xs : List D} {l h : Option Int} : slU c (.d (.tup xs)) l h M = some (.d (.tup (cutD xs l h)), M) := rfl
theorem cutD_mem {xs : List D} {l h : Option Int} {x : D} (hx : x ∈ cutD xs l h) : x ∈ xs := List.mem_of_mem_drop (List.mem_of_mem_take hx)
theorem cutD_len {xs : List D} {l h : Option Int} : (cutD xs l h).length ≤ xs.length := by
  unfold cutD
  rw [List.length_take, List.length_drop]
  exact Nat.le_trans (Nat.min_le_right _ _) (Nat.sub_le _ _)
theorem oIsi_d {T : String} {x : D} (h : ∀ n, x ≠ .ty n) : oIsi T [.d x, .d (.ty T)] M = some (.d (.bl (subTy x.tyN T)), M) := by
  unfold oIsi
  cases x <;> first | (simp [dv]; done) | exact absurd rfl (h _)
@[simp] theorem oIsi_bl {T : String} {b : Bool} : oIsi T [.d (.bl b), .d (.ty T)] M = some (.d (.bl (subTy "bool" T)), M) := oIsi_d (fun _ h => nomatch h)
@[simp] theorem oIsi_int {T : String} {b : Int} : oIsi T [.d (.int b), .d (.ty T)] M = some (.d (.bl (subTy "int" T)), M) := oIsi_d (fun _ h => nomatch h)
@[simp] theorem oIsi_tup {T : String} {b : List D} : oIsi T [.d (.tup b), .d (.ty T)] M = some (.d (.bl (subTy "tuple" T)), M) := oIsi_d (fun _ h => nomatch h)
@[simp] theorem oIsi_lst {T : String} {b : List D} : oIsi T [.d (.lst b), .d (.ty T)] M = some (.d (.bl (subTy "list" T)), M) := oIsi_d (fun _ h => nomatch h)
@[simp ↓] theorem ok_fin_d {b : Nat} {x : D} {P : Dv × DSt → Prop} : Ok (fin b (.d x) M) P ↔ P (.d x, M.take b) := by rw [fin_d] <;> simp
@[simp ↓] theorem ok_fin_r {b : Nat} {x : List D} {P : Dv × DSt → Prop} : Ok (fin b (.r x) M) P ↔ P (.r x, M.take b) := by rw [fin_r] <;> simp
@[simp ↓] theorem ok_oAdd_i {P : Dv × DSt → Prop} : Ok (oAdd c (.d (.int i)) (.d (.int j)) M) P ↔ P (.d (.int (i + j)), M) := by rw [oAdd_i] <;> simp
@[simp ↓] theorem ok_oSub_i {P : Dv × DSt → Prop} : Ok (oSub (.d (.int i)) (.d (.int j)) M) P ↔ P (.d (.int (i - j)), M) := by rw [oSub_i] <;> simp
@[simp ↓] theorem ok_oI_i {f : Int → Int → D} {P : Dv × DSt → Prop} : Ok (oI f (.d (.int i)) (.d (.int j)) M) P ↔ P (.d (f i j), M) := by rw [oI_i] <;> simp
@[simp ↓] theorem ok_oMulU_i {P : Dv × DSt → Prop} : Ok (oMulU c (.d (.int i)) (.d (.int j)) M) P ↔ (mulOk i j) ∧ P (.d (.int (i * j)), M) := by rw [oMulU_i] <;> simp
@[simp ↓] theorem ok_oDiv_i {P : Dv × DSt → Prop} : Ok (oDiv (.d (.int i)) (.d (.int j)) M) P ↔ (divOk j) ∧ P (.d (.int (i.fdiv j)), M) := by rw [oDiv_i] <;> simp
@[simp ↓] theorem ok_oMod_i {P : Dv × DSt → Prop} : Ok (oMod (.d (.int i)) (.d (.int j)) M) P ↔ (j ≠ 0) ∧ P (.d (.int (i.fmod j)), M) := by rw [oMod_i] <;> simp
@[simp ↓] theorem ok_oPow_i {P : Dv × DSt → Prop} : Ok (oPow (.d (.int i)) (.d (.int j)) M) P ↔ (powOk i j) ∧ P (.d (.int (i ^ j.toNat)), M) := by rw [oPow_i] <;> simp
@[simp ↓] theorem ok_oLt_i {P : Dv × DSt → Prop} : Ok (oLt (.d (.int i)) (.d (.int j)) M) P ↔ P (.d (.bl (decide (i < j))), M) := by rw [oLt_i] <;> simp
@[simp ↓] theorem ok_oLe_i {P : Dv × DSt → Prop} : Ok (oLe (.d (.int i)) (.d (.int j)) M) P ↔ P (.d (.bl (decide (i ≤ j))), M) := by rw [oLe_i] <;> simp
@[simp ↓] theorem ok_oGt_i {P : Dv × DSt → Prop} : Ok (oGt (.d (.int i)) (.d (.int j)) M) P ↔ P (.d (.bl (decide (j < i))), M) := by rw [oGt_i] <;> simp
@[simp ↓] theorem ok_oGe_i {P : Dv × DSt → Prop} : Ok (oGe (.d (.int i)) (.d (.int j)) M) P ↔ P (.d (.bl (decide (j ≤ i))), M) := by rw [oGe_i] <;> simp
@[simp ↓] theorem ok_oNeg_i {P : Dv × DSt → Prop} : Ok (oNeg (.d (.int i)) M) P ↔ P (.d (.int (-i)), M) := by rw [oNeg_i] <;> simp
@[simp ↓] theorem ok_oAbs_i {P : Dv × DSt → Prop} : Ok (oAbs [.d (.int i)] M) P ↔ P (.d (.int (if i < 0 then -i else i)), M) := by rw [oAbs_i] <;> simp
@[simp ↓] theorem ok_oMax2_i {P : Dv × DSt → Prop} : Ok (oMax2 [.d (.int i), .d (.int j)] M) P ↔ P (.d (.int (if j > i then j else i)), M) := by rw [oMax2_i] <;> simp
@[simp ↓] theorem ok_oMin2_i {P : Dv × DSt → Prop} : Ok (oMin2 [.d (.int i), .d (.int j)] M) P ↔ P (.d (.int (if j < i then j else i)), M) := by rw [oMin2_i] <;> simp
@[simp ↓] theorem ok_oInt_i {P : Dv × DSt → Prop} : Ok (oInt [.d (.int i)] M) P ↔ P (.d (.int i), M) := by rw [oInt_i] <;> simp
@[simp ↓] theorem ok_oInt_b {b : Bool} {P : Dv × DSt → Prop} : Ok (oInt [.d (.bl b)] M) P ↔ P (.d (.int (if b then 1 else 0)), M) := by rw [oInt_b] <;> simp
@[simp ↓] theorem ok_oEq_i {P : Dv × DSt → Prop} : Ok (oEq (.d (.int i)) (.d (.int j)) M) P ↔ P (.d (.bl (i == j)), M) := by rw [oEq_i] <;> simp
@[simp ↓] theorem ok_oNe_i {P : Dv × DSt → Prop} : Ok (oNe (.d (.int i)) (.d (.int j)) M) P ↔ P (.d (.bl (!(i == j))), M) := by rw [oNe_i] <;> simp
@[simp ↓] theorem ok_oIsN_d {x : D} {P : Dv × DSt → Prop} : Ok (oIsN (.d x) M) P ↔ P (.d (.bl (isNon (.d x))), M) := by rw [oIsN_d] <;> simp
@[simp ↓] theorem ok_oNotN_d {x : D} {P : Dv × DSt → Prop} : Ok (oNotN (.d x) M) P ↔ P (.d (.bl (!isNon (.d x))), M) := by rw [oNotN_d] <;> simp
@[simp ↓] theorem ok_lv_lst {xs : List D} {P : List D → Prop} : Ok (lv M (.d (.lst xs))) P ↔ P xs := by rw [lv_lst] <;> simp
@[simp ↓] theorem ok_lv_r {xs : List D} {P : List D → Prop} : Ok (lv M (.r xs)) P ↔ P xs := by rw [lv_r] <;> simp
@[simp ↓] theorem ok_lw_lst {xs : List D} {P : List D → Prop} : Ok (lw M (.d (.lst xs))) P ↔ P xs := by rw [lw_lst] <;> simp
@[simp ↓] theorem ok_sv_lst {xs : List D} {P : List D → Prop} : Ok (sv M (.d (.lst xs))) P ↔ P xs := by rw [sv_lst] <;> simp
@[simp ↓] theorem ok_sv_tup {xs : List D} {P : List D → Prop} : Ok (sv M (.d (.tup xs))) P ↔ P xs := by rw [sv_tup] <;> simp
@[simp ↓] theorem ok_sv_r {xs : List D} {P : List D → Prop} : Ok (sv M (.r xs)) P ↔ P xs := by rw [sv_r] <;> simp
@[simp ↓] theorem ok_mkL_f {xs : List D} {P : Dv × DSt → Prop} : Ok (mkL false xs M) P ↔ P (.d (.lst xs), M) := by rw [mkL_f] <;> simp
@[simp ↓] theorem ok_mkL_t {xs : List D} {P : Dv × DSt → Prop} : Ok (mkL true xs M) P ↔ P (.c M.length, M ++ [some xs]) := by rw [mkL_t] <;> simp
@[simp ↓] theorem ok_fin_new {xs : List D} {P : Dv × DSt → Prop} : Ok (fin (List.length M) (.c (List.length M)) (M ++ [some xs])) P ↔ P (.c (List.length M), M ++ [some xs]) := by rw [fin_new] <;> simp
@[simp ↓] theorem ok_oAdd_l {xs ys : List D} {P : Dv × DSt → Prop} : Ok (oAdd c (.d (.lst xs)) (.d (.lst ys)) M) P ↔ (xs.length + ys.length ≤ big) ∧ Ok (mkL c (xs ++ ys) M) P := by rw [oAdd_l] <;> simp
@[simp ↓] theorem ok_slU_t {xs : List D} {l h : Option Int} {P : Dv × DSt → Prop} : Ok (slU c (.d (.tup xs)) l h M) P ↔ P (.d (.tup (cutD xs l h)), M) := by rw [slU_t] <;> simp
@[simp ↓] theorem ok_oIsi_bl {T : String} {b : Bool} {P : Dv × DSt → Prop} : Ok (oIsi T [.d (.bl b), .d (.ty T)] M) P ↔ P (.d (.bl (subTy "bool" T)), M) := by rw [oIsi_bl] <;> simp
@[simp ↓] theorem ok_oIsi_int {T : String} {b : Int} {P : Dv × DSt → Prop} : Ok (oIsi T [.d (.int b), .d (.ty T)] M) P ↔ P (.d (.bl (subTy "int" T)), M) := by rw [oIsi_int] <;> simp
@[simp ↓] theorem ok_oIsi_tup {T : String} {b : List D} {P : Dv × DSt → Prop} : Ok (oIsi T [.d (.tup b), .d (.ty T)] M) P ↔ P (.d (.bl (subTy "tuple" T)), M) := by rw [oIsi_tup] <;> simp
@[simp ↓] theorem ok_oIsi_lst {T : String} {b : List D} {P : Dv × DSt → Prop} : Ok (oIsi T [.d (.lst b), .d (.ty T)] M) P ↔ P (.d (.bl (subTy "list" T)), M) := by rw [oIsi_lst] <;> simp
@[simp ↓] theorem ok_map {α β : Type} {o : Option α} {f : α → β} {P : β → Prop} : Ok (o.map f) P ↔ Ok o fun x => P (f x) := by cases o <;> simp
@[simp ↓] theorem ok_bind {α β : Type} {o : Option α} {f : α → Option β} {P : β → Prop} : Ok (o.bind f) P ↔ Ok o fun x => Ok (f x) P := by cases o <;> simp
theorem ok_oIxS {x : Dv} {P : Dv × DSt → Prop} {xs : List D} (h : sv M x = some xs) : Ok (oIx x (.d (.int i)) M) P ↔ Ok (atD xs i) fun z => P (.d z, M) := by
  unfold oIx atD
  simp only [h]
  cases e : ixD xs.length i with
  | none => simp
  | some k =>
    simp only
    cases e2 : xs[k]? with
    | none => simp
    | some z => simp
@[simp ↓] theorem ok_oIx_lst {P : Dv × DSt → Prop} {xs : List D} : Ok (oIx (.d (.lst xs)) (.d (.int i)) M) P ↔ Ok (atD xs i) fun z => P (.d z, M) := ok_oIxS rfl
@[simp ↓] theorem ok_oIx_tup {P : Dv × DSt → Prop} {xs : List D} : Ok (oIx (.d (.tup xs)) (.d (.int i)) M) P ↔ Ok (atD xs i) fun z => P (.d z, M) := ok_oIxS rfl
@[simp ↓] theorem ok_oIx_r {P : Dv × DSt → Prop} {xs : List D} : Ok (oIx (.r xs) (.d (.int i)) M) P ↔ Ok (atD xs i) fun z => P (.d z, M) := ok_oIxS rfl
@[simp ↓] theorem ok_oIx_c {P : Dv × DSt → Prop} {n : Nat} : Ok (oIx (.c n) (.d (.int i)) M) P ↔ Ok (cel M n) fun xs => Ok (atD xs i) fun z => P (.d z, M) := by
  unfold cel
  cases e : (M[n]?).join with
  | none => simp [oIx, sv, lv, e]
  | some xs =>
    rw [ok_oIxS (xs := xs) (by simp [e])]
    simp
@[simp] theorem ixD_0 {n : Nat} : ixD (n + 1) 0 = some 0 := by unfold ixD; rw [if_pos (by omega), if_pos (by omega)]; rfl
@[simp] theorem ixD_1 {n : Nat} : ixD (n + 2) 1 = some 1 := by unfold ixD; rw [if_pos (by omega), if_pos (by omega)]; rfl
@[simp] theorem ixD_2 {n : Nat} : ixD (n + 3) 2 = some 2 := by unfold ixD; rw [if_pos (by omega), if_pos (by omega)]; rfl
@[simp] theorem ixD_3 {n : Nat} : ixD (n + 4) 3 = some 3 := by unfold ixD; rw [if_pos (by omega), if_pos (by omega)]; rfl
@[simp ↓] theorem ok_atD0 {x : D} {r : List D} {P : D → Prop} : Ok (atD (x :: r) 0) P ↔ P x := by simp [atD]
@[simp ↓] theorem ok_atD1 {x y : D} {r : List D} {P : D → Prop} : Ok (atD (x :: y :: r) 1) P ↔ P y := by simp [atD]
@[simp ↓] theorem ok_atD2 {x y z : D} {r : List D} {P : D → Prop} : Ok (atD (x :: y :: z :: r) 2) P ↔ P z := by simp [atD]
@[simp ↓] theorem ok_atD3 {x y z w : D} {r : List D} {P : D → Prop} : Ok (atD (x :: y :: z :: w :: r) 3) P ↔ P w := by simp [atD]
@[simp ↓] theorem ok_ixD0 {n : Nat} {P : Nat → Prop} : Ok (ixD (n + 1) 0) P ↔ P 0 := by simp
@[simp ↓] theorem ok_ixD1 {n : Nat} {P : Nat → Prop} : Ok (ixD (n + 2) 1) P ↔ P 1 := by simp
theorem ok_ixDL {xs : List D} {k : Int} {P : Nat → Prop} (h0 : 0 ≤ k) (h1 : k < xs.length) : Ok (ixD xs.length k) P ↔ P k.toNat := by
  have : ixD xs.length k = some k.toNat := by unfold ixD; rw [if_pos h0, if_pos h1]
  simp [this]
@[simp ↓] theorem ok_ixDL0 {x : D} {xs : List D} {P : Nat → Prop} : Ok (ixD (x :: xs).length 0) P ↔ P 0 := by simp
@[simp ↓] theorem ok_ixDL1 {x y : D} {xs : List D} {P : Nat → Prop} : Ok (ixD (x :: y :: xs).length 1) P ↔ P 1 := by simp
theorem ixD_of {n : Nat} {i : Int} (h0 : 0 ≤ i) (h1 : i < n) : ixD n i = some i.toNat := by unfold ixD; rw [if_pos h0, if_pos h1]
theorem ixD_nat {n k : Nat} (h1 : k < n) : ixD n (k : Int) = some k := by rw [ixD_of (by omega) (by omega)]; rfl
end
theorem ok_forN {α : Type} {chk : DSt → Prop} {step : α → DEnv → DSt → Option Out} {ρ : DEnv} {M : DSt} {P : Out → Prop} : Ok (forL chk step [] ρ M) P ↔ chk M ∧ P (.nx ρ M) := by simp [forL]
theorem ok_forC {α : Type} {chk : DSt → Prop} {step : α → DEnv → DSt → Option Out} {x : α} {xs : List α} {ρ : DEnv} {M : DSt} {P : Out → Prop} : Ok (forL chk step (x :: xs) ρ M) P ↔ chk M ∧ Ok (step x ρ M) (turnP (fun ρ M => Ok (forL chk step xs ρ M) P) P) := by
  simp only [forL, ok_grd]
  refine and_congr_right fun _ => ?_
  cases h : step x ρ M with
  | none => simp
  | some o => cases o <;> simp
/-- a step that passes: the rest goes on from the same state -/
theorem if_pass {s t : DS} {ρ : DEnv} {M : DSt} {P : Out → Prop} (h : Ok (s ρ M) fun o => o = .nx ρ M) (k : Ok (t ρ M) P) : Ok (dSeq s t ρ M) P := by
  rw [ok_seq]
  exact h.mono fun o e => by subst e; exact k
theorem if_last {s : DS} {ρ : DEnv} {M : DSt} {P : Out → Prop} (h : Ok (s ρ M) fun o => o = .nx ρ M) (k : P (.nx ρ M)) : Ok (s ρ M) P := h.mono fun o e => by subst e; exact k
/-- a step, then the rest -/
theorem seq_by {s t : DS} {ρ : DEnv} {M : DSt} {P : Out → Prop} (Q : Out → Prop) (h : Ok (s ρ M) Q) (k : ∀ o, Q o → seqP t P o) : Ok (dSeq s t ρ M) P := by
  rw [ok_seq]
  exact h.mono k
end Rw
end PRwOk
section PRwMath
set_option autoImplicit false
set_option linter.all false
set_option maxRecDepth 100000
/-! RwMath: bounds, sizes, the greatest divisor. -/
namespace Rw
/-- x lies within A -/
def bd (A x : Int) : Prop := -A ≤ x ∧ x ≤ A
theorem bd_mono {A B x : Int} (h : bd A x) (l : A ≤ B) : bd B x := ⟨by have := h.1; omega, by have := h.2; omega⟩
theorem bd_add {A B C x y : Int} (hx : bd A x) (hy : bd B y) (l : A + B ≤ C) : bd C (x + y) := ⟨by have := hx.1; have := hy.1; omega, by have := hx.2; have := hy.2; omega⟩
theorem bd_sub {A B C x y : Int} (hx : bd A x) (hy : bd B y) (l : A + B ≤ C) : bd C (x - y) := ⟨by have := hx.1; have := hy.2; omega, by have := hx.2; have := hy.1; omega⟩
theorem bd_neg {A x : Int} (hx : bd A x) : bd A (-x) := ⟨by have := hx.2; omega, by have := hx.1; omega⟩
theorem bd_natAbs {A x : Int} (h : bd A x) : (x.natAbs : Int) ≤ A := by have := h.1; have := h.2; omega
theorem bd_of_natAbs {A x : Int} (h : (x.natAbs : Int) ≤ A) : bd A x := ⟨by omega, by omega⟩
theorem bd_nonneg {A x : Int} (h : bd A x) : 0 ≤ A := by have := h.1; have := h.2; omega
theorem bd_mul {A B C x y : Int} (hx : bd A x) (hy : bd B y) (l : A * B ≤ C) : bd C (x * y) := by
  refine bd_of_natAbs (Int.le_trans ?_ l)
  rw [Int.natAbs_mul, Int.natCast_mul]
  exact Int.mul_le_mul (bd_natAbs hx) (bd_natAbs hy) (by omega) (bd_nonneg hx)
theorem bd_fdiv {A x y : Int} (hx : bd A x) : bd A (x.fdiv y) := by
  refine bd_of_natAbs (Int.le_trans ?_ (bd_natAbs hx))
  have := Int.natAbs_fdiv_le_natAbs x y
  omega
theorem log2_lt {n k : Nat} (h : n < 2 ^ k) (hk : 0 < k) : n.log2 < k := by
  by_cases h0 : n = 0
  · subst h0
    simp
    exact hk
  · exact (Nat.log2_lt h0).mpr h
theorem natAbs_lt {A x : Int} {k : Nat} (h : bd A x) (l : A < 2 ^ k) : x.natAbs < 2 ^ k := by
  have h1 := bd_natAbs h
  have h2 : (x.natAbs : Int) < 2 ^ k := by omega
  have h3 : ((2 : Int) ^ k) = ((2 ^ k : Nat) : Int) := by simp
  rw [h3] at h2
  exact_mod_cast h2
theorem iLn_of {A x : Int} (k : Nat) (h : bd A x) (l : A < 2 ^ k) (h0 : 0 < k) (hk : k ≤ 4000000) : iLn x := Nat.lt_of_lt_of_le (log2_lt (natAbs_lt h l) h0) hk
theorem mulOk_bd {A B x y : Int} (k : Nat) (hx : bd A x) (hy : bd B y) (la : A < 2 ^ k) (lb : B < 2 ^ k) (h0 : 0 < k) (hk : k ≤ 4000000) : mulOk x y := .inr (.inr ⟨iLn_of k hx la h0 hk, iLn_of k hy lb h0 hk⟩)
theorem mulOk_l {x y : Int} (h : -(2 ^ 64) < x) (h' : x < 2 ^ 64) : mulOk x y := .inl ⟨h, h'⟩
theorem mulOk_r {x y : Int} (h : -(2 ^ 64) < y) (h' : y < 2 ^ 64) : mulOk x y := .inr (.inl ⟨h, h'⟩)
theorem divOk_bd {A x : Int} (k : Nat) (h : bd A x) (hx : x ≠ 0) (l : A < 2 ^ k) (h0 : 0 < k) (hk : k ≤ 9000) : divOk x := ⟨hx, Nat.lt_of_lt_of_le (log2_lt (natAbs_lt h l) h0) hk⟩
theorem fmod_nn (x : Int) {m : Int} (h : 0 < m) : 0 ≤ x.fmod m := Int.fmod_nonneg_of_pos x h
theorem fmod_lt (x : Int) {m : Int} (h : 0 < m) : x.fmod m < m := Int.fmod_lt_of_pos x h
/-- an item at a drawn place: what all items have -/
theorem pick {xs : List D} {s : Int} {P : D → Prop} (h0 : 0 ≤ s) (h1 : s < xs.length) (h : ∀ z ∈ xs, P z) : Ok (atD xs s) P := by
  have hk : s.toNat < xs.length := by omega
  unfold atD
  rw [ixD_of h0 h1]
  simp only [List.getElem?_eq_getElem hk, ok_some]
  exact h _ (List.getElem_mem hk)
/-- a call whose answer is known -/
theorem okE {α : Type} {o : Option α} {x : α} (h : o = some x) (P : α → Prop) : Ok o P ↔ P x := by rw [h, ok_some]
/-! ### while b > 0: a, b = b, a % b -/
noncomputable def gcdLoop (i j : Nat) : DS := dWhile (tVal (e2 oGt (eVar j) (eC (.int 0)))) (dPar i j (eVar j) (e2 oMod (eVar i) (eVar j)))
theorem set_set2 {α : Type} (l : List α) {i j : Nat} (h : i ≠ j) (a b c d : α) : ((((l.set i a).set j b).set i c).set j d) = ((l.set i c).set j d) := by
  rw [List.set_comm a b h, List.set_set, List.set_comm b c (Ne.symm h), List.set_set]
theorem gcd_while {i j : Nat} (hij : i ≠ j) {M : DSt} : ∀ (n : Nat) {ρ : DEnv} {a b : Int}, b.toNat = n → 0 ≤ a → 0 ≤ b → i < ρ.length → j < ρ.length → ρ[i]? = some (some (.d (.int a))) → ρ[j]? = some (some (.d (.int b))) →
    gcdLoop i j ρ M = some (.nx ((ρ.set i (some (.d (.int (Int.gcd a b))))).set j (some (.d (.int 0)))) M) := by
  intro n
  induction n using Nat.strongRecOn with
  | _ n ih =>
    intro ρ a b hn ha hb hi hj ei ej
    unfold gcdLoop
    rw [dWhile_eq]
    by_cases h0 : 0 < b
    · have e1 : tVal (e2 oGt (eVar j) (eC (.int 0))) ρ M = some (true, M) := by simp [tVal, e2, eVar, eC, ej, h0]
      have e2 : dPar i j (eVar j) (Rw.e2 oMod (eVar i) (eVar j)) ρ M = some (.nx ((ρ.set i (some (.d (.int b)))).set j (some (.d (.int (a.fmod b))))) M) := by
        have hb0 : b ≠ 0 := by omega
        simp [dPar, Rw.e2, eVar, ej, ei, oMod_i, grd_ok hb0]
      simp only [e1, e2]
      have hlt : (a.fmod b).toNat < n := by
        have := fmod_lt a h0
        have := fmod_nn a h0
        omega
      have r := ih _ hlt (ρ := (ρ.set i (some (.d (.int b)))).set j (some (.d (.int (a.fmod b))))) (a := b) (b := a.fmod b) rfl hb (fmod_nn a h0) (by simpa using hi) (by simpa using hj)
        (by rw [List.getElem?_set_ne (Ne.symm hij), List.getElem?_set_self hi]) (by rw [List.getElem?_set_self (by simpa using hj)])
      unfold gcdLoop at r
      rw [r, set_set2 _ hij]
      have g : Int.gcd b (a.fmod b) = Int.gcd a b := by
        rw [Int.fmod_eq_emod_of_nonneg a hb]
        obtain ⟨x, rfl⟩ := Int.eq_ofNat_of_zero_le ha
        obtain ⟨y, rfl⟩ := Int.eq_ofNat_of_zero_le hb
        rw [← Int.natCast_emod, Int.gcd_natCast_natCast, Int.gcd_natCast_natCast, Nat.gcd_comm x y, Nat.gcd_rec y x, Nat.gcd_comm]
      rw [g]
    · have hb0 : b = 0 := by omega
      subst hb0
      have e1 : tVal (e2 oGt (eVar j) (eC (.int 0))) ρ M = some (false, M) := by simp [tVal, e2, eVar, eC, ej]
      simp only [e1]
      have g : ((Int.gcd a 0 : Nat) : Int) = a := by
        rw [Int.gcd_zero_right]
        omega
      rw [g]
      congr 2
      apply List.ext_getElem?
      intro k
      by_cases hk : j = k
      · subst hk
        rw [List.getElem?_set_self (by simpa using hj), ej]
      · rw [List.getElem?_set_ne hk]
        by_cases hk2 : i = k
        · subst hk2
          rw [List.getElem?_set_self hi, ei]
        · rw [List.getElem?_set_ne hk2]
theorem gcd_abs (t b : Int) : Int.gcd (if t < 0 then -t else t) (if b < 0 then -b else b) = Int.gcd t b := by
  split <;> split <;> simp [Int.gcd_neg, Int.neg_gcd]
theorem abs_nn (t : Int) : 0 ≤ (if t < 0 then -t else t) := by split <;> omega
theorem fdiv_ne {b g : Int} (h : b ≠ 0) (hd : g ∣ b) : b.fdiv g ≠ 0 := by
  obtain ⟨c, rfl⟩ := hd
  by_cases hg : g = 0
  · subst hg; simp at h
  · rw [Int.mul_fdiv_cancel_left _ hg]
    intro z
    subst z
    simp at h
theorem gcd_pos {t b : Int} (h : b ≠ 0) : (0 : Int) < (Int.gcd t b : Int) := by
  have := Int.gcd_pos_of_ne_zero_right t h
  omega
theorem gcd_bd {t b A : Int} (h : b ≠ 0) (hb : bd A b) : bd A (Int.gcd t b : Int) := by
  have h1 := Int.gcd_le_natAbs_right t h
  have h2 := bd_natAbs hb
  exact ⟨by omega, by omega⟩
theorem gcd_dvd_r (t b : Int) : (Int.gcd t b : Int) ∣ b := Int.gcd_dvd_right ..
theorem gcd_dvd_l (t b : Int) : (Int.gcd t b : Int) ∣ t := Int.gcd_dvd_left ..
/-! ### bounds by figures -/
def Bn (k : Nat) (x : Int) : Prop := bd (10 ^ k) x
theorem Bn.of {k : Nat} {x : Int} (h : bd (10 ^ k) x) : Bn k x := h
theorem Bn.mono {j k : Nat} {x : Int} (h : Bn j x) (l : j ≤ k) : Bn k x := bd_mono h (by
  have : (10 : Nat) ^ j ≤ 10 ^ k := Nat.pow_le_pow_right (by decide) l
  exact_mod_cast this)
theorem Bn.mul {j k : Nat} {x y : Int} (hx : Bn j x) (hy : Bn k y) : Bn (j + k) (x * y) := bd_mul hx hy (by rw [Int.pow_add]; exact Int.le_refl _)
theorem ten_succ (k : Nat) : (10 : Int) ^ (k + 1) = 10 ^ k * 10 := Int.pow_succ ..
theorem ten_pos (k : Nat) : (0 : Int) < 10 ^ k := Int.pow_pos (by decide)
theorem Bn.add {k : Nat} {x y : Int} (hx : Bn k x) (hy : Bn k y) : Bn (k + 1) (x + y) := bd_add hx hy (by rw [ten_succ]; have := ten_pos k; omega)
theorem Bn.sub {k : Nat} {x y : Int} (hx : Bn k x) (hy : Bn k y) : Bn (k + 1) (x - y) := bd_sub hx hy (by rw [ten_succ]; have := ten_pos k; omega)
theorem Bn.neg {k : Nat} {x : Int} (hx : Bn k x) : Bn k (-x) := bd_neg hx
theorem Bn.ok {j k : Nat} {x y : Int} (hx : Bn j x) (hy : Bn k y) (hj : j ≤ 100000) (hk : k ≤ 100000) : mulOk x y := by
  have up : ∀ {m : Nat} {z : Int}, Bn m z → m ≤ 100000 → iLn z := fun {m z} h hm => by
    unfold iLn
    have h1 : z.natAbs < 2 ^ (4 * m + 1) := by
      have a := bd_natAbs h
      have b : (10 : Nat) ^ m ≤ 2 ^ (4 * m) := by
        rw [Nat.pow_mul]
        exact Nat.pow_le_pow_left (by decide) m
      have c : (z.natAbs : Int) ≤ ((10 ^ m : Nat) : Int) := by simpa using a
      have d : z.natAbs ≤ 10 ^ m := by exact_mod_cast c
      have e : 2 ^ (4 * m + 1) = 2 ^ (4 * m) * 2 := Nat.pow_succ ..
      have f : 0 < 2 ^ (4 * m) := Nat.two_pow_pos _
      omega
    have := log2_lt h1 (by omega)
    omega
  exact .inr (.inr ⟨up hx hj, up hy hk⟩)
theorem Bn.div {k : Nat} {x : Int} (h : Bn k x) (h0 : x ≠ 0) (hk : k ≤ 2000) : divOk x := by
  refine ⟨h0, ?_⟩
  have h1 : x.natAbs < 2 ^ (4 * k + 1) := by
    have a := bd_natAbs h
    have b : (10 : Nat) ^ k ≤ 2 ^ (4 * k) := by
      rw [Nat.pow_mul]
      exact Nat.pow_le_pow_left (by decide) k
    have c : (x.natAbs : Int) ≤ ((10 ^ k : Nat) : Int) := by simpa using a
    have d : x.natAbs ≤ 10 ^ k := by exact_mod_cast c
    have e : 2 ^ (4 * k + 1) = 2 ^ (4 * k) * 2 := Nat.pow_succ ..
    have f : 0 < 2 ^ (4 * k) := Nat.two_pow_pos _
    omega
  have := log2_lt h1 (by omega)
  omega
end Rw
end PRwMath
section PRwLib
set_option autoImplicit false
set_option linter.all false
set_option maxRecDepth 100000
/-! RwLib: comprehensions, sums, lists of ints. -/
namespace Rw
open PySem (Str)
section
variable {ρ : DEnv} {M : DSt}
@[simp ↓] theorem ok_comp {c : Bool} {it : DI} {tg : Tgt} {t : DT} {el : DE} {own : List Nat} {P : Dv × DSt → Prop} : Ok (eComp c it tg t el own ρ M) P ↔ Ok (it ρ M) fun p => p.1.length ≤ big ∧ Ok (compL (stand p.2.1 p.2.2) (compStep tg t el (wipeD ρ own)) p.1 p.2.2) fun q => Ok (mkL c q.1 q.2) P := by
  unfold eComp
  cases h : it ρ M with
  | none => simp
  | some p =>
    obtain ⟨xs, src, M1⟩ := p
    simp only [ok_some, ok_grd]
    refine and_congr_right fun _ => ?_
    cases h2 : compL (stand src M1) (compStep tg t el (wipeD ρ own)) xs M1 with
    | none => simp
    | some q => simp
@[simp ↓] theorem ok_compStep {tg : Tgt} {t : DT} {el : DE} {x : D} {P : Option D × DSt → Prop} : Ok (compStep tg t el ρ x M) P ↔ Ok (tg.put (.d x) ρ) fun ρ1 => Ok (t ρ1 M) fun p => if p.1 = true then Ok (el ρ1 p.2) fun q => Ok (asD q.1) fun y => P (some y, q.2) else P (none, p.2) := by
  unfold compStep
  cases h : tg.put (.d x) ρ with
  | none => simp
  | some ρ1 =>
    simp only [ok_some]
    cases h2 : t ρ1 M with
    | none => simp
    | some p =>
      obtain ⟨b, M1⟩ := p
      cases b with
      | false => simp
      | true =>
        simp only [ok_some, if_true]
        cases h3 : el ρ1 M1 with
        | none => simp
        | some q =>
          obtain ⟨v, M2⟩ := q
          cases v <;> simp [asD]
end
/-- a comprehension that changes nothing -/
theorem comp_map {α : Type} {chk : DSt → Prop} {step : D → DSt → Option (Option D × DSt)} {M : DSt} {P : List D × DSt → Prop} {f : α → D} {l : List α} (g : α → D) (hc : chk M)
    (h : ∀ a ∈ l, Ok (step (f a) M) fun p => p = (some (g a), M)) (k : P (l.map g, M)) : Ok (compL chk step (l.map f) M) P := by
  refine Ok.of (x := (l.map g, M)) ?_ k
  clear k
  induction l with
  | nil => simp [compL, grd_ok hc]
  | cons a l ih =>
    have e := ok_eq (h a (by simp))
    have r := ih fun a ha => h a (by simp [ha])
    simp [compL, grd_ok hc, e, r]
/-- .. with a test -/
theorem comp_fm {α : Type} {chk : DSt → Prop} {step : D → DSt → Option (Option D × DSt)} {M : DSt} {P : List D × DSt → Prop} {f : α → D} {l : List α} (g : α → Option D) (hc : chk M)
    (h : ∀ a ∈ l, Ok (step (f a) M) fun p => p = (g a, M)) (k : P (l.filterMap g, M)) : Ok (compL chk step (l.map f) M) P := by
  refine Ok.of (x := (l.filterMap g, M)) ?_ k
  clear k
  induction l with
  | nil => simp [compL, grd_ok hc]
  | cons a l ih =>
    have e := ok_eq (h a (by simp))
    have r := ih fun a ha => h a (by simp [ha])
    simp only [List.map_cons, compL, grd_ok hc, e, r, List.filterMap_cons]
    cases g a <;> simp
/-- a comprehension that draws: what every item has -/
theorem comp_draw {chk : DSt → Prop} {step : D → DSt → Option (Option D × DSt)} {P : List D × DSt → Prop} (I : DSt → Prop) (R : D → Prop) (hc : ∀ M, I M → chk M) : ∀ {xs : List D} {M : DSt}, I M →
    (∀ x ∈ xs, ∀ M, I M → Ok (step x M) fun p => I p.2 ∧ ∃ y, p.1 = some y ∧ R y) → (∀ ys M, I M → ys.length = xs.length → (∀ y ∈ ys, R y) → P (ys, M)) → Ok (compL chk step xs M) P := by
  intro xs
  induction xs generalizing P with
  | nil =>
    intro M hM h k
    simp only [compL, ok_grd, ok_some]
    exact ⟨hc M hM, k [] M hM rfl (by simp)⟩
  | cons x xs ih =>
    intro M hM h k
    obtain ⟨⟨o, M1⟩, e, hM1, y, rfl, hy⟩ := h x (by simp) M hM
    have r := ih (P := fun q => P (y :: q.1, q.2)) hM1 (fun z hz => h z (by simp [hz])) fun ys M2 h2 l a => k _ _ h2 (by simp [l]) (by
      intro z hz
      rcases List.mem_cons.mp hz with rfl | hz
      · exact hy
      · exact a z hz)
    simp only [compL, ok_grd]
    refine ⟨hc M hM, ?_⟩
    obtain ⟨⟨ys, M2⟩, e2, hP⟩ := r
    simp only [e, e2, ok_some]
    exact hP
theorem rng_map {a : Int} {n : Nat} : rng a n = (List.range n).map fun (k : Nat) => .int (a + (k : Int)) := rfl
theorem rng0 {n : Nat} : rng 0 n = (List.range n).map fun (k : Nat) => .int (k : Int) := by simp [rng]
theorem zip_map {xs ys : List Int} : zipD (xs.map D.int) (ys.map D.int) = (xs.zip ys).map fun p => .tup [.int p.1, .int p.2] := by
  induction xs generalizing ys with
  | nil => rfl
  | cons x xs ih => cases ys <;> simp [zipD, ih]
@[simp] theorem intsD_map {ns : List Int} : intsD (ns.map D.int) = some ns := by
  induction ns with
  | nil => rfl
  | cons n ns ih => simp [intsD, ih]
theorem intsD_mapf {α : Type} {l : List α} {g : α → Int} : intsD (l.map fun a => D.int (g a)) = some (l.map g) := by
  have : (l.map fun a => D.int (g a)) = (l.map g).map D.int := by simp
  rw [this, intsD_map]
section
variable {M : DSt} {P : Dv × DSt → Prop}
@[simp ↓] theorem ok_sum {ns : List Int} : Ok (oSum [.d (.lst (ns.map D.int))] M) P ↔ P (.d (.int ns.sum), M) := by simp [oSum]
@[simp ↓] theorem ok_sumf {α : Type} {l : List α} {g : α → Int} : Ok (oSum [.d (.lst (l.map fun a => D.int (g a)))] M) P ↔ P (.d (.int (l.map g).sum), M) := by simp only [oSum, lv_lst, intsD_mapf, ok_some]
@[simp ↓] theorem ok_len {xs : List D} : Ok (oLen [.d (.lst xs)] M) P ↔ P (.d (.int xs.length), M) := by simp [oLen]
@[simp ↓] theorem ok_lenT {xs : List D} : Ok (oLen [.d (.tup xs)] M) P ↔ P (.d (.int xs.length), M) := by simp [oLen]
@[simp ↓] theorem ok_lenR {xs : List D} : Ok (oLen [.r xs] M) P ↔ P (.d (.int xs.length), M) := by simp [oLen]
@[simp ↓] theorem ok_lenC {n : Nat} : Ok (oLen [.c n] M) P ↔ Ok (cel M n) fun xs => P (.d (.int xs.length), M) := by
  unfold oLen cel
  simp only [sv_c]
  cases (M[n]?).join <;> simp
@[simp ↓] theorem ok_wZ2 {xs ys : List D} {P : List D × List Nat × DSt → Prop} : Ok (wZ [.d (.lst xs), .d (.lst ys)] M) P ↔ P (zipD xs ys, [], M) := by simp [wZ]
@[simp ↓] theorem ok_eqS {s t : Str} : Ok (oEq (.d (.str s)) (.d (.str t)) M) P ↔ (strFine s = true ∧ strFine t = true) ∧ P (.d (.bl (s == t)), M) := by
  simp [oEq, dv, D.shp, D.eqv]
@[simp ↓] theorem ok_neS {s t : Str} : Ok (oNe (.d (.str s)) (.d (.str t)) M) P ↔ (strFine s = true ∧ strFine t = true) ∧ P (.d (.bl (!(s == t))), M) := by
  simp [oNe, dv, D.shp, D.eqv]
end
/-- == of two data -/
theorem ok_eqD {x y : D} {M : DSt} {P : Dv × DSt → Prop} (hx : x.shp 9 = true) (hy : y.shp 9 = true) : Ok (oEq (.d x) (.d y) M) P ↔ P (.d (.bl (D.eqv x y)), M) := by
  simp [oEq, dv, hx, hy]
theorem ok_neD {x y : D} {M : DSt} {P : Dv × DSt → Prop} (hx : x.shp 9 = true) (hy : y.shp 9 = true) : Ok (oNe (.d x) (.d y) M) P ↔ P (.d (.bl (!D.eqv x y)), M) := by
  simp [oNe, dv, hx, hy]
mutual
theorem eqv_refl : ∀ (n : Nat) (x : D), x.shp n = true → D.eqv x x = true
  | _, .non, _ => rfl
  | _, .bl _, _ => by simp [D.eqv]
  | _, .int _, _ => by simp [D.eqv]
  | _, .str _, _ => by simp [D.eqv]
  | _, .ty _, h => by simp [D.shp] at h
  | 0, .lst _, h => by simp [D.shp] at h
  | 0, .tup _, h => by simp [D.shp] at h
  | n + 1, .lst xs, h => by
    simp only [D.eqv]
    exact eqvs_refl n xs (by simpa [D.shp] using h)
  | n + 1, .tup xs, h => by
    simp only [D.eqv]
    exact eqvs_refl n xs (by simpa [D.shp] using h)
theorem eqvs_refl : ∀ (n : Nat) (xs : List D), (∀ x ∈ xs, x.shp n = true) → D.eqvs xs xs = true
  | _, [], _ => rfl
  | n, x :: xs, h => by
    simp only [D.eqvs, Bool.and_eq_true]
    exact ⟨eqv_refl n x (h x (by simp)), eqvs_refl n xs fun y hy => h y (by simp [hy])⟩
end
/-- != of one and the same -/
theorem ok_neSame {x : D} {M : DSt} {P : Dv × DSt → Prop} (hx : x.shp 9 = true) : Ok (oNe (.d x) (.d x) M) P ↔ P (.d (.bl false), M) := by
  rw [ok_neD hx hx, eqv_refl 9 x hx]
  rfl
theorem ok_eqSame {x : D} {M : DSt} {P : Dv × DSt → Prop} (hx : x.shp 9 = true) : Ok (oEq (.d x) (.d x) M) P ↔ P (.d (.bl true), M) := by
  rw [ok_eqD hx hx, eqv_refl 9 x hx]
/-! ### bounds of sums -/
theorem sum_bd {A : Int} {xs : List Int} {n : Nat} (h : ∀ x ∈ xs, bd A x) (hn : xs.length ≤ n) (hA : 0 ≤ A) : bd (n * A) xs.sum := by
  induction xs generalizing n with
  | nil =>
    have := Int.mul_nonneg (show (0 : Int) ≤ n by omega) hA
    exact ⟨by simp; omega, by simp; omega⟩
  | cons x xs ih =>
    cases n with
    | zero => simp at hn
    | succ n =>
      have a := ih (n := n) (fun y hy => h y (by simp [hy])) (by simpa using hn)
      have b := h x (by simp)
      rw [List.sum_cons]
      exact bd_add b a (by
        have : ((n + 1 : Nat) : Int) * A = (n : Int) * A + A := by rw [Int.natCast_add, Int.add_mul]; simp
        omega)
theorem Bn.sum {k : Nat} {xs : List Int} (h : ∀ x ∈ xs, Bn k x) (hn : xs.length ≤ 100) : Bn (k + 2) xs.sum := by
  refine bd_mono (sum_bd h hn (Int.le_of_lt (ten_pos k))) ?_
  rw [Int.pow_add]
  have := ten_pos k
  show (100 : Int) * 10 ^ k ≤ 10 ^ k * 10 ^ 2
  omega
/-- a loop that gathers -/
theorem forL_fold {α β : Type} {chk : DSt → Prop} {step : D → DEnv → DSt → Option Out} {M : DSt} {P : Out → Prop} {f : α → D} (env : β → DEnv) (g : β → α → β) (Inv : β → Prop) (hc : chk M) : ∀ {l : List α} {b : β}, Inv b →
    (∀ b a, a ∈ l → Inv b → Inv (g b a) ∧ Ok (step (f a) (env b) M) (turnP (fun ρ M' => M' = M ∧ ρ = env (g b a)) P)) → (Inv (l.foldl g b) → P (.nx (env (l.foldl g b)) M)) → Ok (forL chk step (l.map f) (env b) M) P
  | [], b, hi, _, k => by
    simp only [List.map_nil, forL, ok_grd, ok_some]
    exact ⟨hc, k hi⟩
  | a :: l, b, hi, h, k => by
    obtain ⟨hi', h1⟩ := h b a (by simp) hi
    rw [List.map_cons, ok_forC]
    refine ⟨hc, h1.mono ?_⟩
    intro o ho
    have r := forL_fold (f := f) env g Inv hc (l := l) hi' (fun b a ha => h b a (by simp [ha])) k
    cases o with
    | nx ρ M' => obtain ⟨rfl, rfl⟩ := ho; exact r
    | ct ρ M' => obtain ⟨rfl, rfl⟩ := ho; exact r
    | bk ρ M' => exact ho
    | rt v M' => exact ho
end Rw
end PRwLib
section PRwFar
set_option autoImplicit false
set_option linter.all false
set_option maxRecDepth 100000
/-! RwFar: how far two lists are, in plain ints. -/
namespace Rw
open PySem (Str)
inductive Kd where
  | pl | mo | sh
def Kd.s : Kd → D
  | .pl => .str "plain"
  | .mo => .str "moved"
  | .sh => .str "shape"
def frD (p : Int × Int) : D := .tup [.int p.1, .int p.2]
def unevenZ (xs : List Int) : Int := (xs.length : Int) * (xs.map fun x => x * x).sum - xs.sum * xs.sum
def diffZ (xs ys : List Int) : List Int := (xs.zip ys).map fun p => p.1 - p.2
def dotZ (xs ys : List Int) : Int := ((xs.zip ys).map fun p => p.1 * p.2).sum
def signG (t b : Int) : Int := if b < 0 then -(Int.gcd t b : Int) else (Int.gcd t b : Int)
def madeZ (t b : Int) : Int × Int := (t.fdiv (signG t b), b.fdiv (signG t b))
def bothZ (xs ys : List Int) : Int := (xs.length : Int) * dotZ xs ys - xs.sum * ys.sum
def farZ : Kd → List Int → List Int → Int × Int
  | .pl, xs, ys => madeZ ((diffZ xs ys).map fun d => d * d).sum xs.length
  | .mo, xs, ys => madeZ (unevenZ (diffZ xs ys)) ((xs.length : Int) * xs.length)
  | .sh, xs, ys => if unevenZ xs = 0 ∨ unevenZ ys = 0 then (if unevenZ xs = unevenZ ys then (0, 1) else (1, 1))
    else madeZ (unevenZ xs * unevenZ ys - bothZ xs ys * (if bothZ xs ys < 0 then -bothZ xs ys else bothZ xs ys)) (unevenZ xs * unevenZ ys)
def lessZ (a b : Int × Int) : Bool := decide (a.1 * b.2 < b.1 * a.2)
/-- a row of ints within k figures, at most 100 -/
def Row (k : Nat) (xs : List Int) : Prop := (∀ x ∈ xs, Bn k x) ∧ xs.length ≤ 100
theorem Row.diff {k : Nat} {xs ys : List Int} (hx : Row k xs) (hy : Row k ys) : Row (k + 1) (diffZ xs ys) := by
  refine ⟨?_, ?_⟩
  · intro d hd
    simp only [diffZ, List.mem_map] at hd
    obtain ⟨⟨a, b⟩, hp, rfl⟩ := hd
    have := List.of_mem_zip hp
    exact (hx.1 a this.1).sub (hy.1 b this.2)
  · have := hx.2
    simp [diffZ]
    omega
theorem Bn.nat {n : Nat} (h : n ≤ 100) : Bn 2 (n : Int) := ⟨by show -(100 : Int) ≤ _; omega, by show _ ≤ (100 : Int); omega⟩
theorem Row.sum {k : Nat} {xs : List Int} (h : Row k xs) : Bn (k + 2) xs.sum := Bn.sum h.1 h.2
theorem Row.sqs {k : Nat} {xs : List Int} (h : Row k xs) : Bn (k + k + 2) (xs.map fun x => x * x).sum := by
  refine Bn.sum ?_ (by simpa using h.2)
  intro y hy
  obtain ⟨x, hx, rfl⟩ := List.mem_map.mp hy
  exact (h.1 x hx).mul (h.1 x hx)
theorem Row.uneven {k : Nat} {xs : List Int} (h : Row k xs) : Bn (k + k + 5) (unevenZ xs) := by
  unfold unevenZ
  exact (((Bn.nat h.2).mul h.sqs).mono (k := k + k + 4) (by omega)).sub ((h.sum.mul h.sum).mono (by omega))
theorem Row.dot {k : Nat} {xs ys : List Int} (hx : Row k xs) (hy : Row k ys) : Bn (k + k + 2) (dotZ xs ys) := by
  refine Bn.sum ?_ ?_
  · intro z hz
    obtain ⟨⟨a, b⟩, hp, rfl⟩ := List.mem_map.mp hz
    have := List.of_mem_zip hp
    exact (hx.1 a this.1).mul (hy.1 b this.2)
  · have := hx.2
    simp
    omega
theorem Row.both {k : Nat} {xs ys : List Int} (hx : Row k xs) (hy : Row k ys) : Bn (k + k + 5) (bothZ xs ys) :=
  (((Bn.nat hx.2).mul (hx.dot hy)).mono (k := k + k + 4) (by omega)).sub ((hx.sum.mul hy.sum).mono (by omega))
theorem Bn.abs {k : Nat} {x : Int} (h : Bn k x) : Bn k (if x < 0 then -x else x) := by
  split
  · exact h.neg
  · exact h
theorem signG_ne {t b : Int} (h : b ≠ 0) : signG t b ≠ 0 := by
  have := gcd_pos (t := t) h
  unfold signG
  split <;> omega
theorem signG_bn {t b : Int} {k : Nat} (h : b ≠ 0) (hb : Bn k b) : Bn k (signG t b) := by
  have := gcd_bd (t := t) h hb
  unfold signG
  split
  · exact bd_neg this
  · exact this
theorem Bn.fdiv {k : Nat} {x y : Int} (h : Bn k x) : Bn k (x.fdiv y) := bd_fdiv h
theorem madeZ_bn {k : Nat} {t b : Int} (ht : Bn k t) (hb : Bn k b) : Bn k (madeZ t b).1 ∧ Bn k (madeZ t b).2 := ⟨ht.fdiv, hb.fdiv⟩
theorem Row.shTop {k : Nat} {xs ys : List Int} (hx : Row k xs) (hy : Row k ys) : Bn (4 * k + 11) (unevenZ xs * unevenZ ys - bothZ xs ys * (if bothZ xs ys < 0 then -bothZ xs ys else bothZ xs ys)) :=
  ((hx.uneven.mul hy.uneven).mono (k := 4 * k + 10) (by omega)).sub (((hx.both hy).mul (hx.both hy).abs).mono (by omega))
theorem Row.shBot {k : Nat} {xs ys : List Int} (hx : Row k xs) (hy : Row k ys) : Bn (4 * k + 11) (unevenZ xs * unevenZ ys) := (hx.uneven.mul hy.uneven).mono (by omega)
theorem farZ_bn {k : Nat} {xs ys : List Int} (kd : Kd) (hx : Row k xs) (hy : Row k ys) : Bn (4 * k + 11) (farZ kd xs ys).1 ∧ Bn (4 * k + 11) (farZ kd xs ys).2 := by
  have o : ∀ {z : Int}, z = 0 ∨ z = 1 → Bn (4 * k + 11) z := by
    intro z hz
    have : Bn 1 z := by rcases hz with rfl | rfl <;> exact ⟨by decide, by decide⟩
    exact this.mono (by omega)
  cases kd with
  | pl => exact madeZ_bn ((hx.diff hy).sqs.mono (by omega)) ((Bn.nat hx.2).mono (by omega))
  | mo => exact madeZ_bn ((hx.diff hy).uneven.mono (by omega)) (((Bn.nat hx.2).mul (Bn.nat hx.2)).mono (by omega))
  | sh =>
    rw [show farZ .sh xs ys = if unevenZ xs = 0 ∨ unevenZ ys = 0 then (if unevenZ xs = unevenZ ys then (0, 1) else (1, 1)) else madeZ (unevenZ xs * unevenZ ys - bothZ xs ys * (if bothZ xs ys < 0 then -bothZ xs ys else bothZ xs ys)) (unevenZ xs * unevenZ ys) from rfl]
    by_cases h1 : unevenZ xs = 0 ∨ unevenZ ys = 0
    · rw [if_pos h1]
      by_cases h2 : unevenZ xs = unevenZ ys
      · rw [if_pos h2]
        exact ⟨o (.inl rfl), o (.inr rfl)⟩
      · rw [if_neg h2]
        exact ⟨o (.inr rfl), o (.inr rfl)⟩
    · rw [if_neg h1]
      exact madeZ_bn (hx.shTop hy) (hx.shBot hy)
theorem frD_shp {p : Int × Int} {n : Nat} : (frD p).shp (n + 1) = true := by simp [frD, D.shp]
/-! ### stretches -/
def cutZ (xs : List Int) (l p : Nat) : List Int := (xs.drop p).take l
def stretchesZ (xs : List Int) (l : Nat) : List (List Int) := (List.range (xs.length + 1 - l)).map fun p => cutZ xs l p
theorem cutD_map {xs : List Int} {l p : Nat} (h : p + l ≤ xs.length) : cutD (xs.map D.int) (some (p : Int)) (some ((p : Int) + (l : Int))) = (cutZ xs l p).map D.int := by
  unfold cutD cutZ sIxD
  have a : ¬ ((p : Int) < 0) := by omega
  have b : ¬ ((p : Int) + (l : Int) < 0) := by omega
  simp only [a, b, if_false, List.length_map]
  have c : min (p : Int).toNat xs.length = p := by omega
  have d : min ((p : Int) + (l : Int)).toNat xs.length = p + l := by omega
  rw [c, d, ← List.map_drop, ← List.map_take]
  congr 2
  omega
theorem cutZ_rw {k l p : Nat} {xs : List Int} (h : Row k xs) : Row k (cutZ xs l p) := by
  refine ⟨fun x hx => h.1 x (List.mem_of_mem_drop (List.mem_of_mem_take hx)), ?_⟩
  have := h.2
  simp [cutZ]
  omega
theorem cutZ_len {l p : Nat} {xs : List Int} (h : p + l ≤ xs.length) : (cutZ xs l p).length = l := by
  simp [cutZ]
  omega
/-! ### the nearest -/
/-- the nearest so far, with its place -/
def bestD : Option ((Int × Int) × Nat) → D
  | none => .non
  | some (f, q) => .tup [frD f, .int q]
def stepZ (b : Option ((Int × Int) × Nat)) (f : Int × Int) (q : Nat) : Option ((Int × Int) × Nat) := match b with
  | none => some (f, q)
  | some (g, r) => if lessZ f g then some (f, q) else some (g, r)
def nthZ (ss : List (List Int)) (p : Nat) : List Int := ss.getD p []
def farAt (kd : Kd) (ss : List (List Int)) (p q : Nat) : Int × Int := farZ kd (nthZ ss p) (nthZ ss q)
def nearTo (kd : Kd) (ss : List (List Int)) (gap p : Nat) : Nat → Option ((Int × Int) × Nat)
  | 0 => none
  | q + 1 => if gap ≤ (q - p) + (p - q) then stepZ (nearTo kd ss gap p q) (farAt kd ss p q) q else nearTo kd ss gap p q
def nearZ (kd : Kd) (ss : List (List Int)) (gap p : Nat) : Option ((Int × Int) × Nat) := nearTo kd ss gap p ss.length
def tableZ (kd : Kd) (xs : List Int) (gap l : Nat) : List (Option ((Int × Int) × Nat)) := (List.range (stretchesZ xs l).length).map fun p => nearZ kd (stretchesZ xs l) gap p
theorem bestD_shp {b : Option ((Int × Int) × Nat)} {n : Nat} : (bestD b).shp (n + 2) = true := by
  cases b with
  | none => rfl
  | some x => simp [bestD, D.shp, frD]
/-! ### rows as data -/
def rowD (s : List Int) : D := .lst (s.map D.int)
def rowsD (ss : List (List Int)) : List D := ss.map rowD
theorem enumD_at {xs : List D} {k i : Nat} {x : D} : (enumD k xs)[i]? = some x ↔ ∃ y, xs[i]? = some y ∧ x = .tup [.int ((k + i : Nat) : Int), y] := by
  induction xs generalizing k i with
  | nil => simp [enumD]
  | cons y ys ih =>
    cases i with
    | zero => simp [enumD, eq_comm]
    | succ i =>
      simp only [enumD, List.getElem?_cons_succ, ih]
      constructor
      · rintro ⟨z, h, rfl⟩
        exact ⟨z, h, by congr 3; omega⟩
      · rintro ⟨z, h, rfl⟩
        exact ⟨z, h, by congr 3; omega⟩
theorem enumD_len {xs : List D} {k : Nat} : (enumD k xs).length = xs.length := by
  induction xs generalizing k with
  | nil => rfl
  | cons y ys ih => simp [enumD, ih]
theorem ok_atN {xs : List D} {k : Nat} {z : D} {P : D → Prop} (h : xs[k]? = some z) : Ok (atD xs (k : Int)) P ↔ P z := by
  have hk := (List.getElem?_eq_some_iff.mp h).1
  simp [atD, ixD_nat hk, h]
theorem rowsD_at {ss : List (List Int)} {p : Nat} (h : p < ss.length) : (rowsD ss)[p]? = some (rowD (nthZ ss p)) := by
  simp [rowsD, nthZ, List.getElem?_map, List.getElem?_eq_getElem h, List.getD_eq_getElem?_getD]
theorem getD_mem {ss : List (List Int)} {p : Nat} (h : p < ss.length) : nthZ ss p ∈ ss := by
  rw [nthZ, List.getD_eq_getElem?_getD, List.getElem?_eq_getElem h]
  exact List.getElem_mem h
/-- stretches that can be compared -/
def Fine (k : Nat) (ss : List (List Int)) : Prop := (∀ s ∈ ss, Row k s ∧ 0 < s.length) ∧ ss.length ≤ 100
theorem farAt_bn {k : Nat} {ss : List (List Int)} {p q : Nat} (kd : Kd) (h : Fine k ss) (hp : p < ss.length) (hq : q < ss.length) : Bn (4 * k + 11) (farAt kd ss p q).1 ∧ Bn (4 * k + 11) (farAt kd ss p q).2 :=
  farZ_bn kd (h.1 _ (getD_mem hp)).1 (h.1 _ (getD_mem hq)).1
theorem nearTo_bn {k : Nat} {ss : List (List Int)} {p gap : Nat} (kd : Kd) (h : Fine k ss) (hp : p < ss.length) : ∀ {n : Nat}, n ≤ ss.length → ∀ {f : Int × Int} {r : Nat}, nearTo kd ss gap p n = some (f, r) → Bn (4 * k + 11) f.1 ∧ Bn (4 * k + 11) f.2
  | 0, _, _, _, e => by cases e
  | n + 1, hn, f, r, e => by
    have b := farAt_bn kd h hp (show n < ss.length by omega)
    unfold nearTo at e
    split at e
    · unfold stepZ at e
      split at e
      · cases e
        exact b
      · rename_i g r' e'
        split at e
        · cases e
          exact b
        · cases e
          exact nearTo_bn kd h hp (by omega) e'
    · exact nearTo_bn kd h hp (by omega) e
theorem stretches_fine {k l : Nat} {xs : List Int} (h : Row k xs) (hl : 0 < l) : Fine k (stretchesZ xs l) := by
  refine ⟨?_, ?_⟩
  · intro s hs
    obtain ⟨p, hp, rfl⟩ := List.mem_map.mp hs
    have := List.mem_range.mp hp
    exact ⟨cutZ_rw h, by rw [cutZ_len (by omega)]; exact hl⟩
  · have := h.2
    simp [stretchesZ]
    omega
theorem gap_int {q p gap : Nat} : ((gap : Int) ≤ (if (q : Int) - (p : Int) < 0 then -((q : Int) - (p : Int)) else (q : Int) - (p : Int))) ↔ gap ≤ (q - p) + (p - q) := by
  split <;> omega
theorem gap_int2 {q p gap : Nat} : ((gap : Int) ≤ (if (q : Int) - (p : Int) > (p : Int) - (q : Int) then (q : Int) - (p : Int) else (p : Int) - (q : Int))) ↔ gap ≤ (q - p) + (p - q) := by
  split <;> omega
theorem kind_in {M : DSt} {P : Dv × DSt → Prop} (kd : Kd) : Ok (oIn true (.d kd.s) (.d (.tup [.str "plain", .str "moved", .str "shape"])) M) P ↔ P (.d (.bl false), M) := by
  have t1 : (("moved" : Str) == "plain") = false := by decide +kernel
  have t2 : (("shape" : Str) == "plain") = false := by decide +kernel
  have t3 : (("shape" : Str) == "moved") = false := by decide +kernel
  have t4 : (("plain" : Str) == "moved") = false := by decide +kernel
  have t5 : (("plain" : Str) == "shape") = false := by decide +kernel
  have t6 : (("moved" : Str) == "shape") = false := by decide +kernel
  cases kd <;> simp [oIn, Kd.s, sv, D.flat, D.eqv, t1, t2, t3, t4, t5, t6]
theorem kd_shp {kd : Kd} {n : Nat} : kd.s.shp n = true := by
  cases kd <;> cases n <;> (unfold Kd.s D.shp; decide +kernel)
theorem table_shp {l : List (Option ((Int × Int) × Nat))} {n : Nat} : (D.lst (l.map bestD)).shp (n + 3) = true := by
  simp only [D.shp, List.all_map, List.all_eq_true]
  intro b _
  exact bestD_shp
theorem rowD_shp {xs : List Int} {n : Nat} : (rowD xs).shp (n + 1) = true := by
  simp only [rowD, D.shp, List.all_map, List.all_eq_true]
  intro b _
  cases n <;> rfl
/-! ### draws -/
/-- the purse: a cell with two ints -/
def Purse (n : Nat) (M : DSt) : Prop := ∃ a b, M[n]? = some (some [.int a, .int b])
/-- a store like M but for the purse -/
def Like (n : Nat) (M M' : DSt) : Prop := Purse n M' ∧ ∃ a b, M' = M.set n (some [.int a, .int b])
theorem Purse.like {n : Nat} {M : DSt} (h : Purse n M) : Like n M M := by
  refine ⟨h, ?_⟩
  obtain ⟨a, b, e⟩ := h
  refine ⟨a, b, ?_⟩
  obtain ⟨hn, e⟩ := List.getElem?_eq_some_iff.mp e
  rw [← e, List.set_getElem_self]
theorem Like.set {n : Nat} {M M' : DSt} (h : Like n M M') (a b : Int) : Like n M (M'.set n (some [.int a, .int b])) := by
  obtain ⟨⟨c, d, e⟩, x, y, rfl⟩ := h
  refine ⟨⟨a, b, ?_⟩, a, b, ?_⟩
  · rw [List.getElem?_set_self (List.getElem?_eq_some_iff.mp e).1]
  · rw [List.set_set]
theorem Like.len {n : Nat} {M M' : DSt} (h : Like n M M') : M'.length = M.length := by
  obtain ⟨_, a, b, rfl⟩ := h
  simp
theorem Like.trans {n : Nat} {M M' M'' : DSt} (h : Like n M M') (h' : Like n M' M'') : Like n M M'' := by
  obtain ⟨_, a, b, rfl⟩ := h
  obtain ⟨p, c, d, rfl⟩ := h'
  exact ⟨p, c, d, by rw [List.set_set]⟩
theorem ints_of {Q : Int → Prop} : ∀ {ys : List D}, (∀ y ∈ ys, ∃ z, y = .int z ∧ Q z) → ∃ zs : List Int, ys = zs.map D.int ∧ zs.length = ys.length ∧ ∀ z ∈ zs, Q z
  | [], _ => ⟨[], rfl, rfl, by simp⟩
  | y :: ys, h => by
    obtain ⟨z, rfl, hz⟩ := h y (by simp)
    obtain ⟨zs, rfl, hl, hq⟩ := ints_of (ys := ys) fun y hy => h y (by simp [hy])
    exact ⟨z :: zs, rfl, by simp, by simpa using ⟨hz, hq⟩⟩
/-- a drawn number: what the draw tells -/
def Drawn (n : Nat) (m : Int) (M : DSt) (p : Dv × DSt) : Prop := ∃ r : Nat, (r : Int) < m ∧ p.1 = .d (.int (r : Int)) ∧ Like n M p.2
theorem sIx_cut {xs : List D} : cutD xs none (some 63) = xs.take 63 := by
  unfold cutD sIxD
  simp only [List.drop_zero, Nat.sub_zero]
  rw [if_neg (by decide)]
  show List.take (min 63 xs.length) xs = _
  rw [Nat.min_def]
  split
  · rfl
  · rw [List.take_of_length_le (Nat.le_refl _), List.take_of_length_le (by omega)]
/-- a drawn int within k figures -/
def DrawnB (k n : Nat) (M : DSt) (p : Dv × DSt) : Prop := ∃ z : Int, Bn k z ∧ p.1 = .d (.int z) ∧ Like n M p.2
theorem Purse.lt {n : Nat} {M : DSt} (h : Purse n M) : n < M.length := by
  obtain ⟨a, b, e⟩ := h
  exact (List.getElem?_eq_some_iff.mp e).1
theorem Like.at {n c : Nat} {M M' : DSt} (h : Like n M M') (hc : c ≠ n) : M'[c]? = M[c]? := by
  obtain ⟨_, a, b, rfl⟩ := h
  rw [List.getElem?_set_ne (Ne.symm hc)]
/-- a store in which a def works: the purse drawn from, cells of its own behind -/
def Grown (n : Nat) (M M1 : DSt) : Prop := n < M.length ∧ M.length ≤ M1.length ∧ Purse n M1 ∧ Like n M (M1.take M.length)
theorem Purse.grown {n : Nat} {M : DSt} (h : Purse n M) : Grown n M M := ⟨h.lt, Nat.le_refl _, h, by rw [List.take_of_length_le (Nat.le_refl _)]; exact h.like⟩
theorem Grown.draw {n : Nat} {M M1 M2 : DSt} (h : Grown n M M1) (h' : Like n M1 M2) : Grown n M M2 := by
  obtain ⟨h0, h1, h2, h3⟩ := h
  obtain ⟨p, a, b, rfl⟩ := h'
  refine ⟨h0, by simpa using h1, p, ?_⟩
  rw [List.take_set]
  exact h3.set a b
theorem Grown.app {n : Nat} {M M1 : DSt} (h : Grown n M M1) (x : Option (List D)) : Grown n M (M1 ++ [x]) := by
  obtain ⟨h0, h1, h2, h3⟩ := h
  refine ⟨h0, by simp; omega, ?_, ?_⟩
  · obtain ⟨a, b, e⟩ := h2
    exact ⟨a, b, by rw [List.getElem?_append_left (by omega)]; exact e⟩
  · rw [List.take_append_of_le_length h1]
    exact h3
theorem Grown.put {n c : Nat} {M M1 : DSt} (h : Grown n M M1) (hc : M.length ≤ c) (x : Option (List D)) : Grown n M (M1.set c x) := by
  obtain ⟨h0, h1, h2, h3⟩ := h
  refine ⟨h0, by simpa using h1, ?_, ?_⟩
  · obtain ⟨a, b, e⟩ := h2
    exact ⟨a, b, by rw [List.getElem?_set_ne (by omega)]; exact e⟩
  · rw [List.take_set, List.set_eq_of_length_le (by simp; omega)]
    exact h3
theorem ok_finC {b c : Nat} {M : DSt} {xs : List D} {P : Dv × DSt → Prop} (h : b ≤ c) (e : M[c]? = some (some xs)) : Ok (fin b (.c c) M) P ↔ P (.c b, M.take b ++ [some xs]) := by
  have hn : ¬ c < b := by omega
  simp [fin, hn, e]
theorem atN {zs : List Int} {p : Nat} (hp : p < zs.length) : ∃ z, z ∈ zs ∧ (zs.map D.int)[p]? = some (.int z) :=
  ⟨zs[p], List.getElem_mem hp, by simp [List.getElem?_map, List.getElem?_eq_getElem hp]⟩
/-- an int item at an int place -/
theorem pickI {zs : List Int} {s : Int} {P : D → Prop} (h0 : 0 ≤ s) (h1 : s < zs.length) (h : ∀ z ∈ zs, P (.int z)) : Ok (atD (zs.map D.int) s) P :=
  pick h0 (by simpa using h1) fun d hd => by
    obtain ⟨z, hz, rfl⟩ := List.mem_map.mp hd
    exact h z hz
theorem cut_take {xs : List D} (r : Nat) : cutD xs none (some (r : Int)) = xs.take r := by
  unfold cutD sIxD
  simp only [List.drop_zero, Nat.sub_zero]
  rw [if_neg (by omega)]
  show List.take (min r xs.length) xs = _
  rw [Nat.min_def]
  split
  · rfl
  · rw [List.take_of_length_le (Nat.le_refl _), List.take_of_length_le (by omega)]
theorem cut_drop {xs : List D} (r : Nat) : cutD xs (some (r : Int)) none = xs.drop r := by
  unfold cutD sIxD
  simp only
  rw [if_neg (by omega)]
  show List.take (xs.length - min r xs.length) (List.drop (min r xs.length) xs) = _
  rw [List.take_of_length_le (by simp)]
  by_cases h : r ≤ xs.length
  · rw [Nat.min_eq_left h]
  · rw [Nat.min_eq_right (by omega), List.drop_of_length_le (Nat.le_refl _), List.drop_of_length_le (by omega)]
@[simp ↓] theorem ok_slC {M : DSt} {c : Bool} {n : Nat} {l h : Option Int} {P : Dv × DSt → Prop} : Ok (slU c (.c n) l h M) P ↔ Ok (cel M n) fun xs => Ok (mkL c (cutD xs l h) M) P := by
  simp only [slU, slL, lv_c, cel]
  cases (M[n]?).join <;> simp
@[simp ↓] theorem ok_rep {M : DSt} {c : Bool} {xs : List D} {k : Int} {P : Dv × DSt → Prop} : Ok (oMulU c (.d (.lst xs)) (.d (.int k)) M) P ↔ (-(2 ^ 62) ≤ k ∧ k < 2 ^ 62 ∧ xs.length * k.toNat ≤ big) ∧ Ok (mkL c (List.replicate k.toNat xs).flatten M) P := by
  simp only [oMulU, oRep, lw_lst, ok_grd]
theorem flat_one {α : Type} (n : Nat) (x : α) : (List.replicate n [x]).flatten = List.replicate n x := by
  induction n with
  | zero => rfl
  | succ n ih => simp [List.replicate_succ, ih]
theorem ok_frz {b : Nat} {M : DSt} {xs : List D} {P : Dv × DSt → Prop} (h : M.length = b) : Ok (frz b (.c b, M ++ [some xs])) P ↔ P (.d (.lst xs), M) := by
  subst h
  simp [frz]
/-- what is asked: a row, a kind, a gap, a length -/
def Asked (n m : Nat) (M : DSt) (p : Dv × DSt) : Prop := ∃ (zs : List Int) (kd : Kd) (gap l : Nat), Row 10 zs ∧ zs.length ≤ m ∧ 1 ≤ gap ∧ gap ≤ 200 ∧ 1 ≤ l ∧ l ≤ 40 ∧ p.1 = .d (.tup [rowD zs, kd.s, .int gap, .int l]) ∧ Like n M p.2
/-! ### order of fractions -/
theorem madeZ_pos {t b : Int} (h : b ≠ 0) : 0 < (madeZ t b).2 := by
  have hg := gcd_pos (t := t) h
  obtain ⟨c, hc⟩ := gcd_dvd_r t b
  unfold madeZ signG
  simp only
  generalize ((Int.gcd t b : Nat) : Int) = G at hg hc ⊢
  subst hc
  have hc0 : c ≠ 0 := by
    rintro rfl
    simp at h
  by_cases hn : G * c < 0
  · rw [if_pos hn]
    have hc : c < 0 := by
      by_cases q : c < 0
      · exact q
      · have := Int.mul_nonneg (Int.le_of_lt hg) (show 0 ≤ c by omega)
        omega
    rw [show G * c = -G * -c by rw [Int.neg_mul_neg], Int.mul_fdiv_cancel_left _ (by omega)]
    omega
  · rw [if_neg hn, Int.mul_fdiv_cancel_left _ (by omega)]
    by_cases q : 0 < c
    · exact q
    · have := Int.mul_neg_of_pos_of_neg hg (show c < 0 by omega)
      omega
theorem farZ_pos {xs ys : List Int} (kd : Kd) (h : 0 < xs.length) : 0 < (farZ kd xs ys).2 := by
  cases kd with
  | pl => exact madeZ_pos (by omega)
  | mo =>
    have := Int.mul_pos (show (0 : Int) < xs.length by omega) (show (0 : Int) < xs.length by omega)
    exact madeZ_pos (by omega)
  | sh =>
    rw [show farZ .sh xs ys = if unevenZ xs = 0 ∨ unevenZ ys = 0 then (if unevenZ xs = unevenZ ys then (0, 1) else (1, 1)) else madeZ (unevenZ xs * unevenZ ys - bothZ xs ys * (if bothZ xs ys < 0 then -bothZ xs ys else bothZ xs ys)) (unevenZ xs * unevenZ ys) from rfl]
    by_cases h1 : unevenZ xs = 0 ∨ unevenZ ys = 0
    · rw [if_pos h1]
      split <;> decide
    · rw [if_neg h1]
      exact madeZ_pos (Int.mul_ne_zero (fun e => h1 (.inl e)) (fun e => h1 (.inr e)))
theorem lessZ_iff {a b : Int × Int} : lessZ a b = true ↔ a.1 * b.2 < b.1 * a.2 := by simp [lessZ]
theorem lessZ_irr {a : Int × Int} : lessZ a a = false := by simp [lessZ]
theorem less_step {a f g : Int × Int} (ha : 0 < a.2) (hf : 0 < f.2) (hg : 0 < g.2) (h1 : lessZ f g = true) (h2 : lessZ a g = false) : lessZ a f = false := by
  rw [lessZ_iff] at h1
  have h2' : ¬ (a.1 * g.2 < g.1 * a.2) := by rw [← lessZ_iff, h2]; simp
  rw [← Bool.not_eq_true, lessZ_iff]
  intro h3
  have e1 : f.1 * g.2 * a.2 < g.1 * f.2 * a.2 := Int.mul_lt_mul_of_pos_right h1 ha
  have e2 : g.1 * a.2 * f.2 ≤ a.1 * g.2 * f.2 := Int.mul_le_mul_of_nonneg_right (by omega) (Int.le_of_lt hf)
  have e3 : a.1 * f.2 * g.2 < f.1 * a.2 * g.2 := Int.mul_lt_mul_of_pos_right h3 hg
  have x1 : g.1 * f.2 * a.2 = g.1 * a.2 * f.2 := by ac_rfl
  have x2 : a.1 * g.2 * f.2 = a.1 * f.2 * g.2 := by ac_rfl
  have x3 : f.1 * g.2 * a.2 = f.1 * a.2 * g.2 := by ac_rfl
  omega
/-- what the nearest is -/
def Apart (gap p q : Nat) : Prop := gap ≤ (q - p) + (p - q)
theorem nearTo_spec {kd : Kd} {ss : List (List Int)} {gap p : Nat} (hs : ∀ s ∈ ss, 0 < s.length) (hp : p < ss.length) : ∀ {n : Nat}, n ≤ ss.length →
    (nearTo kd ss gap p n = none → ∀ q, q < n → ¬ Apart gap p q) ∧ (∀ f r, nearTo kd ss gap p n = some (f, r) → (r < n ∧ Apart gap p r ∧ f = farAt kd ss p r) ∧ ∀ q, q < n → Apart gap p q → lessZ (farAt kd ss p q) f = false)
  | 0, _ => ⟨fun _ q h => by omega, fun f r h => by cases h⟩
  | n + 1, hn => by
    have pos : ∀ q, 0 < (farAt kd ss p q).2 := fun q => farZ_pos kd (hs _ (getD_mem hp))
    have ih := nearTo_spec (kd := kd) (gap := gap) hs hp (show n ≤ ss.length by omega)
    by_cases hg : gap ≤ (n - p) + (p - n)
    · rw [nearTo, if_pos hg]
      cases e : nearTo kd ss gap p n with
      | none =>
        have hno := ih.1 e
        refine ⟨fun h => by simp [stepZ] at h, fun f r h => ?_⟩
        simp only [stepZ] at h
        cases h
        refine ⟨⟨by omega, hg, rfl⟩, fun q hq ha => ?_⟩
        by_cases hqn : q = n
        · subst hqn
          exact lessZ_irr
        · exact absurd ha (hno q (by omega))
      | some gr =>
        obtain ⟨g, r0⟩ := gr
        obtain ⟨⟨a1, a2, a3⟩, a4⟩ := ih.2 g r0 e
        refine ⟨fun h => ?_, fun f r h => ?_⟩
        · simp only [stepZ] at h
          split at h <;> cases h
        · simp only [stepZ] at h
          by_cases hl : lessZ (farAt kd ss p n) g = true
          · rw [if_pos hl] at h
            cases h
            refine ⟨⟨by omega, hg, rfl⟩, fun q hq ha => ?_⟩
            by_cases hqn : q = n
            · subst hqn
              exact lessZ_irr
            · exact less_step (pos q) (pos n) (by rw [a3]; exact pos r0) hl (a4 q (by omega) ha)
          · rw [if_neg hl] at h
            cases h
            refine ⟨⟨by omega, a2, a3⟩, fun q hq ha => ?_⟩
            by_cases hqn : q = n
            · subst hqn
              simpa using hl
            · exact a4 q (by omega) ha
    · rw [nearTo, if_neg hg]
      refine ⟨fun h q hq ha => ?_, fun f r h => ?_⟩
      · by_cases hqn : q = n
        · subst hqn
          exact hg ha
        · exact ih.1 h q (by omega) ha
      · obtain ⟨⟨a1, a2, a3⟩, a4⟩ := ih.2 f r h
        refine ⟨⟨by omega, a2, a3⟩, fun q hq ha => ?_⟩
        by_cases hqn : q = n
        · subst hqn
          exact absurd ha hg
        · exact a4 q (by omega) ha
theorem stretches_len {xs : List Int} {l : Nat} : (stretchesZ xs l).length = xs.length + 1 - l := by simp [stretchesZ]
theorem nth_stretch {xs : List Int} {l p : Nat} (h : p < xs.length + 1 - l) : nthZ (stretchesZ xs l) p = cutZ xs l p := by
  simp [nthZ, stretchesZ, List.getD_eq_getElem?_getD, List.getElem?_map, List.getElem?_range h]
theorem cut_app {xs : List Int} {x : Int} {l p : Nat} (h : p + l ≤ xs.length) : cutZ (xs ++ [x]) l p = cutZ xs l p := by
  unfold cutZ
  rw [List.drop_append_of_le_length (by omega), List.take_append_of_le_length (by simp; omega)]
theorem nearTo_congr {kd : Kd} {ss ss' : List (List Int)} {gap p n : Nat} (hp : nthZ ss' p = nthZ ss p) (h : ∀ q, q < n → nthZ ss' q = nthZ ss q) : nearTo kd ss' gap p n = nearTo kd ss gap p n := by
  induction n with
  | zero => rfl
  | succ n ih =>
    have e := ih fun q hq => h q (by omega)
    rw [nearTo, nearTo, e]
    have : farAt kd ss' p n = farAt kd ss p n := by unfold farAt; rw [hp, h n (by omega)]
    rw [this]
/-- the nearest in a row that has grown by one -/
theorem near_grown {kd : Kd} {xs : List Int} {x : Int} {gap l p : Nat} (hl : 0 < l) (hp : p < xs.length + 1 - l) :
    nearZ kd (stretchesZ (xs ++ [x]) l) gap p = if gap ≤ (xs.length + 1 - l) - p then stepZ (nearZ kd (stretchesZ xs l) gap p) (farAt kd (stretchesZ (xs ++ [x]) l) p (xs.length + 1 - l)) (xs.length + 1 - l) else nearZ kd (stretchesZ xs l) gap p := by
  have e : ∀ q, q < xs.length + 1 - l → nthZ (stretchesZ (xs ++ [x]) l) q = nthZ (stretchesZ xs l) q := by
    intro q hq
    rw [nth_stretch (by simp; omega), nth_stretch hq, cut_app (by omega)]
  have en : (stretchesZ (xs ++ [x]) l).length = (xs.length + 1 - l) + 1 := by rw [stretches_len]; simp; omega
  unfold nearZ
  rw [en, stretches_len, nearTo, nearTo_congr (e p hp) e]
  have : (xs.length + 1 - l) - p + (p - (xs.length + 1 - l)) = (xs.length + 1 - l) - p := by omega
  rw [this]
theorem tableZ_len {kd : Kd} {xs : List Int} {gap l : Nat} : (tableZ kd xs gap l).length = xs.length + 1 - l := by simp [tableZ, stretches_len]
theorem tableZ_at {kd : Kd} {xs : List Int} {gap l p : Nat} (h : p < xs.length + 1 - l) : ((tableZ kd xs gap l).map bestD)[p]? = some (bestD (nearZ kd (stretchesZ xs l) gap p)) := by
  simp only [tableZ, List.map_map, List.getElem?_map, stretches_len, List.getElem?_range h]
  rfl
theorem rowD_app {xs : List Int} {x : Int} : D.lst (xs.map D.int ++ [D.int x]) = rowD (xs ++ [x]) := by simp [rowD]
theorem Row.app {k : Nat} {xs : List Int} {x : Int} (h : Row k xs) (hx : Bn k x) (hl : xs.length < 100) : Row k (xs ++ [x]) := by
  refine ⟨fun z hz => ?_, by simp; omega⟩
  rcases List.mem_append.mp hz with hz | hz
  · exact h.1 z hz
  · simp at hz
    subst hz
    exact hx
end Rw
end PRwFar
section PRwMin
set_option autoImplicit false
set_option linter.all false
set_option maxRecDepth 100000
/-! RwMin: the least of some fractions, the first such. -/
namespace Rw
section
variable {π : Type}
def minStep (b : Option ((Int × Int) × π)) (x : (Int × Int) × π) : Option ((Int × Int) × π) := match b with
  | none => some x
  | some g => if lessZ x.1 g.1 then some x else some g
def minOf (L : List ((Int × Int) × π)) : Option ((Int × Int) × π) := L.foldl minStep none
theorem less_trans {a b c : Int × Int} (ha : 0 < a.2) (hb : 0 < b.2) (hc : 0 < c.2) (h1 : lessZ a b = true) (h2 : lessZ b c = true) : lessZ a c = true := by
  rw [lessZ_iff] at *
  have e1 : a.1 * b.2 * c.2 < b.1 * a.2 * c.2 := Int.mul_lt_mul_of_pos_right h1 hc
  have e2 : b.1 * c.2 * a.2 < c.1 * b.2 * a.2 := Int.mul_lt_mul_of_pos_right h2 ha
  have x1 : b.1 * a.2 * c.2 = b.1 * c.2 * a.2 := by ac_rfl
  have x2 : a.1 * b.2 * c.2 = a.1 * c.2 * b.2 := by ac_rfl
  have x3 : c.1 * b.2 * a.2 = c.1 * a.2 * b.2 := by ac_rfl
  refine Int.lt_of_mul_lt_mul_right (a := b.2) ?_ (Int.le_of_lt hb)
  omega
/-- a below b, c not below b: a below c -/
theorem less_of_not {a b c : Int × Int} (ha : 0 < a.2) (hb : 0 < b.2) (hc : 0 < c.2) (h1 : lessZ a b = true) (h2 : lessZ c b = false) : lessZ a c = true := by
  rw [lessZ_iff] at *
  have h2' : ¬ (c.1 * b.2 < b.1 * c.2) := by rw [← lessZ_iff, h2]; simp
  have e1 : a.1 * b.2 * c.2 < b.1 * a.2 * c.2 := Int.mul_lt_mul_of_pos_right h1 hc
  have e2 : b.1 * c.2 * a.2 ≤ c.1 * b.2 * a.2 := Int.mul_le_mul_of_nonneg_right (by omega) (Int.le_of_lt ha)
  have x1 : b.1 * a.2 * c.2 = b.1 * c.2 * a.2 := by ac_rfl
  have x2 : a.1 * b.2 * c.2 = a.1 * c.2 * b.2 := by ac_rfl
  have x3 : c.1 * b.2 * a.2 = c.1 * a.2 * b.2 := by ac_rfl
  refine Int.lt_of_mul_lt_mul_right (a := b.2) ?_ (Int.le_of_lt hb)
  omega
theorem less_asymm {a b : Int × Int} (h : lessZ a b = true) : lessZ b a = false := by
  rw [lessZ_iff] at h
  rw [← Bool.not_eq_true, lessZ_iff]
  omega
/-- a not below b, b not below c: a not below c -/
theorem nless_trans {a b c : Int × Int} (ha : 0 < a.2) (hb : 0 < b.2) (hc : 0 < c.2) (h1 : lessZ a b = false) (h2 : lessZ b c = false) : lessZ a c = false := by
  cases h : lessZ a c with
  | false => rfl
  | true =>
    have := less_of_not ha hc hb h h2
    rw [this] at h1
    exact h1
/-- x is the first least of L -/
def IsMin (L : List ((Int × Int) × π)) (x : (Int × Int) × π) : Prop := ∃ L1 L2, L = L1 ++ x :: L2 ∧ (∀ y ∈ L1, lessZ x.1 y.1 = true) ∧ (∀ y ∈ L2, lessZ y.1 x.1 = false)
theorem minFrom {L : List ((Int × Int) × π)} : ∀ {g : (Int × Int) × π}, 0 < g.1.2 → (∀ y ∈ L, 0 < y.1.2) → ∃ x, L.foldl minStep (some g) = some x ∧ IsMin (g :: L) x := by
  induction L with
  | nil => intro g _ _; exact ⟨g, rfl, [], [], rfl, by simp, by simp⟩
  | cons y L ih =>
    intro g hg hp
    have hy := hp y (by simp)
    simp only [List.foldl_cons, minStep]
    by_cases hl : lessZ y.1 g.1 = true
    · rw [if_pos hl]
      obtain ⟨x, e, L1, L2, eL, h1, h2⟩ := ih hy fun z hz => hp z (by simp [hz])
      refine ⟨x, e, g :: L1, L2, by rw [eL]; rfl, ?_, h2⟩
      intro z hz
      rcases List.mem_cons.mp hz with rfl | hz
      · cases L1 with
        | nil =>
          simp only [List.nil_append, List.cons.injEq] at eL
          rw [← eL.1]
          exact hl
        | cons w L1 =>
          simp only [List.cons_append, List.cons.injEq] at eL
          have hx : 0 < x.1.2 := by
            have : x ∈ L := by rw [eL.2]; simp
            exact hp x (by simp [this])
          have := h1 w (by simp)
          rw [← eL.1] at this
          exact less_trans hx hy hg this hl
      · exact h1 z hz
    · rw [if_neg hl]
      have hl' : lessZ y.1 g.1 = false := by simpa using hl
      obtain ⟨x, e, L1, L2, eL, h1, h2⟩ := ih hg fun z hz => hp z (by simp [hz])
      refine ⟨x, e, ?_⟩
      cases L1 with
      | nil =>
        simp only [List.nil_append, List.cons.injEq] at eL
        refine ⟨[], y :: L, by rw [← eL.1]; rfl, by simp, ?_⟩
        intro z hz
        rcases List.mem_cons.mp hz with rfl | hz
        · rw [← eL.1]
          exact hl'
        · rw [eL.2] at hz
          exact h2 z hz
      | cons w L1 =>
        simp only [List.cons_append, List.cons.injEq] at eL
        refine ⟨g :: y :: L1, L2, by rw [eL.2]; rfl, ?_, h2⟩
        have hx : 0 < x.1.2 := by
          have : x ∈ L := by rw [eL.2]; simp
          exact hp x (by simp [this])
        have hxg := h1 w (by simp)
        rw [← eL.1] at hxg
        intro z hz
        rcases List.mem_cons.mp hz with rfl | hz
        · exact hxg
        · rcases List.mem_cons.mp hz with rfl | hz
          · exact less_of_not hx hg hy hxg hl'
          · exact h1 z (by simp [hz])
theorem minOf_none {L : List ((Int × Int) × π)} (hp : ∀ y ∈ L, 0 < y.1.2) : minOf L = none ↔ L = [] := by
  cases L with
  | nil => simp [minOf]
  | cons y L =>
    obtain ⟨x, e, _⟩ := minFrom (L := L) (hp y (by simp)) fun z hz => hp z (by simp [hz])
    have : minOf (y :: L) = some x := e
    simp [this]
theorem minOf_some {L : List ((Int × Int) × π)} {x : (Int × Int) × π} (hp : ∀ y ∈ L, 0 < y.1.2) (h : minOf L = some x) : IsMin L x := by
  cases L with
  | nil => cases h
  | cons y L =>
    obtain ⟨x', e, h'⟩ := minFrom (L := L) (hp y (by simp)) fun z hz => hp z (by simp [hz])
    have e' : minOf (y :: L) = some x' := e
    rw [e'] at h
    cases h
    exact h'
theorem IsMin.mem {L : List ((Int × Int) × π)} {x : (Int × Int) × π} (h : IsMin L x) : x ∈ L := by
  obtain ⟨L1, L2, rfl, _⟩ := h
  simp
theorem IsMin.le {L : List ((Int × Int) × π)} {x y : (Int × Int) × π} (h : IsMin L x) (hy : y ∈ L) : lessZ y.1 x.1 = false := by
  obtain ⟨L1, L2, rfl, h1, h2⟩ := h
  rcases List.mem_append.mp hy with hy | hy
  · exact less_asymm (h1 y hy)
  · rcases List.mem_cons.mp hy with rfl | hy
    · exact lessZ_irr
    · exact h2 y hy
end
/-! ### the nearest two -/
def bestP : Option ((Int × Int) × (Nat × Nat)) → D
  | none => .non
  | some (f, p, q) => .tup [frD f, .int p, .int q]
theorem bestP_shp {b : Option ((Int × Int) × (Nat × Nat))} {n : Nat} : (bestP b).shp (n + 2) = true := by
  cases b with
  | none => rfl
  | some x => simp [bestP, D.shp, frD]
/-- the twos that are apart, in order -/
def candP (kd : Kd) (ss : List (List Int)) (gap : Nat) (fr : List Nat) : List ((Int × Int) × (Nat × Nat)) := fr.flatMap fun p => fr.filterMap fun q => if p + gap ≤ q then some (farAt kd ss p q, p, q) else none
def pairZ (kd : Kd) (ss : List (List Int)) (gap : Nat) (fr : List Nat) : Option ((Int × Int) × (Nat × Nat)) := minOf (candP kd ss gap fr)
def stepP (kd : Kd) (ss : List (List Int)) (gap p : Nat) (b : Option ((Int × Int) × (Nat × Nat))) (q : Nat) : Option ((Int × Int) × (Nat × Nat)) := if p + gap ≤ q then minStep b (farAt kd ss p q, p, q) else b
theorem fold_in {kd : Kd} {ss : List (List Int)} {gap p : Nat} {fr : List Nat} {b : Option ((Int × Int) × (Nat × Nat))} : fr.foldl (stepP kd ss gap p) b = (fr.filterMap fun q => if p + gap ≤ q then some (farAt kd ss p q, p, q) else none).foldl minStep b := by
  induction fr generalizing b with
  | nil => rfl
  | cons q fr ih =>
    simp only [List.foldl_cons, List.filterMap_cons, stepP]
    by_cases h : p + gap ≤ q
    · simp only [h, if_true, List.foldl_cons]
      exact ih
    · simp only [h, if_false]
      exact ih
theorem pairZ_fold {kd : Kd} {ss : List (List Int)} {gap : Nat} {fr : List Nat} : pairZ kd ss gap fr = fr.foldl (fun b p => fr.foldl (stepP kd ss gap p) b) none := by
  unfold pairZ minOf candP
  have : ∀ (l : List Nat) (b : Option ((Int × Int) × (Nat × Nat))), (l.flatMap fun p => fr.filterMap fun q => if p + gap ≤ q then some (farAt kd ss p q, p, q) else none).foldl minStep b = l.foldl (fun b p => fr.foldl (stepP kd ss gap p) b) b := by
    intro l
    induction l with
    | nil => intro b; rfl
    | cons p l ih =>
      intro b
      rw [List.flatMap_cons, List.foldl_append, ih, List.foldl_cons, fold_in]
  exact this fr none
/-- what the best so far has -/
def BestOk (k : Nat) (b : Option ((Int × Int) × (Nat × Nat))) : Prop := ∀ x, b = some x → Bn (4 * k + 11) x.1.1 ∧ Bn (4 * k + 11) x.1.2
theorem stepP_ok {k : Nat} {kd : Kd} {ss : List (List Int)} {gap p q : Nat} {b : Option ((Int × Int) × (Nat × Nat))} (hs : Fine k ss) (hp : p < ss.length) (hq : q < ss.length) (h : BestOk k b) : BestOk k (stepP kd ss gap p b q) := by
  have f := farAt_bn kd hs hp hq
  intro x e
  unfold stepP at e
  split at e
  · unfold minStep at e
    split at e
    · cases e
      exact f
    · split at e
      · cases e
        exact f
      · cases e
        exact h _ rfl
  · exact h x e
theorem candP_mem {kd : Kd} {ss : List (List Int)} {gap : Nat} {fr : List Nat} {x : (Int × Int) × (Nat × Nat)} : x ∈ candP kd ss gap fr ↔ x.2.1 ∈ fr ∧ x.2.2 ∈ fr ∧ x.2.1 + gap ≤ x.2.2 ∧ x.1 = farAt kd ss x.2.1 x.2.2 := by
  unfold candP
  rw [List.mem_flatMap]
  constructor
  · rintro ⟨p, hp, h⟩
    obtain ⟨q, hq, e⟩ := List.mem_filterMap.mp h
    split at e
    · cases e
      exact ⟨hp, hq, by assumption, rfl⟩
    · cases e
  · rintro ⟨hp, hq, hg, e⟩
    refine ⟨x.2.1, hp, List.mem_filterMap.mpr ⟨x.2.2, hq, ?_⟩⟩
    rw [if_pos hg, ← e]
theorem candP_pos {kd : Kd} {ss : List (List Int)} {gap : Nat} {fr : List Nat} (hs : ∀ s ∈ ss, 0 < s.length) (hf : ∀ p ∈ fr, p < ss.length) : ∀ y ∈ candP kd ss gap fr, 0 < y.1.2 := by
  intro y hy
  obtain ⟨h1, h2, h3, h4⟩ := candP_mem.mp hy
  rw [h4]
  exact farZ_pos kd (hs _ (getD_mem (hf _ h1)))
/-- a row grown by one: the nearest two are no farther -/
theorem pair_grown {kd : Kd} {xs : List Int} {x : Int} {gap l : Nat} (hl : 0 < l) {f : Int × Int} {p q : Nat}
    (h : pairZ kd (stretchesZ xs l) gap (List.range (stretchesZ xs l).length) = some (f, p, q)) :
    ∃ f' p' q', pairZ kd (stretchesZ (xs ++ [x]) l) gap (List.range (stretchesZ (xs ++ [x]) l).length) = some (f', p', q') ∧ lessZ f f' = false := by
  have pos : ∀ xs : List Int, ∀ s ∈ stretchesZ xs l, 0 < s.length := by
    intro xs s hs
    obtain ⟨p, hp, rfl⟩ := List.mem_map.mp hs
    have := List.mem_range.mp hp
    rw [cutZ_len (by omega)]
    exact hl
  have rg : ∀ n : Nat, ∀ p ∈ List.range n, p < n := fun n p hp => List.mem_range.mp hp
  have m := minOf_some (candP_pos (pos xs) (rg _)) h
  obtain ⟨h1, h2, h3, h4⟩ := candP_mem.mp m.mem
  simp only [List.mem_range, stretches_len] at h1 h2
  have hm : (farAt kd (stretchesZ (xs ++ [x]) l) p q, p, q) ∈ candP kd (stretchesZ (xs ++ [x]) l) gap (List.range (stretchesZ (xs ++ [x]) l).length) := by
    refine candP_mem.mpr ⟨?_, ?_, h3, rfl⟩
    · simp [stretches_len]; omega
    · simp [stretches_len]; omega
  have ef : farAt kd (stretchesZ (xs ++ [x]) l) p q = f := by
    simp only at h4
    rw [h4]
    unfold farAt
    rw [nth_stretch (by simp; omega), nth_stretch (by simp; omega), nth_stretch h1, nth_stretch h2, cut_app (by omega), cut_app (by omega)]
  cases e : pairZ kd (stretchesZ (xs ++ [x]) l) gap (List.range (stretchesZ (xs ++ [x]) l).length) with
  | none =>
    have := (minOf_none (candP_pos (pos _) (rg _))).mp e
    rw [this] at hm
    cases hm
  | some y =>
    obtain ⟨f', p', q'⟩ := y
    refine ⟨f', p', q', rfl, ?_⟩
    have := (minOf_some (candP_pos (pos _) (rg _)) e).le hm
    rw [ef] at this
    exact this
/-- a row without its first: the nearest of a stretch is no nearer -/
theorem near_tail {kd : Kd} {xs : List Int} {gap l p r : Nat} {f : Int × Int} (hl : 0 < l) (hp : p + 1 < xs.length + 1 - l) (h : nearZ kd (stretchesZ (xs.drop 1) l) gap p = some (f, r)) :
    ∃ f' r', nearZ kd (stretchesZ xs l) gap (p + 1) = some (f', r') ∧ lessZ f f' = false := by
  have pos : ∀ xs : List Int, ∀ s ∈ stretchesZ xs l, 0 < s.length := by
    intro xs s hs
    obtain ⟨p, hp, rfl⟩ := List.mem_map.mp hs
    have := List.mem_range.mp hp
    rw [cutZ_len (by omega)]
    exact hl
  have en : ∀ q, q + 1 < xs.length + 1 - l → nthZ (stretchesZ (xs.drop 1) l) q = nthZ (stretchesZ xs l) (q + 1) := by
    intro q hq
    rw [nth_stretch (by simp; omega), nth_stretch hq]
    unfold cutZ
    rw [List.drop_drop, Nat.add_comm]
  have sp := nearTo_spec (kd := kd) (gap := gap) (p := p) (pos (xs.drop 1)) (by rw [stretches_len]; simp; omega) (Nat.le_refl _)
  obtain ⟨⟨a1, a2, a3⟩, _⟩ := sp.2 f r h
  rw [stretches_len] at a1
  simp only [List.length_drop] at a1
  have sp' := nearTo_spec (kd := kd) (gap := gap) (p := p + 1) (pos xs) (by rw [stretches_len]; omega) (Nat.le_refl _)
  have ap : Apart gap (p + 1) (r + 1) := by unfold Apart at a2 ⊢; omega
  have hr : r + 1 < (stretchesZ xs l).length := by rw [stretches_len]; omega
  cases e : nearZ kd (stretchesZ xs l) gap (p + 1) with
  | none => exact absurd ap (sp'.1 e _ hr)
  | some y =>
    obtain ⟨f', r'⟩ := y
    refine ⟨f', r', rfl, ?_⟩
    have := (sp'.2 f' r' e).2 (r + 1) hr ap
    rw [a3]
    unfold farAt at this ⊢
    rw [en p hp, en r (by omega)]
    exact this
theorem zipD_at {xs ys : List D} {i : Nat} {z : D} : (zipD xs ys)[i]? = some z ↔ ∃ a b, xs[i]? = some a ∧ ys[i]? = some b ∧ z = .tup [a, b] := by
  induction xs generalizing ys i with
  | nil => simp [zipD]
  | cons x xs ih =>
    cases ys with
    | nil => simp [zipD]
    | cons y ys =>
      cases i with
      | zero => simp [zipD, eq_comm]
      | succ i => simp [zipD, ih]
/-! ### places still free -/
def natsD (fr : List Nat) : List D := fr.map fun p : Nat => .int p
def apartB (gap p q : Nat) : Bool := decide (gap ≤ (q - p) + (p - q))
def freeZ (gap : Nat) (fr pl : List Nat) : List Nat := fr.filter fun p => pl.all fun q => apartB gap q p
theorem fm_filter {fr : List Nat} {c : Nat → Bool} : (fr.filterMap fun p : Nat => if c p = true then some (D.int p) else none) = natsD (fr.filter c) := by
  induction fr with
  | nil => rfl
  | cons p fr ih =>
    simp only [List.filterMap_cons, List.filter_cons]
    cases h : c p <;> simp [ih, natsD]
@[simp] theorem blsD_map {bs : List Bool} : blsD (bs.map D.bl) = some bs := by
  induction bs with
  | nil => rfl
  | cons n ns ih => simp [blsD, ih]
theorem blsD_mapf {α : Type} {l : List α} {g : α → Bool} : blsD (l.map fun a => D.bl (g a)) = some (l.map g) := by
  have : (l.map fun a => D.bl (g a)) = (l.map g).map D.bl := by simp
  rw [this, blsD_map]
theorem ok_allf {M : DSt} {P : Dv × DSt → Prop} {α : Type} {l : List α} {g : α → Bool} : Ok (oAll [.d (.lst (l.map fun a => D.bl (g a)))] M) P ↔ P (.d (.bl (l.all g)), M) := by
  simp only [oAll, lv_lst, blsD_mapf, ok_some]
  have : (l.map g).all id = l.all g := by simp [List.all_map, Function.comp_def]
  rw [this]
theorem freeZ_nil {gap : Nat} {fr : List Nat} : freeZ gap fr [] = fr := by simp [freeZ]
theorem freeZ_cons {gap q : Nat} {fr pl : List Nat} : freeZ gap fr (q :: pl) = freeZ gap (fr.filter fun p => apartB gap q p) pl := by
  simp [freeZ, List.filter_filter]
  congr 1
  funext p
  rw [Bool.and_comm]
theorem freeZ_sub {gap p : Nat} {fr pl : List Nat} (h : p ∈ freeZ gap fr pl) : p ∈ fr := (List.mem_filter.mp h).1
theorem freeZ_len {gap : Nat} {fr pl : List Nat} : (freeZ gap fr pl).length ≤ fr.length := List.length_filter_le ..
/-! ### the loneliest -/
section
variable {π : Type}
def maxStep (b : Option ((Int × Int) × π)) (x : (Int × Int) × π) : Option ((Int × Int) × π) := match b with
  | none => some x
  | some g => if lessZ g.1 x.1 then some x else some g
end
def rowAt (rows : List (Option ((Int × Int) × Nat))) (p : Nat) : Option ((Int × Int) × Nat) := rows.getD p none
def loneStep (rows : List (Option ((Int × Int) × Nat))) (b : Option ((Int × Int) × (Nat × Nat))) (p : Nat) : Option ((Int × Int) × (Nat × Nat)) := match rowAt rows p with
  | none => b
  | some (f, r) => maxStep b (f, p, r)
def loneZ (rows : List (Option ((Int × Int) × Nat))) (fr : List Nat) : Option ((Int × Int) × (Nat × Nat)) := fr.foldl (loneStep rows) none
def RowsOk (j : Nat) (rows : List (Option ((Int × Int) × Nat))) : Prop := ∀ p f r, rowAt rows p = some (f, r) → Bn j f.1 ∧ Bn j f.2
def BestJ (j : Nat) (b : Option ((Int × Int) × (Nat × Nat))) : Prop := ∀ x, b = some x → Bn j x.1.1 ∧ Bn j x.1.2
theorem loneStep_ok {j : Nat} {rows : List (Option ((Int × Int) × Nat))} {b : Option ((Int × Int) × (Nat × Nat))} {p : Nat} (hr : RowsOk j rows) (h : BestJ j b) : BestJ j (loneStep rows b p) := by
  intro x e
  unfold loneStep at e
  split at e
  · exact h x e
  · rename_i f r e'
    have hf := hr p f r e'
    unfold maxStep at e
    split at e
    · cases e
      exact hf
    · split at e
      · cases e
        exact hf
      · cases e
        exact h _ rfl
theorem rows_at {rows : List (Option ((Int × Int) × Nat))} {p : Nat} (h : p < rows.length) : (rows.map bestD)[p]? = some (bestD (rowAt rows p)) := by
  simp [rowAt, List.getElem?_map, List.getElem?_eq_getElem h, List.getD_eq_getElem?_getD]
/-! ### one after the other -/
def runZ {τ : Type} (pick : List Nat → Option τ) (cut : List Nat → τ → List Nat) : Nat → List Nat → List τ
  | 0, _ => []
  | n + 1, fr => match pick fr with
    | none => []
    | some x => x :: runZ pick cut n (cut fr x)
theorem runZ_len {τ : Type} {pick : List Nat → Option τ} {cut : List Nat → τ → List Nat} {n : Nat} {fr : List Nat} : (runZ pick cut n fr).length ≤ n := by
  induction n generalizing fr with
  | zero => simp [runZ]
  | succ n ih =>
    unfold runZ
    split
    · simp
    · simp
      exact ih
@[simp ↓] theorem ok_append {M : DSt} {n : Nat} {x : D} {P : Dv × DSt → Prop} : Ok (mAppend (.c n) [.d x] M) P ↔ Ok (cel M n) fun xs => xs.length < big ∧ P (.d .non, M.set n (some (xs ++ [x]))) := by
  simp only [mAppend, cel]
  cases (M[n]?).join <;> simp
@[simp ↓] theorem ok_clear {M : DSt} {n : Nat} {P : Dv × DSt → Prop} : Ok (mClear (.c n) [] M) P ↔ Ok (cel M n) fun _ => P (.d .non, M.set n (some [])) := by
  simp only [mClear, cel]
  cases (M[n]?).join <;> simp
/-! ### lowest terms -/
theorem madeZ_low {t b : Int} (h : b ≠ 0) : Int.gcd (madeZ t b).1 (madeZ t b).2 = 1 := by
  have hg := gcd_pos (t := t) h
  have e : Int.gcd (t.fdiv (Int.gcd t b)) (b.fdiv (Int.gcd t b)) = 1 := by
    rw [Int.fdiv_eq_ediv_of_nonneg _ (by omega), Int.fdiv_eq_ediv_of_nonneg _ (by omega)]
    exact Int.gcd_ediv_gcd_ediv_gcd (by omega)
  obtain ⟨c, hc⟩ := gcd_dvd_r t b
  obtain ⟨d, hd⟩ := gcd_dvd_l t b
  unfold madeZ signG
  simp only
  generalize ((Int.gcd t b : Nat) : Int) = G at *
  subst hc hd
  have e1 : (G * c).fdiv G = c := Int.mul_fdiv_cancel_left _ (by omega)
  have e2 : (G * d).fdiv G = d := Int.mul_fdiv_cancel_left _ (by omega)
  have e3 : (G * c).fdiv (-G) = -c := by rw [show G * c = -G * -c by rw [Int.neg_mul_neg], Int.mul_fdiv_cancel_left _ (by omega)]
  have e4 : (G * d).fdiv (-G) = -d := by rw [show G * d = -G * -d by rw [Int.neg_mul_neg], Int.mul_fdiv_cancel_left _ (by omega)]
  rw [e1, e2] at e
  split
  · rw [e3, e4, Int.gcd_neg, Int.neg_gcd]
    exact e
  · rw [e1, e2]
    exact e
theorem farZ_low {xs ys : List Int} (kd : Kd) (h : 0 < xs.length) : Int.gcd (farZ kd xs ys).1 (farZ kd xs ys).2 = 1 := by
  cases kd with
  | pl => exact madeZ_low (by omega)
  | mo =>
    have := Int.mul_pos (show (0 : Int) < xs.length by omega) (show (0 : Int) < xs.length by omega)
    exact madeZ_low (by omega)
  | sh =>
    rw [show farZ .sh xs ys = if unevenZ xs = 0 ∨ unevenZ ys = 0 then (if unevenZ xs = unevenZ ys then (0, 1) else (1, 1)) else madeZ (unevenZ xs * unevenZ ys - bothZ xs ys * (if bothZ xs ys < 0 then -bothZ xs ys else bothZ xs ys)) (unevenZ xs * unevenZ ys) from rfl]
    by_cases h1 : unevenZ xs = 0 ∨ unevenZ ys = 0
    · rw [if_pos h1]
      split <;> decide
    · rw [if_neg h1]
      exact madeZ_low (Int.mul_ne_zero (fun e => h1 (.inl e)) (fun e => h1 (.inr e)))
/-- a fraction that is told as it should be -/
def Low (f : Int × Int) : Prop := 0 < f.2 ∧ Int.gcd f.1 f.2 = 1
theorem farAt_low {kd : Kd} {ss : List (List Int)} {p q : Nat} (hs : ∀ s ∈ ss, 0 < s.length) (hp : p < ss.length) : Low (farAt kd ss p q) := ⟨farZ_pos kd (hs _ (getD_mem hp)), farZ_low kd (hs _ (getD_mem hp))⟩
theorem tab_at {kd : Kd} {xs : List Int} {gap l p : Nat} {y : (Int × Int) × Nat} (h : rowAt (tableZ kd xs gap l) p = some y) : p < xs.length + 1 - l ∧ nearZ kd (stretchesZ xs l) gap p = some y := by
  unfold rowAt at h
  rw [List.getD_eq_getElem?_getD] at h
  by_cases hp : p < xs.length + 1 - l
  · refine ⟨hp, ?_⟩
    simp only [tableZ, List.getElem?_map, stretches_len, List.getElem?_range hp] at h
    exact h
  · rw [List.getElem?_eq_none (by rw [tableZ_len]; omega)] at h
    cases h
theorem tab_ok {k : Nat} {kd : Kd} {xs : List Int} {gap l : Nat} (hx : Row k xs) (hl : 0 < l) : RowsOk (4 * k + 11) (tableZ kd xs gap l) := by
  intro p f r h
  obtain ⟨hp, e⟩ := tab_at h
  exact nearTo_bn kd (stretches_fine hx hl) (by rw [stretches_len]; exact hp) (Nat.le_refl _) e
theorem tab_low {k : Nat} {kd : Kd} {xs : List Int} {gap l p : Nat} {f : Int × Int} {r : Nat} (hx : Row k xs) (hl : 0 < l) (h : rowAt (tableZ kd xs gap l) p = some (f, r)) : Low f := by
  obtain ⟨hp, e⟩ := tab_at h
  have hs := stretches_fine hx hl
  have pos : ∀ s ∈ stretchesZ xs l, 0 < s.length := fun s h => (hs.1 s h).2
  obtain ⟨⟨a1, a2, a3⟩, _⟩ := (nearTo_spec (kd := kd) (gap := gap) (p := p) pos (by rw [stretches_len]; exact hp) (Nat.le_refl _)).2 f r e
  rw [a3]
  exact farAt_low pos (by rw [stretches_len]; exact hp)
theorem lone_low {rows : List (Option ((Int × Int) × Nat))} (hr : ∀ p f r, rowAt rows p = some (f, r) → Low f) : ∀ (fr : List Nat) (b : Option ((Int × Int) × (Nat × Nat))), (∀ x, b = some x → Low x.1) → ∀ x, fr.foldl (loneStep rows) b = some x → Low x.1
  | [], b, h, x, e => h x e
  | p :: fr, b, h, x, e => by
    refine lone_low hr fr (loneStep rows b p) ?_ x e
    intro y ey
    unfold loneStep at ey
    split at ey
    · exact h y ey
    · rename_i f r e'
      unfold maxStep at ey
      split at ey
      · cases ey
        exact hr p f r e'
      · split at ey
        · cases ey
          exact hr p f r e'
        · cases ey
          exact h _ rfl
theorem runZ_all {τ : Type} {pick : List Nat → Option τ} {cut : List Nat → τ → List Nat} {Q : τ → Prop} (h : ∀ fr x, pick fr = some x → Q x) : ∀ {n : Nat} {fr : List Nat}, ∀ x ∈ runZ pick cut n fr, Q x
  | 0, fr, x, hx => by cases hx
  | n + 1, fr, x, hx => by
    unfold runZ at hx
    split at hx
    · cases hx
    · rename_i y e
      rcases List.mem_cons.mp hx with rfl | hx
      · exact h fr x e
      · exact runZ_all h x hx
theorem ok_isiC {T : String} {M : DSt} {n : Nat} {xs : List D} {P : Dv × DSt → Prop} (h : M[n]? = some (some xs)) : Ok (oIsi T [.c n, .d (.ty T)] M) P ↔ P (.d (.bl (subTy "list" T)), M) := by
  simp [oIsi, dv, h, D.tyN]
theorem ok_neCSame {M : DSt} {n : Nat} {xs : List D} {P : Dv × DSt → Prop} (h : M[n]? = some (some xs)) (hx : (D.lst xs).shp 9 = true) : Ok (oNe (.c n) (.d (.lst xs)) M) P ↔ P (.d (.bl false), M) := by
  have := eqv_refl 9 _ hx
  simp [oNe, dv, h, hx, this]
theorem ok_eqCSame {M : DSt} {n : Nat} {xs : List D} {P : Dv × DSt → Prop} (h : M[n]? = some (some xs)) (hx : (D.lst xs).shp 9 = true) : Ok (oEq (.c n) (.d (.lst xs)) M) P ↔ P (.d (.bl true), M) := by
  have := eqv_refl 9 _ hx
  simp [oEq, dv, h, hx, this]
theorem svOk {M : DSt} {n : Nat} {xs : List D} (h : M[n]? = some (some xs)) (P : List D → Prop) : Ok (sv M (.c n)) P ↔ P xs := by
  simp [h]
theorem ok_frz' {b : Nat} {M : DSt} {v : Dv} {xs : List D} {P : Dv × DSt → Prop} (hv : v = .c b) (h : M.length = b) : Ok (frz b (v, M ++ [some xs])) P ↔ P (.d (.lst xs), M) := by
  subst hv
  exact ok_frz h
theorem fm_none {α β : Type} {l : List α} : l.filterMap (fun _ => (none : Option β)) = [] := by
  induction l with
  | nil => rfl
  | cons a l ih => simp
end Rw
end PRwMin
section PRwSym
set_option autoImplicit false
set_option linter.all false
set_option maxRecDepth 100000
/-! RwSym: far is alike both ways; the first greatest; runs. -/
namespace Rw
theorem diff_neg {xs ys : List Int} : diffZ ys xs = (diffZ xs ys).map fun d => -d := by
  induction xs generalizing ys with
  | nil => cases ys <;> rfl
  | cons x xs ih =>
    cases ys with
    | nil => rfl
    | cons y ys =>
      have := ih (ys := ys)
      simp only [diffZ, List.zip_cons_cons, List.map_cons] at this ⊢
      rw [this]
      congr 1
      omega
theorem sqs_neg {xs : List Int} : ((xs.map fun d => -d).map fun d => d * d) = xs.map fun d => d * d := by
  rw [List.map_map]
  congr 1
  funext d
  exact Int.neg_mul_neg d d
theorem sum_neg {xs : List Int} : (xs.map fun d => -d).sum = -xs.sum := by
  induction xs with
  | nil => rfl
  | cons x xs ih => simp only [List.map_cons, List.sum_cons, ih]; omega
theorem uneven_neg {xs : List Int} : unevenZ (xs.map fun d => -d) = unevenZ xs := by
  unfold unevenZ
  rw [sqs_neg, sum_neg, List.length_map, Int.neg_mul_neg]
theorem dot_comm {xs ys : List Int} : dotZ ys xs = dotZ xs ys := by
  unfold dotZ
  congr 1
  induction xs generalizing ys with
  | nil => cases ys <;> rfl
  | cons x xs ih =>
    cases ys with
    | nil => rfl
    | cons y ys =>
      simp only [List.zip_cons_cons, List.map_cons, ih]
      rw [Int.mul_comm]
theorem both_comm {xs ys : List Int} (h : xs.length = ys.length) : bothZ ys xs = bothZ xs ys := by
  unfold bothZ
  rw [dot_comm, h, Int.mul_comm ys.sum]
theorem far_comm {xs ys : List Int} (kd : Kd) (h : xs.length = ys.length) : farZ kd ys xs = farZ kd xs ys := by
  cases kd with
  | pl =>
    show madeZ ((diffZ ys xs).map fun d => d * d).sum ys.length = madeZ ((diffZ xs ys).map fun d => d * d).sum xs.length
    rw [diff_neg, sqs_neg, h]
  | mo =>
    show madeZ (unevenZ (diffZ ys xs)) ((ys.length : Int) * ys.length) = madeZ (unevenZ (diffZ xs ys)) ((xs.length : Int) * xs.length)
    rw [diff_neg, uneven_neg, h]
  | sh =>
    show (if unevenZ ys = 0 ∨ unevenZ xs = 0 then (if unevenZ ys = unevenZ xs then (0, 1) else (1, 1)) else madeZ (unevenZ ys * unevenZ xs - bothZ ys xs * (if bothZ ys xs < 0 then -bothZ ys xs else bothZ ys xs)) (unevenZ ys * unevenZ xs))
      = (if unevenZ xs = 0 ∨ unevenZ ys = 0 then (if unevenZ xs = unevenZ ys then (0, 1) else (1, 1)) else madeZ (unevenZ xs * unevenZ ys - bothZ xs ys * (if bothZ xs ys < 0 then -bothZ xs ys else bothZ xs ys)) (unevenZ xs * unevenZ ys))
    rw [both_comm h, Int.mul_comm (unevenZ ys)]
    by_cases h1 : unevenZ xs = 0 ∨ unevenZ ys = 0
    · rw [if_pos h1, if_pos h1.symm]
      by_cases h2 : unevenZ xs = unevenZ ys
      · rw [if_pos h2, if_pos h2.symm]
      · rw [if_neg h2, if_neg (Ne.symm h2)]
    · rw [if_neg h1, if_neg fun h => h1 h.symm]
/-- all stretches are of one length -/
def Even (ss : List (List Int)) : Prop := ∃ l, ∀ s ∈ ss, s.length = l
theorem stretches_even {xs : List Int} {l : Nat} : Even (stretchesZ xs l) := by
  refine ⟨l, fun s hs => ?_⟩
  obtain ⟨p, hp, rfl⟩ := List.mem_map.mp hs
  have := List.mem_range.mp hp
  exact cutZ_len (by omega)
theorem farAt_comm {kd : Kd} {ss : List (List Int)} {p q : Nat} (he : Even ss) (hp : p < ss.length) (hq : q < ss.length) : farAt kd ss q p = farAt kd ss p q := by
  obtain ⟨l, hl⟩ := he
  unfold farAt
  exact far_comm kd (by rw [hl _ (getD_mem hp), hl _ (getD_mem hq)])
/-- neither below the other, both in lowest terms: one and the same -/
theorem low_same {a b : Int × Int} (ha : Low a) (hb : Low b) (h1 : lessZ a b = false) (h2 : lessZ b a = false) : a = b := by
  have h1' : ¬ (a.1 * b.2 < b.1 * a.2) := by rw [← lessZ_iff, h1]; simp
  have h2' : ¬ (b.1 * a.2 < a.1 * b.2) := by rw [← lessZ_iff, h2]; simp
  have e : a.1 * b.2 = b.1 * a.2 := by omega
  have cop : ∀ {x y z : Int}, Int.gcd x y = 1 → x ∣ y * z → x ∣ z := by
    intro x y z h hd
    rw [← Int.natAbs_dvd_natAbs] at hd ⊢
    rw [Int.natAbs_mul] at hd
    exact Nat.Coprime.dvd_of_dvd_mul_left h hd
  have d1 : a.2 ∣ b.2 := cop (y := a.1) (by rw [Int.gcd_comm]; exact ha.2) ⟨b.1, by rw [e, Int.mul_comm]⟩
  have d2 : b.2 ∣ a.2 := cop (y := b.1) (by rw [Int.gcd_comm]; exact hb.2) ⟨a.1, by rw [← e, Int.mul_comm]⟩
  have hq : a.2 = b.2 := Int.dvd_antisymm (Int.le_of_lt ha.1) (Int.le_of_lt hb.1) d1 d2
  have hp : a.1 = b.1 := by
    rw [hq] at e
    exact Int.eq_of_mul_eq_mul_right (by have := hb.1; omega) e
  exact Prod.ext hp hq
theorem runZ_take {τ : Type} {pick : List Nat → Option τ} {cut : List Nat → τ → List Nat} : ∀ {n m : Nat} {fr : List Nat}, n ≤ m → (runZ pick cut m fr).take n = runZ pick cut n fr
  | 0, m, fr, _ => by simp [runZ]
  | n + 1, 0, fr, h => by omega
  | n + 1, m + 1, fr, h => by
    unfold runZ
    cases pick fr with
    | none => simp
    | some x => simp [runZ_take (show n ≤ m by omega)]
/-! ### the first greatest -/
def candL (rows : List (Option ((Int × Int) × Nat))) (fr : List Nat) : List ((Int × Int) × (Nat × Nat)) := fr.filterMap fun p => (rowAt rows p).map fun x => (x.1, p, x.2)
theorem loneZ_fold {rows : List (Option ((Int × Int) × Nat))} {fr : List Nat} : loneZ rows fr = (candL rows fr).foldl maxStep none := by
  unfold loneZ candL
  have : ∀ (l : List Nat) (b : Option ((Int × Int) × (Nat × Nat))), l.foldl (loneStep rows) b = (l.filterMap fun p => (rowAt rows p).map fun x => (x.1, p, x.2)).foldl maxStep b := by
    intro l
    induction l with
    | nil => intro b; rfl
    | cons p l ih =>
      intro b
      rw [List.foldl_cons, ih, List.filterMap_cons]
      unfold loneStep
      cases h : rowAt rows p with
      | none => rfl
      | some x => obtain ⟨f, r⟩ := x; rfl
  exact this fr none
end Rw
end PRwSym
section PRwMore
set_option autoImplicit false
set_option linter.all false
set_option maxRecDepth 100000
/-! RwMore: further small things. -/
namespace Rw
theorem enumD_range {xs : List D} {g : Nat → D} (h : ∀ i, i < xs.length → xs[i]? = some (g i)) : enumD 0 xs = (List.range xs.length).map fun i => .tup [.int (i : Nat), g i] := by
  apply List.ext_getElem?
  intro i
  by_cases hi : i < xs.length
  · rw [List.getElem?_map, List.getElem?_range hi]
    exact enumD_at.mpr ⟨g i, h i hi, by simp⟩
  · rw [List.getElem?_eq_none (by rw [enumD_len]; omega), List.getElem?_eq_none (by simp; omega)]
/-- the three kinds -/
theorem kinds_at {i : Nat} {x : D} (hx : ([.str "plain", .str "moved", .str "shape"] : List D)[i]? = some x) : ∃ kd : Kd, x = kd.s := by
  have hm := List.mem_of_getElem? hx
  simp at hm
  rcases hm with rfl | rfl | rfl
  · exact ⟨.pl, rfl⟩
  · exact ⟨.mo, rfl⟩
  · exact ⟨.sh, rfl⟩
theorem kinds_mem {x : D} (hm : x ∈ ([.str "plain", .str "moved", .str "shape"] : List D)) : ∃ kd : Kd, x = kd.s := by
  simp at hm
  rcases hm with rfl | rfl | rfl
  · exact ⟨.pl, rfl⟩
  · exact ⟨.mo, rfl⟩
  · exact ⟨.sh, rfl⟩
section
variable {M : DSt} {c : Bool} {P : Dv × DSt → Prop}
@[simp ↓] theorem ok_oAdd_t {xs ys : List D} : Ok (oAdd c (.d (.tup xs)) (.d (.tup ys)) M) P ↔ (xs ≠ [] ∧ ys ≠ [] ∧ xs.length + ys.length ≤ big) ∧ P (.d (.tup (xs ++ ys)), M) := by
  rw [show oAdd c (.d (.tup xs)) (.d (.tup ys)) M = grd (xs ≠ [] ∧ ys ≠ [] ∧ xs.length + ys.length ≤ big) (some (.d (.tup (xs ++ ys)), M)) from rfl, ok_grd, ok_some]
@[simp ↓] theorem ok_oRev {xs : List D} : Ok (oRev c (.d (.lst xs)) M) P ↔ Ok (mkL c xs.reverse M) P := Iff.rfl
@[simp ↓] theorem ok_oList {xs : List D} : Ok (oList c [.d (.lst xs)] M) P ↔ Ok (mkL c xs M) P := Iff.rfl
end
theorem fdiv_s {x y : Int} (h : 0 ≤ y) : x.fdiv y = x / y := Int.fdiv_eq_ediv_of_nonneg _ h
theorem divOk_s {y : Int} (h : 0 < y) (h1 : y ≤ 1000000) : divOk y := divOk_bd 64 (A := 1000000) ⟨by omega, h1⟩ (by omega) (by decide) (by decide) (by decide)
theorem rowD_len {xs : List Int} : (xs.map D.int).length = xs.length := by simp
theorem row_rev {k : Nat} {xs : List Int} (h : Row k xs) : Row k xs.reverse := ⟨fun x hx => h.1 x (by simpa using hx), by simpa using h.2⟩
theorem row_cut {k : Nat} {xs : List Int} (h : Row k xs) (r : Nat) : Row k (xs.drop r ++ xs.take r) := by
  refine ⟨fun x hx => ?_, ?_⟩
  · rcases List.mem_append.mp hx with hx | hx
    · exact h.1 x (List.mem_of_mem_drop hx)
    · exact h.1 x (List.mem_of_mem_take hx)
  · have := h.2
    simp
    omega
theorem diff_range {xs ys : List Int} (h : xs.length = ys.length) : (List.range xs.length).map (fun i => D.int (xs.getD i 0 - ys.getD i 0)) = (diffZ xs ys).map D.int := by
  apply List.ext_getElem?
  intro i
  by_cases hi : i < xs.length
  · have hj : i < ys.length := by omega
    have hz : (xs.zip ys)[i]? = some (xs[i], ys[i]) := by rw [List.getElem?_zip_eq_some]; exact ⟨List.getElem?_eq_getElem hi, List.getElem?_eq_getElem hj⟩
    simp [diffZ, List.getElem?_range hi, List.getElem?_eq_getElem hi, List.getElem?_eq_getElem hj, hz]
  · rw [List.getElem?_eq_none (by simp; omega), List.getElem?_eq_none (by simp [diffZ]; omega)]
theorem dot_range {xs ys : List Int} (h : xs.length = ys.length) : (List.range xs.length).map (fun i => xs.getD i 0 * ys.getD i 0) = (xs.zip ys).map fun p => p.1 * p.2 := by
  apply List.ext_getElem?
  intro i
  by_cases hi : i < xs.length
  · have hj : i < ys.length := by omega
    have hz : (xs.zip ys)[i]? = some (xs[i], ys[i]) := by rw [List.getElem?_zip_eq_some]; exact ⟨List.getElem?_eq_getElem hi, List.getElem?_eq_getElem hj⟩
    simp [List.getElem?_range hi, List.getElem?_eq_getElem hi, List.getElem?_eq_getElem hj, hz]
  · rw [List.getElem?_eq_none (by simp; omega), List.getElem?_eq_none (by simp; omega)]
theorem ints_at {xs : List Int} {i : Nat} (h : i < xs.length) : (xs.map D.int)[i]? = some (.int (xs.getD i 0)) := by
  simp [List.getElem?_eq_getElem h]
theorem ints_mem {xs : List Int} {i : Nat} (h : i < xs.length) : xs.getD i 0 ∈ xs := by
  rw [List.getD_eq_getElem?_getD, List.getElem?_eq_getElem h]
  exact List.getElem_mem h
@[simp] theorem mulOk_litL {n : Nat} {y : Int} (h : n < 18446744073709551616) : mulOk (no_index (@OfNat.ofNat Int n _)) y := by
  have : (@OfNat.ofNat Int n _) = (n : Int) := rfl
  exact mulOk_l (by rw [this]; omega) (by rw [this]; omega)
@[simp] theorem mulOk_litR {n : Nat} {y : Int} (h : n < 18446744073709551616) : mulOk y (no_index (@OfNat.ofNat Int n _)) := by
  have : (@OfNat.ofNat Int n _) = (n : Int) := rfl
  exact mulOk_r (by rw [this]; omega) (by rw [this]; omega)
@[simp] theorem mulOk_litN {n : Nat} {y : Int} (h : n < 18446744073709551616) : mulOk y (-(no_index (@OfNat.ofNat Int n _))) := by
  have : (@OfNat.ofNat Int n _) = (n : Int) := rfl
  exact mulOk_r (by rw [this]; omega) (by rw [this]; omega)
@[simp] theorem divOk_lit {n : Nat} (h : 0 < n) (h1 : n < 18446744073709551616) : divOk (no_index (@OfNat.ofNat Int n _)) := by
  have e : (@OfNat.ofNat Int n _) = (n : Int) := rfl
  exact divOk_bd 64 (A := 18446744073709551615) (by rw [e]; exact ⟨by omega, by omega⟩) (by rw [e]; omega) (by decide) (by decide) (by decide)
@[simp] theorem powOk_lit {n k : Nat} (h : n < 18446744073709551616) (h1 : k ≤ 1000000) : powOk (no_index (@OfNat.ofNat Int n _)) (no_index (@OfNat.ofNat Int k _)) := by
  have e : (@OfNat.ofNat Int n _) = (n : Int) := rfl
  have e2 : (@OfNat.ofNat Int k _) = (k : Int) := rfl
  refine ⟨by rw [e2]; omega, by rw [e2]; omega, ?_⟩
  rw [e]
  simpa using h
end Rw
namespace Rw
theorem uneven_cons (x : Int) (xs : List Int) : unevenZ (x :: xs) = unevenZ xs + (xs.map fun y => (x - y) * (x - y)).sum := by
  have h : (xs.map fun y => (x - y) * (x - y)).sum = (xs.length : Int) * (x * x) - 2 * x * xs.sum + (xs.map fun y => y * y).sum := by
    induction xs with
    | nil => simp
    | cons y ys ih =>
      simp only [List.map_cons, List.sum_cons, List.length_cons, ih]
      push_cast
      grind
  unfold unevenZ
  simp only [List.map_cons, List.sum_cons, List.length_cons, h]
  push_cast
  grind
theorem sq_nn (x : Int) : 0 ≤ x * x := by
  by_cases h : 0 ≤ x
  · exact Int.mul_nonneg h h
  · have := Int.mul_nonneg (show 0 ≤ -x by omega) (show 0 ≤ -x by omega)
    rwa [Int.neg_mul_neg] at this
theorem sum_nn {xs : List Int} (h : ∀ x ∈ xs, 0 ≤ x) : 0 ≤ xs.sum := by
  induction xs with
  | nil => simp
  | cons x xs ih =>
    have a := h x (by simp)
    have b := ih fun y hy => h y (by simp [hy])
    rw [List.sum_cons]
    omega
theorem uneven_nn (xs : List Int) : 0 ≤ unevenZ xs := by
  induction xs with
  | nil => decide
  | cons x xs ih =>
    rw [uneven_cons]
    have : 0 ≤ (xs.map fun y => (x - y) * (x - y)).sum := sum_nn (by
      intro z hz
      obtain ⟨y, _, rfl⟩ := List.mem_map.mp hz
      exact sq_nn _)
    omega
theorem uneven_pos {xs : List Int} (h : ¬ unevenZ xs = 0) : 0 < unevenZ xs := by
  have := uneven_nn xs
  omega
/-- the nearest of some places, by a measure -/
def minBy (g : Nat → Int × Int) (fr : List Nat) : Option ((Int × Int) × Nat) := minOf (fr.map fun q => (g q, q))
theorem minBy_fold {g : Nat → Int × Int} {fr : List Nat} : minBy g fr = fr.foldl (fun b q => minStep b (g q, q)) none := by
  unfold minBy minOf
  rw [List.foldl_map]
def BestI (j : Nat) (b : Option ((Int × Int) × Nat)) : Prop := ∀ x, b = some x → Bn j x.1.1 ∧ Bn j x.1.2
theorem minStep_ok {j : Nat} {b : Option ((Int × Int) × Nat)} {f : Int × Int} {q : Nat} (hf : Bn j f.1 ∧ Bn j f.2) (h : BestI j b) : BestI j (minStep b (f, q)) := by
  intro x e
  unfold minStep at e
  split at e
  · cases e
    exact hf
  · split at e
    · cases e
      exact hf
    · cases e
      exact h _ rfl
theorem rowsD_enum {ss : List (List Int)} : enumD 0 (rowsD ss) = (List.range ss.length).map fun q => .tup [.int (q : Nat), rowD (nthZ ss q)] := by
  have := enumD_range (xs := rowsD ss) (g := fun q => rowD (nthZ ss q)) fun i hi => rowsD_at (by simpa [rowsD] using hi)
  rw [this]
  simp [rowsD]
theorem rowsD_len {ss : List (List Int)} : (rowsD ss).length = ss.length := by simp [rowsD]
end Rw
end PRwMore
section PRwPurse
set_option autoImplicit false
set_option linter.all false
set_option maxRecDepth 100000
/-! RwPurse: a purse of three ints: what is drawn by digits, the cell, how many draws there were (bounded by b). -/
namespace Rw
section
variable {b b' n : Nat} {M M' M'' M1 M2 : DSt}
def Pu (b n : Nat) (M : DSt) : Prop := ∃ a c k : Int, M[n]? = some (some [.int a, .int c, .int k]) ∧ 0 ≤ k ∧ k ≤ b
def Lu (b n : Nat) (M M' : DSt) : Prop := Pu b n M' ∧ ∃ x, M' = M.set n (some x)
theorem Pu.mono (h : Pu b n M) (l : b ≤ b') : Pu b' n M := by
  obtain ⟨a, c, k, e, h0, h1⟩ := h
  exact ⟨a, c, k, e, h0, by omega⟩
theorem Pu.lt (h : Pu b n M) : n < M.length := by
  obtain ⟨a, c, k, e, _⟩ := h
  exact (List.getElem?_eq_some_iff.mp e).1
theorem Lu.mono (h : Lu b n M M') (l : b ≤ b') : Lu b' n M M' := ⟨h.1.mono l, h.2⟩
theorem Pu.like (h : Pu b n M) : Lu b n M M := by
  refine ⟨h, ?_⟩
  obtain ⟨a, c, k, e, _⟩ := h
  obtain ⟨hn, e⟩ := List.getElem?_eq_some_iff.mp e
  exact ⟨_, by rw [← e, List.set_getElem_self]⟩
theorem Lu.len (h : Lu b n M M') : M'.length = M.length := by
  obtain ⟨_, x, rfl⟩ := h
  simp
theorem Lu.trans (h : Lu b n M M') (h' : Lu b' n M' M'') : Lu b' n M M'' := by
  obtain ⟨_, x, rfl⟩ := h
  obtain ⟨p, y, rfl⟩ := h'
  exact ⟨p, y, by rw [List.set_set]⟩
theorem Lu.at {c : Nat} (h : Lu b n M M') (hc : c ≠ n) : M'[c]? = M[c]? := by
  obtain ⟨_, x, rfl⟩ := h
  rw [List.getElem?_set_ne (Ne.symm hc)]
theorem Lu.take (h : Lu b n M M') : M'.take M.length = M' := List.take_of_length_le (by rw [h.len]; exact Nat.le_refl _)
/-- a store in which a def works -/
def Gu (b n : Nat) (M M1 : DSt) : Prop := n < M.length ∧ M.length ≤ M1.length ∧ Pu b n M1 ∧ ∃ x, M1.take M.length = M.set n (some x)
theorem Pu.grown (h : Pu b n M) : Gu b n M M := ⟨h.lt, Nat.le_refl _, h, by rw [List.take_of_length_le (Nat.le_refl _)]; exact h.like.2⟩
theorem Gu.mono (h : Gu b n M M1) (l : b ≤ b') : Gu b' n M M1 := ⟨h.1, h.2.1, h.2.2.1.mono l, h.2.2.2⟩
theorem Gu.draw (h : Gu b n M M1) (h' : Lu b' n M1 M2) : Gu b' n M M2 := by
  obtain ⟨h0, h1, h2, x, h3⟩ := h
  obtain ⟨p, y, rfl⟩ := h'
  refine ⟨h0, by simpa using h1, p, y, ?_⟩
  rw [List.take_set, h3, List.set_set]
theorem Gu.app (h : Gu b n M M1) (x : Option (List D)) : Gu b n M (M1 ++ [x]) := by
  obtain ⟨h0, h1, ⟨a, c, k, e, hk⟩, y, h3⟩ := h
  refine ⟨h0, by simp; omega, ⟨a, c, k, by rw [List.getElem?_append_left (by omega)]; exact e, hk⟩, y, ?_⟩
  rw [List.take_append_of_le_length h1]
  exact h3
theorem Gu.put {c : Nat} (h : Gu b n M M1) (hc : M.length ≤ c) (x : Option (List D)) : Gu b n M (M1.set c x) := by
  obtain ⟨h0, h1, ⟨a, d, k, e, hk⟩, y, h3⟩ := h
  refine ⟨h0, by simpa using h1, ⟨a, d, k, by rw [List.getElem?_set_ne (by omega)]; exact e, hk⟩, y, ?_⟩
  rw [List.take_set, List.set_eq_of_length_le (by simp; omega)]
  exact h3
theorem Gu.take (h : Gu b n M M1) : Lu b n M (M1.take M.length) := by
  obtain ⟨h0, h1, ⟨a, d, k, e, hk⟩, y, h3⟩ := h
  exact ⟨⟨a, d, k, by rw [List.getElem?_take, if_pos h0]; exact e, hk⟩, y, h3⟩
theorem Gu.pu (h : Gu b n M M1) : Pu b n M1 := h.2.2.1
def DrawnU (b n : Nat) (m : Int) (M : DSt) (p : Dv × DSt) : Prop := ∃ r : Nat, (r : Int) < m ∧ p.1 = .d (.int (r : Int)) ∧ Lu b n M p.2
/-- a drawn int within k figures -/
def DrawnV (k b n : Nat) (M : DSt) (p : Dv × DSt) : Prop := ∃ z : Int, Bn k z ∧ p.1 = .d (.int z) ∧ Lu b n M p.2
/-- a drawn row in a new cell -/
def RowU (k b n m : Nat) (M : DSt) (p : Dv × DSt) : Prop := ∃ (zs : List Int) (M' : DSt), Row k zs ∧ zs.length ≤ m ∧ Lu b n M M' ∧ p = (.c M.length, M' ++ [some (zs.map D.int)])
theorem RowU_fin {k m c : Nat} {zs : List Int} (hz : Row k zs) (hl : zs.length ≤ m) (hg : Gu b n M M1) (hc : M.length ≤ c) (e : M1[c]? = some (some (zs.map D.int))) : Ok (fin M.length (.c c) M1) (RowU k b n m M) :=
  (ok_finC hc e).mpr ⟨zs, _, hz, hl, hg.take, rfl⟩
end
/-- a comprehension that draws, turn by turn -/
theorem comp_turn {chk : DSt → Prop} {step : D → DSt → Option (Option D × DSt)} {P : List D × DSt → Prop} (R : D → Prop) : ∀ {xs : List D} {M : DSt} (I : Nat → DSt → Prop) (hc : ∀ i M, I i M → chk M), I 0 M →
    (∀ i x M, xs[i]? = some x → I i M → Ok (step x M) fun p => I (i + 1) p.2 ∧ ∃ y, p.1 = some y ∧ R y) → (∀ ys M, I xs.length M → ys.length = xs.length → (∀ y ∈ ys, R y) → P (ys, M)) → Ok (compL chk step xs M) P := by
  intro xs
  induction xs generalizing P with
  | nil =>
    intro M I hc hM h k
    simp only [compL, ok_grd, ok_some]
    exact ⟨hc 0 M hM, k [] M hM rfl (by simp)⟩
  | cons x xs ih =>
    intro M I hc hM h k
    obtain ⟨⟨o, M1⟩, e, hM1, y, rfl, hy⟩ := h 0 x M rfl hM
    have r := ih (P := fun q => P (y :: q.1, q.2)) (fun i => I (i + 1)) (fun i => hc (i + 1)) hM1 (fun i z M hz => h (i + 1) z M (by simpa using hz)) fun ys M2 h2 l a => k _ _ h2 (by simp [l]) (by
      intro z hz
      rcases List.mem_cons.mp hz with rfl | hz
      · exact hy
      · exact a z hz)
    simp only [compL, ok_grd]
    refine ⟨hc 0 M hM, ?_⟩
    obtain ⟨⟨ys, M2⟩, e2, hP⟩ := r
    simp only [e, e2, ok_some]
    exact hP
end Rw
end PRwPurse
section PRwGrp
set_option autoImplicit false
set_option linter.all false
set_option maxRecDepth 100000
/-! RwGrp: the least of groups is the least of their leasts. -/
namespace Rw
section
variable {π κ : Type}
theorem minStep_assoc {s : Option ((Int × Int) × π)} {y z : (Int × Int) × π} (hs : ∀ g, s = some g → 0 < g.1.2) (hy : 0 < y.1.2) (hz : 0 < z.1.2) :
    minStep (minStep s y) z = (match minStep (some y) z with | some w => minStep s w | none => s) := by
  cases s with
  | none =>
    simp only [minStep]
    split <;> rfl
  | some g =>
    have hg := hs g rfl
    simp only [minStep]
    cases h1 : lessZ y.1 g.1 with
    | true =>
      cases h2 : lessZ z.1 y.1 with
      | true => simp [h2, less_trans hz hy hg h2 h1]
      | false => simp [h2, h1]
    | false =>
      cases h2 : lessZ z.1 y.1 with
      | true => simp [h2]
      | false =>
        have := nless_trans hz hy hg h2 h1
        simp [h1, h2, this]
/-- a group's least, put to what there is -/
def joinB (s m : Option ((Int × Int) × π)) : Option ((Int × Int) × π) := match m with
  | none => s
  | some y => minStep s y
theorem minStep_pos {s : Option ((Int × Int) × π)} {y : (Int × Int) × π} (hs : ∀ g, s = some g → 0 < g.1.2) (hy : 0 < y.1.2) : ∀ g, minStep s y = some g → 0 < g.1.2 := by
  intro g e
  unfold minStep at e
  split at e
  · cases e
    exact hy
  · split at e
    · cases e
      exact hy
    · cases e
      exact hs _ rfl
theorem fold_pos {L : List ((Int × Int) × π)} {s : Option ((Int × Int) × π)} (hs : ∀ g, s = some g → 0 < g.1.2) (hL : ∀ y ∈ L, 0 < y.1.2) : ∀ g, L.foldl minStep s = some g → 0 < g.1.2 := by
  induction L generalizing s with
  | nil => exact hs
  | cons y L ih => exact ih (minStep_pos hs (hL y (by simp))) fun z hz => hL z (by simp [hz])
theorem fold_join {L : List ((Int × Int) × π)} {s : Option ((Int × Int) × π)} (hs : ∀ g, s = some g → 0 < g.1.2) (hL : ∀ y ∈ L, 0 < y.1.2) : L.foldl minStep s = joinB s (minOf L) := by
  have key : ∀ (R : List ((Int × Int) × π)) (L : List ((Int × Int) × π)), R = L.reverse → (∀ y ∈ L, 0 < y.1.2) → L.foldl minStep s = joinB s (minOf L) := by
    intro R
    induction R with
    | nil =>
      intro L e _
      have : L = [] := by simpa using e.symm
      subst this
      rfl
    | cons z R ih =>
      intro L e hL
      have eL : L = R.reverse ++ [z] := by
        have := congrArg List.reverse e
        simpa using this.symm
      subst eL
      have hR : ∀ y ∈ R.reverse, 0 < y.1.2 := fun y hy => hL y (List.mem_append_left _ hy)
      have hz : 0 < z.1.2 := hL z (by simp)
      have i := ih R.reverse (by simp) hR
      have fp := fold_pos (s := none) (by intro g e; cases e) hR
      unfold minOf at i ⊢
      rw [List.foldl_append, List.foldl_append, i]
      simp only [List.foldl_cons, List.foldl_nil]
      cases hm : R.reverse.foldl minStep (none : Option ((Int × Int) × π)) with
      | none => rfl
      | some y =>
        simp only [joinB]
        rw [minStep_assoc hs (fp y hm) hz]
        cases minStep (some y) z <;> rfl
  exact key _ L rfl hL
theorem minOf_append {A B : List ((Int × Int) × π)} (hA : ∀ y ∈ A, 0 < y.1.2) (hB : ∀ y ∈ B, 0 < y.1.2) : minOf (A ++ B) = joinB (minOf A) (minOf B) := by
  rw [show minOf (A ++ B) = B.foldl minStep (A.foldl minStep none) from by unfold minOf; rw [List.foldl_append]]
  exact fold_join (fold_pos (s := none) (by intro g e; cases e) hA) hB
theorem minOf_flat {L : List κ} {g : κ → List ((Int × Int) × π)} (h : ∀ p ∈ L, ∀ y ∈ g p, 0 < y.1.2) : minOf (L.flatMap g) = minOf (L.filterMap fun p => minOf (g p)) := by
  have key : ∀ (L : List κ) (s : Option ((Int × Int) × π)), (∀ g, s = some g → 0 < g.1.2) → (∀ p ∈ L, ∀ y ∈ g p, 0 < y.1.2) → (L.flatMap g).foldl minStep s = (L.filterMap fun p => minOf (g p)).foldl minStep s := by
    intro L
    induction L with
    | nil => intro s _ _; rfl
    | cons p L ih =>
      intro s hs h
      have hp := h p (by simp)
      rw [List.flatMap_cons, List.foldl_append, ih _ (fold_pos hs hp) fun q hq => h q (by simp [hq]), List.filterMap_cons, fold_join hs hp]
      cases hm : minOf (g p) <;> rfl
  exact key L none (by intro g e; cases e) h
theorem minOf_map {L : List ((Int × Int) × π)} {h : π → κ} : minOf (L.map fun x => (x.1, h x.2)) = (minOf L).map fun x => (x.1, h x.2) := by
  have key : ∀ (L : List ((Int × Int) × π)) (s : Option ((Int × Int) × π)), (L.map fun x => (x.1, h x.2)).foldl minStep (s.map fun x => (x.1, h x.2)) = (L.foldl minStep s).map fun x => (x.1, h x.2) := by
    intro L
    induction L with
    | nil => intro s; rfl
    | cons y L ih =>
      intro s
      rw [List.map_cons, List.foldl_cons, List.foldl_cons, ← ih]
      congr 1
      cases s with
      | none => rfl
      | some g =>
        simp only [minStep, Option.map_some]
        split <;> rfl
  exact key L none
end
end Rw
namespace Rw
/-- a loop that puts one thing at the end of a new list each turn -/
theorem forL_app {α : Type} {chk : DSt → Prop} {step : D → DEnv → DSt → Option Out} {M : DSt} {P : Out → Prop} {f : α → D} (env : DEnv) (g : α → D) (hc : ∀ xs, chk (M ++ [some xs])) : ∀ {l : List α} {xs0 : List D},
    (∀ a ∈ l, ∀ xs, xs.length < xs0.length + l.length → Ok (step (f a) env (M ++ [some xs])) (turnP (fun ρ M' => ρ = env ∧ M' = M ++ [some (xs ++ [g a])]) P)) → P (.nx env (M ++ [some (xs0 ++ l.map g)])) → Ok (forL chk step (l.map f) env (M ++ [some xs0])) P
  | [], xs0, _, k => by
    simp only [List.map_nil, forL, ok_grd, ok_some]
    simp at k
    exact ⟨hc _, k⟩
  | a :: l, xs0, h, k => by
    have h1 := h a (by simp) xs0 (by simp)
    rw [List.map_cons, ok_forC]
    refine ⟨hc _, h1.mono ?_⟩
    intro o ho
    have r := forL_app (f := f) env g hc (l := l) (xs0 := xs0 ++ [g a]) (fun b hb xs hx => h b (by simp [hb]) xs (by simp at hx ⊢; omega)) (by simpa using k)
    cases o with
    | nx ρ M' => obtain ⟨rfl, rfl⟩ := ho; exact r
    | ct ρ M' => obtain ⟨rfl, rfl⟩ := ho; exact r
    | bk ρ M' => exact ho
    | rt v M' => exact ho
@[simp] theorem app_at {M : DSt} {x : Option (List D)} : (M ++ [x])[M.length]? = some x := by simp
@[simp] theorem app_set {M : DSt} {x y : Option (List D)} : (M ++ [x]).set M.length y = M ++ [y] := by simp
theorem range_ge {n s : Nat} : (List.range n).filter (fun q => decide (s ≤ q)) = (List.range (n - s)).map fun k => s + k := by
  induction n with
  | zero => simp
  | succ n ih =>
    rw [List.range_succ, List.filter_append, ih]
    by_cases h : s ≤ n
    · have : n + 1 - s = (n - s) + 1 := by omega
      rw [this, List.range_succ, List.map_append]
      simp [h]
    · have : n + 1 - s = n - s := by omega
      rw [this]
      simp [h]
theorem range_lt {n m : Nat} (h : m ≤ n) : (List.range n).filter (fun q => decide (q < m)) = List.range m := by
  induction n with
  | zero =>
    have : m = 0 := by omega
    subst this
    rfl
  | succ n ih =>
    rw [List.range_succ, List.filter_append]
    by_cases hm : m ≤ n
    · rw [ih hm]
      have : ¬ n < m := by omega
      simp [this]
    · have : m = n + 1 := by omega
      subst this
      rw [List.range_succ]
      have : (List.range n).filter (fun q => decide (q < n + 1)) = List.range n := by
        rw [List.filter_eq_self]
        intro q hq
        have := List.mem_range.mp hq
        simp
        omega
      rw [this]
      simp
theorem rng_nats {a n : Nat} : rng (a : Int) n = natsD ((List.range n).map fun k => a + k) := by
  simp [rng, natsD]
theorem rng0_nats {n : Nat} : rng 0 n = natsD (List.range n) := by
  simp [rng, natsD]
/-- a place or None -/
def plD : Option Nat → D
  | none => .non
  | some q => .int (q : Nat)
/-- the place of the nearest of some -/
def placeZ (kd : Kd) (ss : List (List Int)) (x : List Int) (fr : List Nat) : Option Nat := (minBy (fun q => farZ kd x (nthZ ss q)) fr).map (·.2)
end Rw
end PRwGrp
section PRwTab
set_option autoImplicit false
set_option linter.all false
set_option maxRecDepth 100000
/-! RwTab: the nearest two by the table; defs that call themselves; further Ok rules. -/
namespace Rw
section
variable {π : Type}
theorem minOf_uniq {L : List ((Int × Int) × π)} {x : (Int × Int) × π} (hp : ∀ y ∈ L, 0 < y.1.2) (h : IsMin L x) : minOf L = some x := by
  obtain ⟨L1, L2, rfl, h1, h2⟩ := h
  have hx : 0 < x.1.2 := hp x (by simp)
  have p1 : ∀ y ∈ L1, 0 < y.1.2 := fun y hy => hp y (by simp [hy])
  have e1 : L1.foldl minStep none = minOf L1 := rfl
  unfold minOf
  rw [List.foldl_append, List.foldl_cons]
  have s1 : minStep (L1.foldl minStep none) x = some x := by
    rw [e1]
    cases e : minOf L1 with
    | none => rfl
    | some y =>
      have hy := (minOf_some p1 e).mem
      simp only [minStep, h1 y hy, if_true]
  rw [s1]
  clear s1 e1 h1 p1
  induction L2 with
  | nil => rfl
  | cons z L2 ih =>
    rw [List.foldl_cons]
    have : minStep (some x) z = some x := by
      simp only [minStep, h2 z (by simp)]
      simp
    rw [this]
    exact ih (fun y hy => hp y (by
      rcases List.mem_append.mp hy with hy | hy
      · simp [hy]
      · rcases List.mem_cons.mp hy with rfl | hy
        · simp
        · simp [hy])) fun y hy => h2 y (by simp [hy])
theorem minOf_filter {L : List ((Int × Int) × π)} {x : (Int × Int) × π} {c : (Int × Int) × π → Bool} (hp : ∀ y ∈ L, 0 < y.1.2) (h : minOf L = some x) (hc : c x = true) : minOf (L.filter c) = some x := by
  obtain ⟨L1, L2, rfl, h1, h2⟩ := minOf_some hp h
  refine minOf_uniq (fun y hy => hp y (List.mem_filter.mp hy).1) ⟨L1.filter c, L2.filter c, by simp [hc], fun y hy => h1 y (List.mem_filter.mp hy).1, fun y hy => h2 y (List.mem_filter.mp hy).1⟩
end
/-- those apart from a place, with how far -/
def candN (kd : Kd) (ss : List (List Int)) (gap p n : Nat) : List ((Int × Int) × Nat) := (List.range n).filterMap fun q => if gap ≤ (q - p) + (p - q) then some (farAt kd ss p q, q) else none
theorem nearTo_min {kd : Kd} {ss : List (List Int)} {gap p n : Nat} : nearTo kd ss gap p n = minOf (candN kd ss gap p n) := by
  induction n with
  | zero => rfl
  | succ n ih =>
    unfold candN minOf at ih ⊢
    rw [List.range_succ, List.filterMap_append, List.foldl_append, ← ih, nearTo]
    by_cases h : gap ≤ (n - p) + (p - n)
    · simp only [h, if_true, List.filterMap_cons, List.filterMap_nil, List.foldl_cons, List.foldl_nil]
      cases nearTo kd ss gap p n with
      | none => rfl
      | some g => rfl
    · simp only [h, if_false, List.filterMap_cons, List.filterMap_nil, List.foldl_nil]
/-- all twos apart, both ways -/
def candW (kd : Kd) (ss : List (List Int)) (gap : Nat) : List ((Int × Int) × (Nat × Nat)) := (List.range ss.length).flatMap fun p => (candN kd ss gap p ss.length).map fun x => (x.1, p, x.2)
theorem candW_mem {kd : Kd} {ss : List (List Int)} {gap : Nat} {x : (Int × Int) × (Nat × Nat)} : x ∈ candW kd ss gap ↔ x.2.1 < ss.length ∧ x.2.2 < ss.length ∧ gap ≤ (x.2.2 - x.2.1) + (x.2.1 - x.2.2) ∧ x.1 = farAt kd ss x.2.1 x.2.2 := by
  unfold candW candN
  simp only [List.mem_flatMap, List.mem_map, List.mem_filterMap, List.mem_range]
  constructor
  · rintro ⟨p, hp, y, ⟨q, hq, e⟩, rfl⟩
    split at e
    · cases e
      exact ⟨hp, hq, by assumption, rfl⟩
    · cases e
  · rintro ⟨hp, hq, hg, e⟩
    refine ⟨x.2.1, hp, (x.1, x.2.2), ⟨x.2.2, hq, ?_⟩, rfl⟩
    rw [if_pos hg, e]
theorem candW_pos {kd : Kd} {ss : List (List Int)} {gap : Nat} (hs : ∀ s ∈ ss, 0 < s.length) : ∀ y ∈ candW kd ss gap, 0 < y.1.2 := by
  intro y hy
  obtain ⟨h1, h2, h3, h4⟩ := candW_mem.mp hy
  rw [h4]
  exact farZ_pos kd (hs _ (getD_mem h1))
theorem candP_filter {kd : Kd} {ss : List (List Int)} {gap : Nat} (g0 : 1 ≤ gap) : candP kd ss gap (List.range ss.length) = (candW kd ss gap).filter fun x => decide (x.2.1 < x.2.2) := by
  unfold candP candW
  rw [List.filter_flatMap]
  congr 1
  funext p
  unfold candN
  generalize List.range ss.length = L
  induction L with
  | nil => rfl
  | cons q L ih =>
    simp only [List.filterMap_cons]
    by_cases h : p + gap ≤ q
    · have h1 : gap ≤ (q - p) + (p - q) := by omega
      have h2 : p < q := by omega
      simp only [h, h1, if_true, List.map_cons, List.filter_cons, h2, decide_true, ih]
    · by_cases h1 : gap ≤ (q - p) + (p - q)
      · have h2 : ¬ p < q := by omega
        simp only [h, h1, if_true, if_false, List.map_cons, List.filter_cons, h2, decide_false, ih]
        simp
      · simp only [h, h1, if_false, ih]
theorem flat_split {α β : Type} {f : α → List β} : ∀ {L : List α} {A B : List β} {x : β}, L.flatMap f = A ++ x :: B → ∃ L1 p L2 A' B', L = L1 ++ p :: L2 ∧ f p = A' ++ x :: B' ∧ A = L1.flatMap f ++ A' ∧ B = B' ++ L2.flatMap f
  | [], A, B, x, h => by simp at h
  | p :: L, A, B, x, h => by
    rw [List.flatMap_cons] at h
    rcases List.append_eq_append_iff.mp h with ⟨a', e1, e2⟩ | ⟨c', e1, e2⟩
    · obtain ⟨L1, q, L2, A', B', e3, e4, e5, e6⟩ := flat_split (f := f) e2
      exact ⟨p :: L1, q, L2, A', B', by rw [e3]; rfl, e4, by rw [e1, e5, List.flatMap_cons, List.append_assoc], e6⟩
    · cases c' with
      | nil =>
        simp only [List.nil_append] at e2
        obtain ⟨L1, q, L2, A', B', e3, e4, e5, e6⟩ := flat_split (f := f) (L := L) (A := []) (B := B) (x := x) (by simpa using e2.symm)
        exact ⟨p :: L1, q, L2, A', B', by rw [e3]; rfl, e4, by rw [List.flatMap_cons, List.append_assoc, ← e5, List.append_nil, e1, List.append_nil], e6⟩
      | cons y c =>
        simp only [List.cons_append, List.cons.injEq] at e2
        obtain ⟨rfl, e2⟩ := e2
        exact ⟨[], p, L, A, c, rfl, e1, rfl, e2⟩
/-- the first least of the table is the nearest two -/
theorem pair_table {kd : Kd} {ss : List (List Int)} {gap : Nat} (hs : ∀ s ∈ ss, 0 < s.length) (he : Even ss) (g0 : 1 ≤ gap) :
    minOf ((List.range ss.length).filterMap fun p => (nearZ kd ss gap p).map fun x => (x.1, p, x.2)) = pairZ kd ss gap (List.range ss.length) := by
  have pos := candW_pos (kd := kd) (gap := gap) hs
  have e1 : minOf (candW kd ss gap) = minOf ((List.range ss.length).filterMap fun p => (nearZ kd ss gap p).map fun x => (x.1, p, x.2)) := by
    unfold candW
    rw [minOf_flat (fun p hp y hy => pos y (List.mem_flatMap.mpr ⟨p, hp, hy⟩))]
    congr 1
    congr 1
    funext p
    rw [minOf_map (h := fun q => (p, q)), nearZ, nearTo_min]
  rw [← e1]
  unfold pairZ
  rw [candP_filter g0]
  cases e : minOf (candW kd ss gap) with
  | none =>
    rw [minOf_none pos] at e
    rw [e]
    rfl
  | some x =>
    symm
    refine minOf_filter pos e ?_
    have hm := minOf_some pos e
    obtain ⟨h1, h2, h3, h4⟩ := candW_mem.mp hm.mem
    by_cases hlt : x.2.1 < x.2.2
    · simp [hlt]
    exfalso
    have hgt : x.2.2 < x.2.1 := by omega
    -- the two the other way round stand ahead
    obtain ⟨A, B, eL, hA, hB⟩ := hm
    have hy : ((x.1, x.2.2, x.2.1) : (Int × Int) × (Nat × Nat)) ∈ candW kd ss gap := by
      refine candW_mem.mpr ⟨h2, h1, by simp only; omega, ?_⟩
      simp only
      rw [h4, farAt_comm he h1 h2]
    unfold candW at eL
    obtain ⟨L1, p, L2, A', B', e3, e4, e5, e6⟩ := flat_split eL
    have hp : x.2.1 = p := by
      have : x ∈ (candN kd ss gap p ss.length).map fun x => (x.1, p, x.2) := by rw [e4]; simp
      obtain ⟨y, _, rfl⟩ := List.mem_map.mp this
      rfl
    have hin : x.2.2 ∈ L1 := by
      have hr : x.2.2 ∈ L1 ++ p :: L2 := by rw [← e3]; exact List.mem_range.mpr h2
      rcases List.mem_append.mp hr with hr | hr
      · exact hr
      · exfalso
        have hsort : (L1 ++ p :: L2).Pairwise (· < ·) := by rw [← e3]; exact List.pairwise_lt_range
        rcases List.mem_cons.mp hr with hr | hr
        · omega
        · have := (List.pairwise_append.mp hsort).2.1
          have := (List.pairwise_cons.mp this).1 _ hr
          omega
    have hmA : ((x.1, x.2.2, x.2.1) : (Int × Int) × (Nat × Nat)) ∈ A := by
      rw [e5]
      refine List.mem_append_left _ (List.mem_flatMap.mpr ⟨x.2.2, hin, ?_⟩)
      obtain ⟨q, hq, hy'⟩ := List.mem_flatMap.mp hy
      have : q = x.2.2 := by
        obtain ⟨y, _, e'⟩ := List.mem_map.mp hy'
        simp only [Prod.mk.injEq] at e'
        exact e'.2.1
      rw [this] at hy'
      exact hy'
    have := hA _ hmA
    simp only [lessZ_irr] at this
    cases this
theorem candL_table {kd : Kd} {xs : List Int} {gap l : Nat} : candL (tableZ kd xs gap l) (List.range (stretchesZ xs l).length) = (List.range (stretchesZ xs l).length).filterMap fun p => (nearZ kd (stretchesZ xs l) gap p).map fun x => (x.1, p, x.2) := by
  unfold candL
  have : ∀ L : List Nat, (∀ p ∈ L, p < (stretchesZ xs l).length) → (L.filterMap fun p => (rowAt (tableZ kd xs gap l) p).map fun x => (x.1, p, x.2)) = L.filterMap fun p => (nearZ kd (stretchesZ xs l) gap p).map fun x => (x.1, p, x.2) := by
    intro L
    induction L with
    | nil => intro _; rfl
    | cons p L ih =>
    intro hL
    have hp := hL p (by simp)
    have e : rowAt (tableZ kd xs gap l) p = nearZ kd (stretchesZ xs l) gap p := by
      rw [rowAt, List.getD_eq_getElem?_getD]
      simp [tableZ, List.getElem?_range hp]
    rw [List.filterMap_cons, List.filterMap_cons, e, ih fun q hq => hL q (by simp [hq])]
  exact this _ fun p hp => List.mem_range.mp hp
/-! ### defs that call themselves: what is plain -/
def plainB : Nat → D → Bool
  | _, .non => true
  | _, .int _ => true
  | 0, _ => false
  | n + 1, .lst xs => decide (xs.length ≤ 1000) && xs.all (plainB n)
  | n + 1, .tup xs => decide (xs.length ≤ 1000) && xs.all (plainB n)
  | _ + 1, _ => false
/-! ### further Ok rules -/
section
variable {ρ : DEnv} {M : DSt}
noncomputable def wR3 (vs : List Dv) (M : DSt) : Option (List D × List Nat × DSt) := match vs with
  | [.d (.int i), .d (.int j), .d (.int c)] => grd (c ≠ 0 ∧ -1000000 ≤ c ∧ c ≤ 1000000 ∧ -1000000000 ≤ i ∧ i ≤ 1000000000 ∧ -1000000000 ≤ j ∧ j ≤ 1000000000) (some (rngC i c (szC i j c), [], M))
  | _ => none
@[simp ↓] theorem ok_iR3 {a : DA} {P : List D × List Nat × DSt → Prop} : Ok (iR3 a ρ M) P ↔ Ok (a ρ M) fun p => Ok (wR3 p.1 p.2) P := by
  unfold iR3 wR3
  cases a ρ M with
  | none => simp
  | some p =>
    obtain ⟨x, M1⟩ := p
    simp only [ok_some]
    split
    · rename_i i j c M2 e
      cases e
      exact Iff.rfl
    · rename_i h
      split
      · rename_i i j c
        exact absurd rfl (h i j c M1)
      · exact Iff.rfl
@[simp ↓] theorem ok_wR3 {i j c : Int} {P : List D × List Nat × DSt → Prop} : Ok (wR3 [.d (.int i), .d (.int j), .d (.int c)] M) P ↔ (c ≠ 0 ∧ -1000000 ≤ c ∧ c ≤ 1000000 ∧ -1000000000 ≤ i ∧ i ≤ 1000000000 ∧ -1000000000 ≤ j ∧ j ≤ 1000000000) ∧ P (rngC i c (szC i j c), [], M) := by simp only [wR3, ok_grd, ok_some]
@[simp ↓] theorem ok_augS {f : O2} {o i e : DE} {P : Out → Prop} : Ok (dAugS f o i e ρ M) P ↔ Ok (o ρ M) fun p => Ok (asC p.1) fun n => Ok (i ρ p.2) fun q => Ok (asI q.1) fun k => Ok (cel q.2 n) fun xs => Ok (ixD xs.length k) fun j => Ok (xs[j]?) fun x => Ok (e ρ q.2) fun r => Ok (f (.d x) r.1 r.2) fun s => Ok (asD s.1) fun z => Ok (cel s.2 n) fun ys => ys.length = xs.length ∧ P (.nx ρ (setC s.2 n (ys.set j z))) := by
  unfold dAugS
  cases o ρ M with
  | none => simp
  | some p =>
    obtain ⟨x, M1⟩ := p
    simp only [ok_some]
    cases x with
    | d x => simp [asC]
    | r x => simp [asC]
    | o _ _ _ => simp [asC]
    | k _ _ => simp [asC]
    | c n =>
      simp only [ok_asC]
      cases i ρ M1 with
      | none => simp
      | some q =>
        obtain ⟨y, M2⟩ := q
        simp only [ok_some]
        cases y with
        | c m => simp [asI]
        | r m => simp [asI]
        | o _ _ _ => simp [asI]
        | k _ _ => simp [asI]
        | d y =>
          cases y with
          | int k =>
            simp only [ok_asI]
            unfold cel
            cases e1 : (M2[n]?).join with
            | none => simp
            | some xs =>
              simp only [ok_some]
              cases e2 : ixD xs.length k with
              | none => simp
              | some j =>
                simp only [ok_some]
                cases e3 : xs[j]? with
                | none => simp
                | some x =>
                  simp only [ok_some]
                  cases e ρ M2 with
                  | none => simp
                  | some r =>
                    obtain ⟨y, M3⟩ := r
                    simp only [ok_some]
                    cases f (.d x) y M3 with
                    | none => simp
                    | some s =>
                      obtain ⟨z, M4⟩ := s
                      simp only [ok_some]
                      cases z with
                      | c m => simp [asD]
                      | r m => simp [asD]
                      | o _ _ _ => simp [asD]
                      | k _ _ => simp [asD]
                      | d z =>
                        simp only [ok_asD]
                        cases e4 : (M4[n]?).join with
                        | none => simp
                        | some ys =>
                          simp only [ok_some]
                          by_cases hl : ys.length = xs.length <;> simp [hl]
          | _ => simp [asI]
@[simp ↓] theorem ok_reverse {n : Nat} {P : Dv × DSt → Prop} : Ok (mReverse (.c n) [] M) P ↔ Ok (cel M n) fun xs => P (.d .non, M.set n (some xs.reverse)) := by
  simp only [mReverse, cel]
  cases (M[n]?).join <;> simp
@[simp ↓] theorem ok_max1 {ns : List Int} {P : Dv × DSt → Prop} : Ok (oMax1 [.d (.lst (ns.map D.int))] M) P ↔ 0 < ns.length ∧ P (.d (.int (maxZ ns)), M) := by simp [oMax1]
@[simp ↓] theorem ok_min1 {ns : List Int} {P : Dv × DSt → Prop} : Ok (oMin1 [.d (.lst (ns.map D.int))] M) P ↔ 0 < ns.length ∧ P (.d (.int (minZ ns)), M) := by simp [oMin1]
end
end Rw
namespace Rw
theorem ok_neCC {M : DSt} {n m : Nat} {xs : List D} {P : Dv × DSt → Prop} (h : M[n]? = some (some xs)) (h' : M[m]? = some (some xs)) (hx : (D.lst xs).shp 9 = true) : Ok (oNe (.c n) (.c m) M) P ↔ P (.d (.bl false), M) := by
  have := eqv_refl 9 _ hx
  simp [oNe, dv, h, h', hx, this]
theorem ok_eqDC {M : DSt} {m : Nat} {xs : List D} {P : Dv × DSt → Prop} (h' : M[m]? = some (some xs)) (hx : (D.lst xs).shp 9 = true) : Ok (oEq (.d (.lst xs)) (.c m) M) P ↔ P (.d (.bl true), M) := by
  have := eqv_refl 9 _ hx
  simp [oEq, dv, h', hx, this]
theorem ok_neDC {M : DSt} {m : Nat} {xs : List D} {P : Dv × DSt → Prop} (h' : M[m]? = some (some xs)) (hx : (D.lst xs).shp 9 = true) : Ok (oNe (.d (.lst xs)) (.c m) M) P ↔ P (.d (.bl false), M) := by
  have := eqv_refl 9 _ hx
  simp [oNe, dv, h', hx, this]
@[simp ↓] theorem ok_neB {a b : Bool} {M : DSt} {P : Dv × DSt → Prop} : Ok (oNe (.d (.bl a)) (.d (.bl b)) M) P ↔ P (.d (.bl (!(a == b))), M) := by
  rw [ok_neD (by rfl) (by rfl)]
  simp [D.eqv]
@[simp ↓] theorem ok_eqB {a b : Bool} {M : DSt} {P : Dv × DSt → Prop} : Ok (oEq (.d (.bl a)) (.d (.bl b)) M) P ↔ P (.d (.bl (a == b)), M) := by
  rw [ok_eqD (by rfl) (by rfl)]
  simp [D.eqv]
theorem set_map_range {m j : Nat} {g : Nat → D} {x : D} (hj : j < m) : ((List.range m).map g).set j x = (List.range m).map fun c => if c = j then x else g c := by
  apply List.ext_getElem?
  intro i
  by_cases hi : i < m
  · by_cases e : j = i
    · subst e
      rw [List.getElem?_set_self (by simpa using hi), List.getElem?_map, List.getElem?_range hi]
      simp
    · rw [List.getElem?_set_ne e, List.getElem?_map, List.getElem?_map, List.getElem?_range hi]
      simp [Ne.symm e]
  · rw [List.getElem?_eq_none (by simp; omega), List.getElem?_eq_none (by simp; omega)]
theorem at_map_range {m j : Nat} {g : Nat → D} (hj : j < m) : ((List.range m).map g)[j]? = some (g j) := by
  rw [List.getElem?_map, List.getElem?_range hj]
  rfl
end Rw
namespace Rw
/-- a loop that puts something at the end of a new list, or nothing -/
theorem forL_appO {α : Type} {chk : DSt → Prop} {step : D → DEnv → DSt → Option Out} {M : DSt} {P : Out → Prop} {f : α → D} (env : DEnv) (g : α → Option D) (hc : ∀ xs, chk (M ++ [some xs])) : ∀ {l : List α} {xs0 : List D},
    (∀ a ∈ l, ∀ xs, xs.length < xs0.length + l.length → Ok (step (f a) env (M ++ [some xs])) (turnP (fun ρ M' => ρ = env ∧ M' = M ++ [some (xs ++ (g a).toList)]) P)) → P (.nx env (M ++ [some (xs0 ++ l.filterMap g)])) → Ok (forL chk step (l.map f) env (M ++ [some xs0])) P
  | [], xs0, _, k => by
    simp only [List.map_nil, forL, ok_grd, ok_some]
    simp at k
    exact ⟨hc _, k⟩
  | a :: l, xs0, h, k => by
    have h1 := h a (by simp) xs0 (by simp)
    rw [List.map_cons, ok_forC]
    refine ⟨hc _, h1.mono ?_⟩
    intro o ho
    have hl : (xs0 ++ (g a).toList).length ≤ xs0.length + 1 := by cases g a <;> simp
    have r := forL_appO (f := f) env g hc (l := l) (xs0 := xs0 ++ (g a).toList) (fun b hb xs hx => h b (by simp [hb]) xs (by simp only [List.length_cons]; omega)) (by
      have : xs0 ++ (g a).toList ++ l.filterMap g = xs0 ++ (a :: l).filterMap g := by
        rw [List.filterMap_cons]
        cases g a <;> simp
      rw [this]
      exact k)
    cases o with
    | nx ρ M' => obtain ⟨rfl, rfl⟩ := ho; exact r
    | ct ρ M' => obtain ⟨rfl, rfl⟩ := ho; exact r
    | bk ρ M' => exact ho
    | rt v M' => exact ho
theorem range1 {n : Nat} : rng 1 n = (List.range n).map fun i => D.int ((i + 1 : Nat) : Int) := by
  simp [rng]
  intro a _
  omega
theorem Bn.lit {k : Nat} {x : Int} (h : -(10 ^ k) ≤ x) (h' : x ≤ 10 ^ k) : Bn k x := ⟨h, h'⟩
end Rw
namespace Rw
/-- behind a loop that hands something back at the first that has it -/
def outF (env : DEnv) (M : DSt) : Option Dv → Out
  | none => .nx env M
  | some v => .rt v M
theorem forL_first {α : Type} {chk : DSt → Prop} {step : D → DEnv → DSt → Option Out} {M : DSt} {P : Out → Prop} {f : α → D} (env : DEnv) (g : α → Option Dv) (hc : chk M) : ∀ {l : List α},
    (∀ a ∈ l, Ok (step (f a) env M) (turnP (fun ρ M' => g a = none ∧ ρ = env ∧ M' = M) fun o => ∃ v, g a = some v ∧ o = .rt v M)) → P (outF env M (l.findSome? g)) → Ok (forL chk step (l.map f) env M) P
  | [], _, k => by
    simp only [List.map_nil, forL, ok_grd, ok_some]
    exact ⟨hc, k⟩
  | a :: l, h, k => by
    have h1 := h a (by simp)
    rw [List.map_cons, ok_forC]
    refine ⟨hc, h1.mono ?_⟩
    intro o ho
    cases o with
    | nx ρ M' =>
      obtain ⟨e, rfl, rfl⟩ := ho
      exact forL_first (f := f) _ g hc (fun b hb => h b (by simp [hb])) (by simpa [List.findSome?_cons, e] using k)
    | ct ρ M' =>
      obtain ⟨e, rfl, rfl⟩ := ho
      exact forL_first (f := f) _ g hc (fun b hb => h b (by simp [hb])) (by simpa [List.findSome?_cons, e] using k)
    | bk ρ M' =>
      obtain ⟨v, e, h⟩ := ho
      cases h
    | rt v M' =>
      obtain ⟨w, e, h⟩ := ho
      cases h
      simpa [List.findSome?_cons, e, outF] using k
theorem findSome_map {α β γ : Type} {g : α → Option β} {h : β → γ} : ∀ {l : List α}, (l.findSome? g).map h = l.findSome? fun a => (g a).map h
  | [] => rfl
  | a :: l => by
    rw [List.findSome?_cons, List.findSome?_cons]
    cases g a with
    | none => exact findSome_map
    | some b => rfl
theorem findSome_none {α β : Type} {g : α → Option β} : ∀ {l : List α}, (∀ a ∈ l, g a = none) → l.findSome? g = none
  | [], _ => rfl
  | a :: l, h => by
    rw [List.findSome?_cons, h a (by simp)]
    exact findSome_none fun b hb => h b (by simp [hb])
theorem findSome_congr {α β : Type} {g h : α → Option β} : ∀ {l : List α}, (∀ a ∈ l, g a = h a) → l.findSome? g = l.findSome? h
  | [], _ => rfl
  | a :: l, e => by
    rw [List.findSome?_cons, List.findSome?_cons, e a (by simp), findSome_congr fun b hb => e b (by simp [hb])]
/-- the first two apart that are no farther than a fraction -/
def rowF (kd : Kd) (ss : List (List Int)) (gap : Nat) (fr : Int × Int) (p : Nat) : Option (Nat × Nat) := (List.range (ss.length - (p + gap))).findSome? fun k => if lessZ fr (farAt kd ss p (p + gap + k)) then none else some (p, p + gap + k)
theorem rowF_map {γ : Type} {kd : Kd} {ss : List (List Int)} {gap : Nat} {fr : Int × Int} {p : Nat} {h : Nat × Nat → γ} : (rowF kd ss gap fr p).map h = (List.range (ss.length - (p + gap))).findSome? fun k => if lessZ fr (farAt kd ss p (p + gap + k)) then none else some (h (p, p + gap + k)) := by
  unfold rowF
  rw [findSome_map]
  apply findSome_congr
  intro k _
  split <;> rfl
def fwZ (kd : Kd) (ss : List (List Int)) (gap : Nat) (fr : Int × Int) : Option (Nat × Nat) := (List.range ss.length).findSome? (rowF kd ss gap fr)
def fwD (x : Nat × Nat) : D := .tup [.int x.1, .int x.2]
def longZ (kd : Kd) (xs : List Int) (gap : Nat) (fr : Int × Int) : Option (Nat × Nat × Nat) := (List.range 40).findSome? fun i => (fwZ kd (stretchesZ xs (40 - i)) gap fr).map fun x => (40 - i, x.1, x.2)
def longD : Option (Nat × Nat × Nat) → D
  | none => .non
  | some x => .tup [.int x.1, .int x.2.1, .int x.2.2]
theorem rngC_down {n : Nat} : rngC (n : Int) (-1) (szC n 0 (-1)) = (List.range n).map fun i => D.int ((n - i : Nat) : Int) := by
  have : szC (n : Int) 0 (-1) = n := by
    unfold szC
    simp
    split <;> omega
  rw [this]
  simp [rngC]
  intro a ha
  omega
end Rw
namespace Rw
theorem ok_lenV {M : DSt} {v : Dv} {xs : List D} {P : Dv × DSt → Prop} (h : lv M v = some xs) : Ok (oLen [v] M) P ↔ P (.d (.int xs.length), M) := by
  cases v with
  | d x =>
    cases x <;> simp only [lv] at h <;> try (cases h)
    simp
  | c n =>
    have h' : (M[n]?).join = some xs := h
    simp [cel, h']
  | o _ _ _ => cases h
  | k _ _ => cases h
  | r ys =>
    cases h
    simp
theorem ok_slV {M : DSt} {v : Dv} {xs : List D} {c : Bool} {l r : Option Int} {P : Dv × DSt → Prop} (h : lv M v = some xs) : Ok (slU c v l r M) P ↔ Ok (mkL c (cutD xs l r) M) P := by
  cases v with
  | d x =>
    cases x <;> simp only [lv] at h <;> try (cases h)
    exact Iff.rfl
  | c n =>
    have h' : (M[n]?).join = some xs := h
    simp [cel, h']
  | o _ _ _ => cases h
  | k _ _ => cases h
  | r ys =>
    cases h
    exact Iff.rfl
theorem lv_cel {M : DSt} {n : Nat} {xs : List D} (h : M[n]? = some (some xs)) : lv M (.c n) = some xs := by simp [h]
end Rw
end PRwTab
section PRwMax
set_option autoImplicit false
set_option linter.all false
set_option maxRecDepth 100000
/-! RwMax: the first greatest; runs that stay apart; == of fractions. -/
namespace Rw
section
variable {π : Type}
def negX (x : (Int × Int) × π) : (Int × Int) × π := ((-x.1.1, x.1.2), x.2)
theorem less_neg {a b : Int × Int} : lessZ (-a.1, a.2) (-b.1, b.2) = lessZ b a := by
  unfold lessZ
  simp only [Int.neg_mul]
  congr 1
  apply propext
  omega
theorem maxOf_neg {L : List ((Int × Int) × π)} : ∀ {s : Option ((Int × Int) × π)}, (L.map negX).foldl minStep (s.map negX) = (L.foldl maxStep s).map negX := by
  induction L with
  | nil => intro s; rfl
  | cons y L ih =>
    intro s
    rw [List.map_cons, List.foldl_cons, List.foldl_cons, ← ih]
    congr 1
    cases s with
    | none => rfl
    | some g =>
      simp only [minStep, maxStep, Option.map_some, negX, less_neg]
      split <;> rfl
/-- x is the first greatest of L -/
def IsMax (L : List ((Int × Int) × π)) (x : (Int × Int) × π) : Prop := ∃ L1 L2, L = L1 ++ x :: L2 ∧ (∀ y ∈ L1, lessZ y.1 x.1 = true) ∧ (∀ y ∈ L2, lessZ x.1 y.1 = false)
theorem negX_inj {x y : (Int × Int) × π} (h : negX x = negX y) : x = y := by
  obtain ⟨⟨a, b⟩, c⟩ := x
  obtain ⟨⟨a', b'⟩, c'⟩ := y
  simp only [negX, Prod.mk.injEq] at h
  obtain ⟨⟨h1, h2⟩, h3⟩ := h
  simp only [Prod.mk.injEq]
  exact ⟨⟨by omega, h2⟩, h3⟩
theorem maxOf_some {L : List ((Int × Int) × π)} {x : (Int × Int) × π} (hp : ∀ y ∈ L, 0 < y.1.2) (h : L.foldl maxStep none = some x) : IsMax L x := by
  have e := maxOf_neg (L := L) (s := none)
  rw [h] at e
  have e' : minOf (L.map negX) = some (negX x) := e
  obtain ⟨A, B, eL, h1, h2⟩ := minOf_some (by
    intro y hy
    obtain ⟨z, hz, rfl⟩ := List.mem_map.mp hy
    exact hp z hz) e'
  obtain ⟨L1, L2', e1, e2, e3⟩ := List.map_eq_append_iff.mp eL
  obtain ⟨y, L2, e4, e5, e6⟩ := List.map_eq_cons_iff.mp e3
  have := negX_inj e5
  subst this
  subst e4
  refine ⟨L1, L2, e1, ?_, ?_⟩
  · intro z hz
    have := h1 (negX z) (by rw [← e2]; exact List.mem_map_of_mem hz)
    simp only [negX, less_neg] at this
    exact this
  · intro z hz
    have := h2 (negX z) (by rw [← e6]; exact List.mem_map_of_mem hz)
    simp only [negX, less_neg] at this
    exact this
theorem maxOf_none {L : List ((Int × Int) × π)} (h : L.foldl maxStep none = none) : L = [] := by
  have : ∀ (L : List ((Int × Int) × π)) (g : (Int × Int) × π), L.foldl maxStep (some g) ≠ none := by
    intro L
    induction L with
    | nil => intro g e; cases e
    | cons y L ih =>
      intro g
      rw [List.foldl_cons]
      simp only [maxStep]
      split
      · exact ih _
      · exact ih _
  cases L with
  | nil => rfl
  | cons y L => exact absurd h (this L y)
end
theorem candL_mem {rows : List (Option ((Int × Int) × Nat))} {fr : List Nat} {x : (Int × Int) × (Nat × Nat)} : x ∈ candL rows fr ↔ x.2.1 ∈ fr ∧ rowAt rows x.2.1 = some (x.1, x.2.2) := by
  unfold candL
  rw [List.mem_filterMap]
  constructor
  · rintro ⟨p, hp, e⟩
    cases h : rowAt rows p with
    | none => rw [h] at e; cases e
    | some y =>
      rw [h] at e
      cases e
      exact ⟨hp, h⟩
  · rintro ⟨hp, e⟩
    exact ⟨x.2.1, hp, by rw [e]; rfl⟩
theorem candL_sorted {rows : List (Option ((Int × Int) × Nat))} {n : Nat} : (candL rows (List.range n)).Pairwise fun x y => x.2.1 < y.2.1 := by
  unfold candL
  rw [List.pairwise_filterMap]
  refine List.Pairwise.imp ?_ List.pairwise_lt_range
  intro a b hab x hx y hy
  cases h : rowAt rows a with
  | none => rw [h] at hx; cases hx
  | some u =>
    rw [h] at hx
    cases h' : rowAt rows b with
    | none => rw [h'] at hy; cases hy
    | some v =>
      rw [h'] at hy
      cases hx
      cases hy
      exact hab
theorem eqv_fr {f g : Int × Int} : D.eqv (frD f) (frD g) = decide (f = g) := by
  obtain ⟨a, b⟩ := f
  obtain ⟨c, d⟩ := g
  by_cases h1 : a = c
  · by_cases h2 : b = d
    · simp [frD, D.eqv, D.eqvs, h1, h2]
    · simp [frD, D.eqv, D.eqvs, h1, h2]
  · simp [frD, D.eqv, D.eqvs, h1]
theorem ok_eqF {f g : Int × Int} {M : DSt} {P : Dv × DSt → Prop} : Ok (oEq (.d (frD f)) (.d (frD g)) M) P ↔ P (.d (.bl (decide (f = g))), M) := by
  rw [ok_eqD frD_shp frD_shp, eqv_fr]
theorem ok_neF {f g : Int × Int} {M : DSt} {P : Dv × DSt → Prop} : Ok (oNe (.d (frD f)) (.d (frD g)) M) P ↔ P (.d (.bl (!decide (f = g))), M) := by
  rw [ok_neD frD_shp frD_shp, eqv_fr]
/-! ### runs of twos that stay apart -/
theorem free_apart {gap p q : Nat} {fr pl : List Nat} (h : p ∈ freeZ gap fr pl) (hq : q ∈ pl) : Apart gap q p := by
  have := (List.mem_filter.mp h).2
  rw [List.all_eq_true] at this
  have := this q hq
  unfold apartB at this
  unfold Apart
  simpa using this
def ApartX (gap : Nat) (x y : (Int × Int) × (Nat × Nat)) : Prop := Apart gap x.2.1 y.2.1 ∧ Apart gap x.2.1 y.2.2 ∧ Apart gap x.2.2 y.2.1 ∧ Apart gap x.2.2 y.2.2
theorem run_apart {kd : Kd} {ss : List (List Int)} {gap : Nat} (hs : ∀ s ∈ ss, 0 < s.length) : ∀ {n : Nat} {fr : List Nat}, (∀ p ∈ fr, p < ss.length) →
    (∀ x ∈ runZ (pairZ kd ss gap) (fun fr x => freeZ gap fr [x.2.1, x.2.2]) n fr, x.2.1 ∈ fr ∧ x.2.2 ∈ fr) ∧ (runZ (pairZ kd ss gap) (fun fr x => freeZ gap fr [x.2.1, x.2.2]) n fr).Pairwise (ApartX gap)
  | 0, fr, _ => ⟨(by intro x hx; cases hx), List.Pairwise.nil⟩
  | n + 1, fr, hf => by
    unfold runZ
    cases e : pairZ kd ss gap fr with
    | none => exact ⟨(by intro x hx; cases hx), List.Pairwise.nil⟩
    | some x =>
      obtain ⟨h1, h2, h3, h4⟩ := candP_mem.mp (minOf_some (candP_pos hs hf) e).mem
      have ih := run_apart (kd := kd) (gap := gap) hs (n := n) (fr := freeZ gap fr [x.2.1, x.2.2]) fun p hp => hf p (freeZ_sub hp)
      refine ⟨?_, ?_⟩
      · intro y hy
        rcases List.mem_cons.mp hy with rfl | hy
        · exact ⟨h1, h2⟩
        · obtain ⟨a, b⟩ := ih.1 y hy
          exact ⟨freeZ_sub a, freeZ_sub b⟩
      · refine List.Pairwise.cons ?_ ih.2
        intro y hy
        obtain ⟨a, b⟩ := ih.1 y hy
        exact ⟨free_apart a (by simp), free_apart b (by simp), free_apart a (by simp), free_apart b (by simp)⟩
end Rw
end PRwMax
section PRwCau
set_option autoImplicit false
set_option linter.all false
set_option maxRecDepth 100000
/-! RwCau: Cauchy and Schwarz; fractions by their ratio; far of itself. -/
namespace Rw
def combZ (s t : Int) (xs ys : List Int) : List Int := (xs.zip ys).map fun p => s * p.1 + t * p.2
theorem comb_sum (s t : Int) : ∀ {xs ys : List Int}, xs.length = ys.length → (combZ s t xs ys).sum = s * xs.sum + t * ys.sum
  | [], [], _ => by simp [combZ]
  | x :: xs, y :: ys, h => by
    have ih := comb_sum s t (xs := xs) (ys := ys) (by simpa using h)
    unfold combZ at ih ⊢
    simp only [List.zip_cons_cons, List.map_cons, List.sum_cons, ih]
    grind
theorem comb_sq (s t : Int) : ∀ {xs ys : List Int}, xs.length = ys.length → ((combZ s t xs ys).map fun x => x * x).sum = s * s * (xs.map fun x => x * x).sum + 2 * s * t * dotZ xs ys + t * t * (ys.map fun x => x * x).sum
  | [], [], _ => by simp [combZ, dotZ]
  | x :: xs, y :: ys, h => by
    have ih := comb_sq s t (xs := xs) (ys := ys) (by simpa using h)
    unfold combZ dotZ at ih ⊢
    simp only [List.zip_cons_cons, List.map_cons, List.sum_cons, ih]
    grind
theorem comb_len (s t : Int) {xs ys : List Int} (h : xs.length = ys.length) : (combZ s t xs ys).length = xs.length := by
  simp [combZ, h]
theorem uneven_comb (s t : Int) {xs ys : List Int} (h : xs.length = ys.length) : unevenZ (combZ s t xs ys) = s * s * unevenZ xs + 2 * s * t * bothZ xs ys + t * t * unevenZ ys := by
  unfold unevenZ bothZ
  rw [comb_len s t h, comb_sum s t h, comb_sq s t h, ← h]
  generalize (xs.length : Int) = n
  generalize (xs.map fun x => x * x).sum = a
  generalize (ys.map fun x => x * x).sum = b
  generalize dotZ xs ys = d
  grind
theorem pos_of_mul {a b : Int} (ha : 0 < a) (h : 0 ≤ a * b) : 0 ≤ b := by
  by_cases hb : 0 ≤ b
  · exact hb
  · have := Int.mul_pos ha (show 0 < -b by omega)
    rw [Int.mul_neg] at this
    omega
theorem both_cs {xs ys : List Int} (h : xs.length = ys.length) : bothZ xs ys * bothZ xs ys ≤ unevenZ xs * unevenZ ys := by
  have hU := uneven_nn xs
  have hV := uneven_nn ys
  have c := fun s t => uneven_comb s t h
  have n := fun s t => uneven_nn (combZ s t xs ys)
  generalize unevenZ xs = U at *
  generalize unevenZ ys = V at *
  generalize bothZ xs ys = B at *
  by_cases hv : V = 0
  · subst hv
    have a := n 1 (-(B * (U + 1)))
    rw [c] at a
    have e : (1 : Int) * 1 * U + 2 * 1 * (-(B * (U + 1))) * B + (-(B * (U + 1))) * (-(B * (U + 1))) * 0 = U - 2 * (U + 1) * (B * B) := by grind
    rw [e] at a
    rw [Int.mul_zero]
    by_cases hb : B * B ≤ 0
    · exact hb
    · have h1 : (U + 1) * 1 ≤ (U + 1) * (B * B) := Int.mul_le_mul_of_nonneg_left (by omega) (by omega)
      have h2 : 2 * (U + 1) * (B * B) = 2 * ((U + 1) * (B * B)) := by rw [Int.mul_assoc]
      omega
  · have a := n V (-B)
    rw [c] at a
    have e : V * V * U + 2 * V * (-B) * B + (-B) * (-B) * V = V * (U * V - B * B) := by grind
    rw [e] at a
    have := pos_of_mul (show 0 < V by omega) a
    omega
theorem made_spec {t b : Int} (h : 0 < b) : ∃ g, 0 < g ∧ t = g * (madeZ t b).1 ∧ b = g * (madeZ t b).2 := by
  have g0 : 0 < Int.gcd t b := Int.gcd_pos_of_ne_zero_right _ (by omega)
  have es : signG t b = (Int.gcd t b : Int) := by rw [signG, if_neg (by omega)]
  refine ⟨(Int.gcd t b : Int), by omega, ?_, ?_⟩
  · simp only [madeZ, es]
    rw [Int.fdiv_eq_ediv_of_nonneg _ (by omega), Int.mul_ediv_cancel' (Int.gcd_dvd_left ..)]
  · simp only [madeZ, es]
    rw [Int.fdiv_eq_ediv_of_nonneg _ (by omega), Int.mul_ediv_cancel' (Int.gcd_dvd_right ..)]
theorem made_pos {t b : Int} (h : 0 < b) : 0 < (madeZ t b).2 := by
  obtain ⟨g, g0, _, e⟩ := made_spec (t := t) h
  have h' := h
  rw [e, Int.mul_comm] at h'
  exact Int.pos_of_mul_pos_left h' g0
theorem made_low {t b : Int} (h : 0 < b) : Low (madeZ t b) := ⟨made_pos h, madeZ_low (by omega)⟩
theorem less_made_r {a : Int × Int} {t b : Int} (h : 0 < b) : lessZ a (madeZ t b) = decide (a.1 * b < t * a.2) := by
  obtain ⟨g, g0, e1, e2⟩ := made_spec (t := t) h
  generalize madeZ t b = m at *
  unfold lessZ
  subst e1
  subst e2
  have u : a.1 * (g * m.2) = g * (a.1 * m.2) := by grind
  have v : g * m.1 * a.2 = g * (m.1 * a.2) := by grind
  rw [u, v]
  congr 1
  apply propext
  exact (Int.mul_lt_mul_left g0).symm
theorem less_made_l {a : Int × Int} {t b : Int} (h : 0 < b) : lessZ (madeZ t b) a = decide (t * a.2 < a.1 * b) := by
  obtain ⟨g, g0, e1, e2⟩ := made_spec (t := t) h
  generalize madeZ t b = m at *
  unfold lessZ
  subst e1
  subst e2
  have u : a.1 * (g * m.2) = g * (a.1 * m.2) := by grind
  have v : g * m.1 * a.2 = g * (m.1 * a.2) := by grind
  rw [u, v]
  congr 1
  apply propext
  exact (Int.mul_lt_mul_left g0).symm
theorem made_eq_of {t b t' b' : Int} (h : 0 < b) (h' : 0 < b') (e : t * b' = t' * b) : madeZ t b = madeZ t' b' := by
  obtain ⟨g, g0, e1, e2⟩ := made_spec (t := t') h'
  refine low_same (made_low h) (made_low h') ?_ ?_
  · rw [less_made_l h]
    generalize madeZ t' b' = m at *
    subst e1
    subst e2
    have : g * (t * m.2) = g * (m.1 * b) := by grind
    have := Int.eq_of_mul_eq_mul_left (show g ≠ 0 by omega) this
    simp [this]
  · rw [less_made_r h]
    generalize madeZ t' b' = m at *
    subst e1
    subst e2
    have : g * (t * m.2) = g * (m.1 * b) := by grind
    have := Int.eq_of_mul_eq_mul_left (show g ≠ 0 by omega) this
    simp [this]
theorem made_zero {b : Int} (h : 0 < b) : madeZ 0 b = (0, 1) := by
  rw [made_eq_of (t' := 0) (b' := 1) h (by omega) (by simp)]
  decide
theorem diff_self {xs : List Int} : diffZ xs xs = List.replicate xs.length 0 := by
  unfold diffZ
  induction xs with
  | nil => rfl
  | cons x xs ih => simp [List.replicate_succ, ih]
theorem sum_rep0 {n : Nat} : (List.replicate n (0 : Int)).sum = 0 := by
  induction n with
  | zero => rfl
  | succ n ih => simp [List.replicate_succ, ih]
theorem both_self {xs : List Int} : bothZ xs xs = unevenZ xs := by
  unfold bothZ unevenZ dotZ
  have : (xs.zip xs).map (fun p : Int × Int => p.1 * p.2) = xs.map fun x => x * x := by
    induction xs with
    | nil => rfl
    | cons x xs ih => simp [ih]
  rw [this]
theorem far_self {kd : Kd} {xs : List Int} (h : 0 < xs.length) : farZ kd xs xs = (0, 1) := by
  have hl : (0 : Int) < (xs.length : Int) := by omega
  cases kd with
  | pl =>
    show madeZ ((diffZ xs xs).map fun d => d * d).sum xs.length = _
    rw [diff_self]
    have : ((List.replicate xs.length (0 : Int)).map fun d => d * d).sum = 0 := by
      rw [List.map_replicate]
      exact sum_rep0
    rw [this, made_zero hl]
  | mo =>
    show madeZ (unevenZ (diffZ xs xs)) ((xs.length : Int) * xs.length) = _
    have : unevenZ (diffZ xs xs) = 0 := by
      rw [diff_self]
      unfold unevenZ
      rw [List.map_replicate, sum_rep0]
      have : (List.replicate xs.length ((0 : Int) * 0)).sum = 0 := sum_rep0
      rw [this]
      simp
    rw [this, made_zero (Int.mul_pos hl hl)]
  | sh =>
    show (if unevenZ xs = 0 ∨ unevenZ xs = 0 then (if unevenZ xs = unevenZ xs then (0, 1) else (1, 1)) else madeZ (unevenZ xs * unevenZ xs - bothZ xs xs * (if bothZ xs xs < 0 then -bothZ xs xs else bothZ xs xs)) (unevenZ xs * unevenZ xs)) = _
    by_cases hz : unevenZ xs = 0
    · simp [hz]
    · have hp := uneven_pos hz
      rw [if_neg (by simp [hz]), both_self, if_neg (by omega), Int.sub_self, made_zero (Int.mul_pos hp hp)]
theorem abs_sq {B C : Int} (h : B * B ≤ C) : -C ≤ B * (if B < 0 then -B else B) ∧ B * (if B < 0 then -B else B) ≤ C := by
  split
  · rw [Int.mul_neg]
    have := sq_nn B
    omega
  · have := sq_nn B
    omega
/-- far as a ratio: top and bottom before it is made low -/
theorem far_ratio {kd : Kd} {xs ys : List Int} (h : xs.length = ys.length) (h0 : 0 < xs.length) : ∃ t b, 0 < b ∧ farZ kd xs ys = madeZ t b ∧ 0 ≤ t ∧ (kd = .pl → t = ((diffZ xs ys).map fun d => d * d).sum) ∧ (kd = .mo → t = unevenZ (diffZ xs ys)) ∧ (kd = .sh → t ≤ 2 * b) := by
  have hl : (0 : Int) < (xs.length : Int) := by omega
  cases kd with
  | pl =>
    refine ⟨((diffZ xs ys).map fun d => d * d).sum, xs.length, hl, rfl, sum_nn ?_, fun _ => rfl, by simp, by simp⟩
    intro z hz
    obtain ⟨y, _, rfl⟩ := List.mem_map.mp hz
    exact sq_nn _
  | mo => exact ⟨unevenZ (diffZ xs ys), (xs.length : Int) * xs.length, Int.mul_pos hl hl, rfl, uneven_nn _, by simp, fun _ => rfl, by simp⟩
  | sh =>
    by_cases hz : unevenZ xs = 0 ∨ unevenZ ys = 0
    · by_cases he : unevenZ xs = unevenZ ys
      · refine ⟨0, 1, by omega, ?_, by omega, by simp, by simp, by simp⟩
        show (if unevenZ xs = 0 ∨ unevenZ ys = 0 then (if unevenZ xs = unevenZ ys then (0, 1) else (1, 1)) else _) = _
        rw [if_pos hz, if_pos he]
        decide
      · refine ⟨1, 1, by omega, ?_, by omega, by simp, by simp, by simp⟩
        show (if unevenZ xs = 0 ∨ unevenZ ys = 0 then (if unevenZ xs = unevenZ ys then (0, 1) else (1, 1)) else _) = _
        rw [if_pos hz, if_neg he]
        decide
    · have hp := Int.mul_pos (uneven_pos fun h => hz (.inl h)) (uneven_pos fun h => hz (.inr h))
      have := abs_sq (both_cs h)
      refine ⟨unevenZ xs * unevenZ ys - bothZ xs ys * (if bothZ xs ys < 0 then -bothZ xs ys else bothZ xs ys), unevenZ xs * unevenZ ys, hp, ?_, ?_, by simp, by simp, fun _ => ?_⟩
      · show (if unevenZ xs = 0 ∨ unevenZ ys = 0 then _ else _) = _
        rw [if_neg hz]
      · omega
      · omega
theorem far_nn {kd : Kd} {xs ys : List Int} (h : xs.length = ys.length) (h0 : 0 < xs.length) : lessZ (farZ kd xs ys) (0, 1) = false := by
  obtain ⟨t, b, hb, e, ht, _⟩ := far_ratio (kd := kd) h h0
  rw [e, less_made_l hb]
  simp
  omega
/-- far is below 10 to the 40, for rows within ten figures -/
theorem far_top {kd : Kd} {xs ys : List Int} (h : xs.length = ys.length) (h0 : 0 < xs.length) (hx : Row 10 xs) (hy : Row 10 ys) : lessZ (10 ^ 40, 1) (farZ kd xs ys) = false := by
  obtain ⟨t, b, hb, e, ht, hp, hm, hs⟩ := far_ratio (kd := kd) h h0
  rw [e, less_made_r hb]
  have hd := hx.diff hy
  have sq : Bn (2 * (10 + 1) + 2) ((diffZ xs ys).map fun d => d * d).sum := by
    refine Bn.sum ?_ (by simpa using hd.2)
    intro z hz
    obtain ⟨y, h, rfl⟩ := List.mem_map.mp hz
    have := (hd.1 y h).mul (hd.1 y h)
    exact this
  have h10 : (10 : Int) ^ 39 ≤ 10 ^ 40 := by decide
  have h11 : (2 : Int) ≤ 10 ^ 40 := by decide
  have ht : t ≤ 10 ^ 40 * b := by
    have one : (10 : Int) ^ 40 * 1 ≤ 10 ^ 40 * b := Int.mul_le_mul_of_nonneg_left (by omega) (by omega)
    cases kd with
    | pl =>
      rw [hp rfl]
      have := (sq.mono (show _ ≤ 40 by decide)).2
      omega
    | mo =>
      rw [hm rfl]
      unfold unevenZ
      have a := (Bn.nat hd.2).mul sq
      have b := sq_nn (diffZ xs ys).sum
      have c := (a.mono (show _ ≤ 39 by decide)).2
      omega
    | sh =>
      have := hs rfl
      have : (2 : Int) * b ≤ 10 ^ 40 * b := Int.mul_le_mul_of_nonneg_right h11 (by omega)
      omega
  generalize (10 : Int) ^ 40 = T at *
  simp
  omega
end Rw
end PRwCau
section PRwTurn
set_option autoImplicit false
set_option linter.all false
set_option maxRecDepth 100000
/-! RwTurn: far of rows that are turned about, shifted, scaled. -/
namespace Rw
theorem sum_rev {xs : List Int} : xs.reverse.sum = xs.sum := by
  induction xs with
  | nil => rfl
  | cons x xs ih => rw [List.reverse_cons, List.sum_append, ih, List.sum_cons]; simp; omega
theorem uneven_rev {xs : List Int} : unevenZ xs.reverse = unevenZ xs := by
  unfold unevenZ
  rw [List.length_reverse, sum_rev, List.map_reverse, sum_rev]
theorem zip_rev : ∀ {xs ys : List Int}, xs.length = ys.length → xs.reverse.zip ys.reverse = (xs.zip ys).reverse
  | [], [], _ => rfl
  | x :: xs, y :: ys, h => by
    have h : xs.length = ys.length := by simpa using h
    rw [List.reverse_cons, List.reverse_cons, List.zip_append (by simpa using h), zip_rev h]
    simp
theorem far_rev {kd : Kd} {xs ys : List Int} (h : xs.length = ys.length) : farZ kd xs.reverse ys.reverse = farZ kd xs ys := by
  have hd : diffZ xs.reverse ys.reverse = (diffZ xs ys).reverse := by
    unfold diffZ
    rw [zip_rev h, List.map_reverse]
  have hb : bothZ xs.reverse ys.reverse = bothZ xs ys := by
    unfold bothZ dotZ
    rw [zip_rev h, List.map_reverse, sum_rev, sum_rev, sum_rev, List.length_reverse]
  cases kd with
  | pl =>
    show madeZ ((diffZ xs.reverse ys.reverse).map fun d => d * d).sum xs.reverse.length = madeZ ((diffZ xs ys).map fun d => d * d).sum xs.length
    rw [hd, List.map_reverse, sum_rev, List.length_reverse]
  | mo =>
    show madeZ (unevenZ (diffZ xs.reverse ys.reverse)) ((xs.reverse.length : Int) * xs.reverse.length) = madeZ (unevenZ (diffZ xs ys)) ((xs.length : Int) * xs.length)
    rw [hd, uneven_rev, List.length_reverse]
  | sh => simp only [farZ, uneven_rev, hb]
theorem sum_shift (c : Int) {xs : List Int} : (xs.map (· + c)).sum = xs.sum + xs.length * c := by
  induction xs with
  | nil => simp
  | cons x xs ih => simp only [List.map_cons, List.sum_cons, List.length_cons, ih]; push_cast; grind
theorem sqs_shift (c : Int) {xs : List Int} : ((xs.map (· + c)).map fun x => x * x).sum = (xs.map fun x => x * x).sum + 2 * c * xs.sum + xs.length * (c * c) := by
  induction xs with
  | nil => simp
  | cons x xs ih =>
    simp only [List.map_cons, List.sum_cons, List.length_cons, ih]
    push_cast
    grind
theorem uneven_shift (c : Int) {xs : List Int} : unevenZ (xs.map (· + c)) = unevenZ xs := by
  unfold unevenZ
  rw [sqs_shift, sum_shift, List.length_map]
  generalize (xs.length : Int) = n
  generalize (xs.map fun x => x * x).sum = a
  grind
theorem dot_shift (c : Int) : ∀ {xs ys : List Int}, xs.length = ys.length → dotZ (xs.map (· + c)) (ys.map (· + c)) = dotZ xs ys + c * xs.sum + c * ys.sum + xs.length * (c * c)
  | [], [], _ => by simp [dotZ]
  | x :: xs, y :: ys, h => by
    have ih := dot_shift c (xs := xs) (ys := ys) (by simpa using h)
    unfold dotZ at *
    simp only [List.map_cons, List.zip_cons_cons, List.sum_cons, List.length_cons, ih]
    push_cast
    grind
theorem both_shift (c : Int) {xs ys : List Int} (h : xs.length = ys.length) : bothZ (xs.map (· + c)) (ys.map (· + c)) = bothZ xs ys := by
  unfold bothZ
  rw [dot_shift c h, sum_shift, sum_shift, List.length_map, ← h]
  generalize (xs.length : Int) = n
  grind
theorem diff_shift (c : Int) : ∀ {xs ys : List Int}, diffZ (xs.map (· + c)) (ys.map (· + c)) = diffZ xs ys
  | [], _ => by simp [diffZ]
  | _ :: _, [] => by simp [diffZ]
  | x :: xs, y :: ys => by
    have ih := diff_shift c (xs := xs) (ys := ys)
    unfold diffZ at *
    simp only [List.map_cons, List.zip_cons_cons, ih]
    congr 1
    omega
theorem far_shift (c : Int) {kd : Kd} {xs ys : List Int} (h : xs.length = ys.length) : farZ kd (xs.map (· + c)) (ys.map (· + c)) = farZ kd xs ys := by
  cases kd with
  | pl => simp only [farZ, diff_shift, List.length_map]
  | mo => simp only [farZ, diff_shift, List.length_map]
  | sh => simp only [farZ, uneven_shift, both_shift c h]
theorem sum_scale (c : Int) {xs : List Int} : (xs.map (c * ·)).sum = c * xs.sum := by
  induction xs with
  | nil => simp
  | cons x xs ih => simp only [List.map_cons, List.sum_cons, ih]; grind
theorem sqs_scale (c : Int) {xs : List Int} : ((xs.map (c * ·)).map fun x => x * x).sum = c * c * (xs.map fun x => x * x).sum := by
  induction xs with
  | nil => simp
  | cons x xs ih => simp only [List.map_cons, List.sum_cons, ih]; grind
theorem uneven_scale (c : Int) {xs : List Int} : unevenZ (xs.map (c * ·)) = c * c * unevenZ xs := by
  unfold unevenZ
  rw [sqs_scale, sum_scale, List.length_map]
  generalize (xs.map fun x => x * x).sum = a
  grind
theorem dot_scale (c : Int) : ∀ {xs ys : List Int}, dotZ (xs.map (c * ·)) (ys.map (c * ·)) = c * c * dotZ xs ys
  | [], _ => by simp [dotZ]
  | _ :: _, [] => by simp [dotZ]
  | x :: xs, y :: ys => by
    have ih := dot_scale c (xs := xs) (ys := ys)
    unfold dotZ at *
    simp only [List.map_cons, List.zip_cons_cons, List.sum_cons, ih]
    grind
theorem both_scale (c : Int) {xs ys : List Int} : bothZ (xs.map (c * ·)) (ys.map (c * ·)) = c * c * bothZ xs ys := by
  unfold bothZ
  rw [dot_scale, sum_scale, sum_scale, List.length_map]
  grind
theorem diff_scale (c : Int) : ∀ {xs ys : List Int}, diffZ (xs.map (c * ·)) (ys.map (c * ·)) = (diffZ xs ys).map (c * ·)
  | [], _ => by simp [diffZ]
  | _ :: _, [] => by simp [diffZ]
  | x :: xs, y :: ys => by
    have ih := diff_scale c (xs := xs) (ys := ys)
    unfold diffZ at *
    simp only [List.map_cons, List.zip_cons_cons, ih]
    congr 1
    grind
/-- a far of rows that are c times as great -/
def grow (kd : Kd) (c : Int) (f : Int × Int) : Int × Int := match kd with
  | .sh => f
  | _ => madeZ (c * c * f.1) f.2
theorem grow_made {c t b : Int} (h : 0 < b) : madeZ (c * c * t) b = madeZ (c * c * (madeZ t b).1) (madeZ t b).2 := by
  obtain ⟨g, g0, e1, e2⟩ := made_spec (t := t) h
  have hp := made_pos (t := t) h
  generalize madeZ t b = m at *
  refine made_eq_of h hp ?_
  subst e1
  subst e2
  grind
theorem far_scale {c : Int} (hc : c ≠ 0) {kd : Kd} {xs ys : List Int} (h0 : 0 < xs.length) : farZ kd (xs.map (c * ·)) (ys.map (c * ·)) = grow kd c (farZ kd xs ys) := by
  have hl : (0 : Int) < (xs.length : Int) := by omega
  have hc2 : 0 < c * c := by
    have := sq_nn c
    have : c * c ≠ 0 := Int.mul_ne_zero hc hc
    omega
  cases kd with
  | pl =>
    show madeZ ((diffZ (xs.map (c * ·)) (ys.map (c * ·))).map fun d => d * d).sum (xs.map (c * ·)).length = madeZ (c * c * (madeZ ((diffZ xs ys).map fun d => d * d).sum xs.length).1) (madeZ ((diffZ xs ys).map fun d => d * d).sum xs.length).2
    rw [← grow_made hl, diff_scale, sqs_scale, List.length_map]
  | mo =>
    show madeZ (unevenZ (diffZ (xs.map (c * ·)) (ys.map (c * ·)))) (((xs.map (c * ·)).length : Int) * (xs.map (c * ·)).length) = madeZ (c * c * (madeZ (unevenZ (diffZ xs ys)) ((xs.length : Int) * xs.length)).1) (madeZ (unevenZ (diffZ xs ys)) ((xs.length : Int) * xs.length)).2
    rw [← grow_made (Int.mul_pos hl hl), diff_scale, uneven_scale, List.length_map]
  | sh =>
    have z : ∀ U : Int, c * c * U = 0 ↔ U = 0 := by
      intro U
      constructor
      · intro h
        rcases Int.mul_eq_zero.mp h with h | h
        · omega
        · exact h
      · intro h; rw [h, Int.mul_zero]
    show (if unevenZ (xs.map (c * ·)) = 0 ∨ unevenZ (ys.map (c * ·)) = 0 then (if unevenZ (xs.map (c * ·)) = unevenZ (ys.map (c * ·)) then (0, 1) else (1, 1)) else madeZ (unevenZ (xs.map (c * ·)) * unevenZ (ys.map (c * ·)) - bothZ (xs.map (c * ·)) (ys.map (c * ·)) * (if bothZ (xs.map (c * ·)) (ys.map (c * ·)) < 0 then -bothZ (xs.map (c * ·)) (ys.map (c * ·)) else bothZ (xs.map (c * ·)) (ys.map (c * ·)))) (unevenZ (xs.map (c * ·)) * unevenZ (ys.map (c * ·))))
      = (if unevenZ xs = 0 ∨ unevenZ ys = 0 then (if unevenZ xs = unevenZ ys then (0, 1) else (1, 1)) else madeZ (unevenZ xs * unevenZ ys - bothZ xs ys * (if bothZ xs ys < 0 then -bothZ xs ys else bothZ xs ys)) (unevenZ xs * unevenZ ys))
    rw [uneven_scale, uneven_scale, both_scale]
    simp only [z]
    by_cases h1 : unevenZ xs = 0 ∨ unevenZ ys = 0
    · rw [if_pos h1, if_pos h1]
      have : (c * c * unevenZ xs = c * c * unevenZ ys) ↔ unevenZ xs = unevenZ ys := ⟨fun h => Int.eq_of_mul_eq_mul_left (by omega) h, fun h => by rw [h]⟩
      simp only [this]
    · rw [if_neg h1, if_neg h1]
      have hu := uneven_pos fun h => h1 (.inl h)
      have hv := uneven_pos fun h => h1 (.inr h)
      have hs : (c * c * bothZ xs ys < 0) ↔ bothZ xs ys < 0 := by
        constructor
        · intro h
          by_cases hb : bothZ xs ys < 0
          · exact hb
          · have := Int.mul_nonneg (Int.le_of_lt hc2) (show 0 ≤ bothZ xs ys by omega)
            omega
        · intro h
          exact Int.mul_neg_of_pos_of_neg hc2 h
      simp only [hs]
      refine made_eq_of (Int.mul_pos (Int.mul_pos hc2 hu) (Int.mul_pos hc2 hv)) (Int.mul_pos hu hv) ?_
      generalize unevenZ xs = U
      generalize unevenZ ys = V
      generalize bothZ xs ys = B
      split <;> grind
theorem grow_less {kd : Kd} {c : Int} (hc : c ≠ 0) {f g : Int × Int} (hf : 0 < f.2) (hg : 0 < g.2) : lessZ (grow kd c f) (grow kd c g) = lessZ f g := by
  have hc2 : 0 < c * c := by
    have := sq_nn c
    have : c * c ≠ 0 := Int.mul_ne_zero hc hc
    omega
  have key : lessZ (madeZ (c * c * f.1) f.2) (madeZ (c * c * g.1) g.2) = lessZ f g := by
    rw [less_made_r hg]
    have e : decide ((madeZ (c * c * f.1) f.2).1 * g.2 < c * c * g.1 * (madeZ (c * c * f.1) f.2).2) = lessZ (madeZ (c * c * f.1) f.2) (c * c * g.1, g.2) := rfl
    rw [e, less_made_l hf]
    unfold lessZ
    congr 1
    apply propext
    simp only
    rw [Int.mul_assoc (c * c), Int.mul_assoc (c * c)]
    exact Int.mul_lt_mul_left hc2
  cases kd with
  | sh => rfl
  | pl => exact key
  | mo => exact key
/-! ### stretches of rows that are changed -/
theorem stretches_map {f : Int → Int} {xs : List Int} {l : Nat} : stretchesZ (xs.map f) l = (stretchesZ xs l).map (List.map f) := by
  simp [stretchesZ, cutZ, List.map_drop, List.map_take, Function.comp_def]
theorem nth_map {f : Int → Int} {ss : List (List Int)} {p : Nat} : nthZ (ss.map (List.map f)) p = (nthZ ss p).map f := by
  unfold nthZ
  rw [List.getD_eq_getElem?_getD, List.getD_eq_getElem?_getD, List.getElem?_map]
  cases ss[p]? <;> rfl
theorem nth_rev {xs : List Int} {l p : Nat} (h : p < xs.length + 1 - l) (hl : 0 < l) : nthZ (stretchesZ xs.reverse l) p = (nthZ (stretchesZ xs l) (xs.length + 1 - l - 1 - p)).reverse := by
  rw [nth_stretch (by simpa using h), nth_stretch (by omega)]
  unfold cutZ
  rw [List.drop_reverse, List.take_reverse, List.drop_take]
  congr 2
  · simp; omega
  · simp; congr 1; omega
theorem nearTo_map {kd : Kd} {ss ss' : List (List Int)} {gap p : Nat} {φ : Int × Int → Int × Int} (hp : ∀ q, q < ss.length → 0 < (farAt kd ss p q).2) (he : ∀ q, q < ss.length → farAt kd ss' p q = φ (farAt kd ss p q)) (hl : ∀ f g : Int × Int, 0 < f.2 → 0 < g.2 → lessZ (φ f) (φ g) = lessZ f g) :
    ∀ n, n ≤ ss.length → nearTo kd ss' gap p n = (nearTo kd ss gap p n).map (fun x => (φ x.1, x.2)) ∧ ∀ x, nearTo kd ss gap p n = some x → 0 < x.1.2
  | 0, _ => ⟨rfl, by intro x h; cases h⟩
  | n + 1, hn => by
    obtain ⟨ih, ip⟩ := nearTo_map (gap := gap) hp he hl n (by omega)
    have hq := hp n (by omega)
    simp only [nearTo]
    rw [ih, he n (by omega)]
    split
    · cases e : nearTo kd ss gap p n with
      | none =>
        refine ⟨rfl, ?_⟩
        intro x hx
        simp only [stepZ, Option.some.injEq] at hx
        subst hx
        exact hq
      | some y =>
        have hy := ip y e
        simp only [Option.map_some, stepZ, hl _ _ hq hy]
        constructor
        · split <;> rfl
        · intro x hx
          split at hx
          · cases hx; exact hq
          · cases hx; exact hy
    · exact ⟨rfl, ip⟩
theorem min_set {π : Type} {L L' : List ((Int × Int) × π)} (hL : ∀ x ∈ L, Low x.1) (hL' : ∀ x ∈ L', Low x.1) (h : ∀ x ∈ L, ∃ y ∈ L', y.1 = x.1) (h' : ∀ y ∈ L', ∃ x ∈ L, x.1 = y.1) : (minOf L).map (·.1) = (minOf L').map (·.1) := by
  have p := fun x hx => (hL x hx).1
  have p' := fun x hx => (hL' x hx).1
  cases e : minOf L with
  | none =>
    have := (minOf_none p).mp e
    subst this
    cases e' : minOf L' with
    | none => rfl
    | some y =>
      obtain ⟨x, hx, _⟩ := h' y (minOf_some p' e').mem
      cases hx
  | some x =>
    have m := minOf_some p e
    cases e' : minOf L' with
    | none =>
      have := (minOf_none p').mp e'
      subst this
      obtain ⟨y, hy, _⟩ := h x m.mem
      cases hy
    | some y =>
      have m' := minOf_some p' e'
      obtain ⟨y1, hy1, ey⟩ := h x m.mem
      obtain ⟨x1, hx1, ex⟩ := h' y m'.mem
      have a := m'.le hy1
      have b := m.le hx1
      rw [ey] at a
      rw [ex] at b
      simp only [Option.map_some]
      rw [low_same (hL x m.mem) (hL' y m'.mem) a b]
theorem candN_mem {kd : Kd} {ss : List (List Int)} {gap p n : Nat} {x : (Int × Int) × Nat} : x ∈ candN kd ss gap p n ↔ x.2 < n ∧ gap ≤ (x.2 - p) + (p - x.2) ∧ x.1 = farAt kd ss p x.2 := by
  unfold candN
  rw [List.mem_filterMap]
  constructor
  · rintro ⟨q, hq, e⟩
    split at e
    · next hg => cases e; exact ⟨List.mem_range.mp hq, hg, rfl⟩
    · cases e
  · rintro ⟨h1, h2, h3⟩
    refine ⟨x.2, List.mem_range.mpr h1, ?_⟩
    rw [if_pos h2, ← h3]
theorem near_cand {kd : Kd} {ss : List (List Int)} {gap p : Nat} : nearZ kd ss gap p = minOf (candN kd ss gap p ss.length) := nearTo_min
theorem candN_low {kd : Kd} {ss : List (List Int)} {gap p n : Nat} (hs : ∀ s ∈ ss, 0 < s.length) (hp : p < ss.length) : ∀ x ∈ candN kd ss gap p n, Low x.1 := by
  intro x hx
  rw [(candN_mem.mp hx).2.2]
  exact farAt_low hs hp
/-- the far of a row of the table, without the place -/
def farO : Option ((Int × Int) × Nat) → D
  | none => .non
  | some x => frD x.1
def farP : Option (Int × Int) → D
  | none => .non
  | some x => frD x
theorem farO_map {b : Option ((Int × Int) × Nat)} : farO b = farP (b.map (·.1)) := by cases b <;> rfl
theorem near_rev {k : Nat} {kd : Kd} {xs : List Int} {gap l p : Nat} (hx : Row k xs) (hl : 0 < l) (hp : p < xs.length + 1 - l) : farO (nearZ kd (stretchesZ xs.reverse l) gap p) = farO (nearZ kd (stretchesZ xs l) gap (xs.length + 1 - l - 1 - p)) := by
  have hs := stretches_fine hx hl
  have hs' := stretches_fine (row_rev hx) hl
  have n1 : (stretchesZ xs l).length = xs.length + 1 - l := stretches_len
  have n2 : (stretchesZ xs.reverse l).length = xs.length + 1 - l := by rw [stretches_len, List.length_reverse]
  have hf : ∀ q, q < xs.length + 1 - l → farAt kd (stretchesZ xs.reverse l) p q = farAt kd (stretchesZ xs l) (xs.length + 1 - l - 1 - p) (xs.length + 1 - l - 1 - q) := by
    intro q hq
    unfold farAt
    rw [nth_rev hp hl, nth_rev hq hl]
    obtain ⟨w, hw⟩ := stretches_even (xs := xs) (l := l)
    exact far_rev (by rw [hw _ (getD_mem (by omega)), hw _ (getD_mem (by omega))])
  rw [farO_map, farO_map, near_cand, near_cand, n1, n2]
  congr 1
  refine min_set (candN_low (fun s h => (hs'.1 s h).2) (by omega)) (candN_low (fun s h => (hs.1 s h).2) (by omega)) ?_ ?_
  · intro x hx
    obtain ⟨h1, h2, h3⟩ := candN_mem.mp hx
    refine ⟨(x.1, xs.length + 1 - l - 1 - x.2), candN_mem.mpr ⟨by simp only; omega, by simp only; omega, ?_⟩, rfl⟩
    rw [h3, hf _ h1]
  · intro x hx
    obtain ⟨h1, h2, h3⟩ := candN_mem.mp hx
    refine ⟨(x.1, xs.length + 1 - l - 1 - x.2), candN_mem.mpr ⟨by simp only; omega, by simp only; omega, ?_⟩, rfl⟩
    simp only
    rw [hf _ (by omega), h3]
    congr 1
    omega
theorem table_rev {k : Nat} {kd : Kd} {xs : List Int} {gap l : Nat} (hx : Row k xs) (hl : 0 < l) : (tableZ kd xs.reverse gap l).map farO = ((tableZ kd xs gap l).map farO).reverse := by
  have n1 : (stretchesZ xs l).length = xs.length + 1 - l := stretches_len
  have n2 : (stretchesZ xs.reverse l).length = xs.length + 1 - l := by rw [stretches_len, List.length_reverse]
  apply List.ext_getElem
  · simp [tableZ_len]
  · intro i h1 h2
    have hi : i < xs.length + 1 - l := by simpa [tableZ_len] using h1
    simp only [tableZ, n1, n2, List.getElem_map, List.getElem_reverse, List.getElem_range, List.length_map, List.length_range]
    exact near_rev hx hl hi
theorem near_wide {kd : Kd} {ss : List (List Int)} {gap gap' p : Nat} (hs : ∀ s ∈ ss, 0 < s.length) (hp : p < ss.length) (hg : gap ≤ gap') : (nearZ kd ss gap p = none → nearZ kd ss gap' p = none) ∧ ∀ x y, nearZ kd ss gap p = some x → nearZ kd ss gap' p = some y → lessZ y.1 x.1 = false := by
  have p1 := fun x hx => (candN_low (kd := kd) (gap := gap) (n := ss.length) hs hp x hx).1
  have p2 := fun x hx => (candN_low (kd := kd) (gap := gap') (n := ss.length) hs hp x hx).1
  have sub : ∀ x ∈ candN kd ss gap' p ss.length, x ∈ candN kd ss gap p ss.length := by
    intro x hx
    obtain ⟨h1, h2, h3⟩ := candN_mem.mp hx
    exact candN_mem.mpr ⟨h1, by omega, h3⟩
  rw [near_cand, near_cand]
  constructor
  · intro h
    have e := (minOf_none p1).mp h
    refine (minOf_none p2).mpr ?_
    cases e2 : candN kd ss gap' p ss.length with
    | nil => rfl
    | cons x L =>
      have := sub x (by rw [e2]; simp)
      rw [e] at this
      cases this
  · intro x y h1 h2
    exact (minOf_some p1 h1).le (sub y (minOf_some p2 h2).mem)
theorem table_map {k : Nat} {kd : Kd} {f : Int → Int} {φ : Int × Int → Int × Int} {xs : List Int} {gap l : Nat} (hx : Row k xs) (hl : 0 < l) (he : ∀ as bs : List Int, as.length = bs.length → 0 < as.length → farZ kd (as.map f) (bs.map f) = φ (farZ kd as bs))
    (hle : ∀ a b : Int × Int, 0 < a.2 → 0 < b.2 → lessZ (φ a) (φ b) = lessZ a b) : tableZ kd (xs.map f) gap l = (tableZ kd xs gap l).map (Option.map fun x => (φ x.1, x.2)) := by
  have hs := stretches_fine hx hl
  unfold tableZ
  rw [List.map_map, stretches_map, List.length_map]
  apply List.map_congr_left
  intro p hp
  have hp := List.mem_range.mp hp
  obtain ⟨w, hw⟩ := stretches_even (xs := xs) (l := l)
  simp only [Function.comp_apply, nearZ, List.length_map]
  refine (nearTo_map (φ := φ) (fun q hq => (farAt_low (fun s h => (hs.1 s h).2) hp).1) ?_ hle _ (Nat.le_refl _)).1
  intro q hq
  unfold farAt
  rw [nth_map, nth_map]
  exact he _ _ (by rw [hw _ (getD_mem hp), hw _ (getD_mem hq)]) (hs.1 _ (getD_mem hp)).2
theorem table_shift {k : Nat} {kd : Kd} {xs : List Int} {gap l : Nat} (c : Int) (hx : Row k xs) (hl : 0 < l) : tableZ kd (xs.map (· + c)) gap l = tableZ kd xs gap l := by
  rw [table_map (φ := id) hx hl (fun as bs h _ => far_shift c h) (fun _ _ _ _ => rfl)]
  simp
theorem table_scale {k : Nat} {kd : Kd} {xs : List Int} {gap l : Nat} {c : Int} (hc : c ≠ 0) (hx : Row k xs) (hl : 0 < l) : tableZ kd (xs.map (c * ·)) gap l = (tableZ kd xs gap l).map (Option.map fun x => (grow kd c x.1, x.2)) :=
  table_map hx hl (fun as bs h h0 => far_scale hc h0) (fun a b ha hb => grow_less hc ha hb)
end Rw
end PRwTurn
section PRwSpan
set_option autoImplicit false
set_option linter.all false
set_option maxRecDepth 100000
/-! RwSpan: the nearest two and the loneliest of rows that are turned about, shifted, scaled. -/
namespace Rw
abbrev Bst := (Int × Int) × (Nat × Nat)
def fo (b : Option Bst) : Option (Int × Int) := b.map (·.1)
/-- both, from the table alone -/
def pairT (T : List (Option ((Int × Int) × Nat))) : Option Bst := minOf (candL T (List.range T.length))
def loneT (T : List (Option ((Int × Int) × Nat))) : Option Bst := loneZ T (List.range T.length)
theorem pair_T {k : Nat} {kd : Kd} {xs : List Int} {gap l : Nat} (hx : Row k xs) (hl : 0 < l) (g0 : 1 ≤ gap) : pairZ kd (stretchesZ xs l) gap (List.range (stretchesZ xs l).length) = pairT (tableZ kd xs gap l) := by
  have hs := stretches_fine hx hl
  have hn : (tableZ kd xs gap l).length = (stretchesZ xs l).length := by rw [tableZ_len, stretches_len]
  unfold pairT
  rw [hn, candL_table, pair_table (fun s h => (hs.1 s h).2) stretches_even g0]
theorem max_set {π : Type} {L L' : List ((Int × Int) × π)} (hL : ∀ x ∈ L, Low x.1) (hL' : ∀ x ∈ L', Low x.1) (h : ∀ x ∈ L, ∃ y ∈ L', y.1 = x.1) (h' : ∀ y ∈ L', ∃ x ∈ L, x.1 = y.1) : (L.foldl maxStep none).map (·.1) = (L'.foldl maxStep none).map (·.1) := by
  have e1 : minOf (L.map negX) = (L.foldl maxStep none).map negX := maxOf_neg (s := none)
  have e2 : minOf (L'.map negX) = (L'.foldl maxStep none).map negX := maxOf_neg (s := none)
  have lo : ∀ f : Int × Int, Low f → Low (-f.1, f.2) := fun f hf => ⟨hf.1, by show Int.gcd (-f.1) f.2 = 1; rw [Int.neg_gcd]; exact hf.2⟩
  have key := min_set (L := L.map negX) (L' := L'.map negX) (by
    intro x hx
    obtain ⟨y, hy, rfl⟩ := List.mem_map.mp hx
    exact lo _ (hL y hy)) (by
    intro x hx
    obtain ⟨y, hy, rfl⟩ := List.mem_map.mp hx
    exact lo _ (hL' y hy)) (by
    intro x hx
    obtain ⟨y, hy, rfl⟩ := List.mem_map.mp hx
    obtain ⟨z, hz, e⟩ := h y hy
    exact ⟨negX z, List.mem_map_of_mem hz, by simp [negX, e]⟩) (by
    intro x hx
    obtain ⟨y, hy, rfl⟩ := List.mem_map.mp hx
    obtain ⟨z, hz, e⟩ := h' y hy
    exact ⟨negX z, List.mem_map_of_mem hz, by simp [negX, e]⟩)
  rw [e1, e2] at key
  cases a : L.foldl maxStep none with
  | none =>
    cases b : L'.foldl maxStep none with
    | none => rfl
    | some y => rw [a, b] at key; cases key
  | some x =>
    cases b : L'.foldl maxStep none with
    | none => rw [a, b] at key; cases key
    | some y =>
      rw [a, b] at key
      simp only [Option.map_some, negX, Option.some.injEq, Prod.mk.injEq] at key ⊢
      exact Prod.ext (by omega) key.2
def LowT (T : List (Option ((Int × Int) × Nat))) : Prop := ∀ p f r, rowAt T p = some (f, r) → Low f
theorem low_T {k : Nat} {kd : Kd} {xs : List Int} {gap l : Nat} (hx : Row k xs) (hl : 0 < l) : LowT (tableZ kd xs gap l) := fun p f r h => tab_low hx hl h
theorem candT_low {T : List (Option ((Int × Int) × Nat))} (h : LowT T) {fr : List Nat} : ∀ x ∈ candL T fr, Low x.1 := fun x hx => h _ _ _ (candL_mem.mp hx).2
theorem farO_inj {a b : Option ((Int × Int) × Nat)} {f : Int × Int} {r : Nat} (h : farO a = farO b) (ha : a = some (f, r)) : ∃ r', b = some (f, r') := by
  subst ha
  cases b with
  | none => simp [farO, frD] at h
  | some y =>
    obtain ⟨⟨c, d⟩, r'⟩ := y
    simp [farO, frD] at h
    exact ⟨r', by rw [← h.1, ← h.2]⟩
/-- tables whose fars are turned about hold the same fars -/
theorem cand_rev {T T' : List (Option ((Int × Int) × Nat))} (h : T'.map farO = (T.map farO).reverse) : ∀ x ∈ candL T' (List.range T'.length), ∃ y ∈ candL T (List.range T.length), y.1 = x.1 := by
  intro x hx
  have hl : T'.length = T.length := by
    have := congrArg List.length h
    simpa using this
  obtain ⟨h1, h2⟩ := candL_mem.mp hx
  have h1 := List.mem_range.mp h1
  have e : farO (rowAt T' x.2.1) = farO (rowAt T (T.length - 1 - x.2.1)) := by
    have := congrArg (fun l => l[x.2.1]?) h
    simp only [List.getElem?_map] at this
    rw [List.getElem?_reverse (by simpa using (by omega : x.2.1 < T.length))] at this
    simp only [List.getElem?_map, List.length_map] at this
    unfold rowAt
    rw [List.getD_eq_getElem?_getD, List.getD_eq_getElem?_getD]
    rw [List.getElem?_eq_getElem h1, List.getElem?_eq_getElem (by omega)] at this ⊢
    simpa using this
  obtain ⟨r', hr⟩ := farO_inj e h2
  exact ⟨(x.1, T.length - 1 - x.2.1, r'), candL_mem.mpr ⟨List.mem_range.mpr (by simp only; omega), hr⟩, rfl⟩
theorem both_rev {T T' : List (Option ((Int × Int) × Nat))} (hT : LowT T) (hT' : LowT T') (h : T'.map farO = (T.map farO).reverse) : fo (pairT T') = fo (pairT T) ∧ fo (loneT T') = fo (loneT T) := by
  have h' : T.map farO = (T'.map farO).reverse := by rw [h, List.reverse_reverse]
  constructor
  · exact min_set (candT_low hT') (candT_low hT) (cand_rev h) (fun y hy => cand_rev h' y hy)
  · unfold loneT
    rw [loneZ_fold, loneZ_fold]
    exact max_set (candT_low hT') (candT_low hT) (cand_rev h) (fun y hy => cand_rev h' y hy)
theorem step_map {π : Type} {φ : Int × Int → Int × Int} (hle : ∀ a b : Int × Int, 0 < a.2 → 0 < b.2 → lessZ (φ a) (φ b) = lessZ a b) {L : List ((Int × Int) × π)} : ∀ {s : Option ((Int × Int) × π)}, (∀ x, s = some x → 0 < x.1.2) → (∀ x ∈ L, 0 < x.1.2) →
    (L.map fun x => (φ x.1, x.2)).foldl minStep (s.map fun x => (φ x.1, x.2)) = (L.foldl minStep s).map (fun x => (φ x.1, x.2)) ∧ (L.map fun x => (φ x.1, x.2)).foldl maxStep (s.map fun x => (φ x.1, x.2)) = (L.foldl maxStep s).map (fun x => (φ x.1, x.2)) := by
  induction L with
  | nil => intro s _ _; exact ⟨rfl, rfl⟩
  | cons y L ih =>
    intro s hs hL
    have hy := hL y (by simp)
    have hL' : ∀ x ∈ L, 0 < x.1.2 := fun x hx => hL x (by simp [hx])
    have p1 : ∀ x, minStep s y = some x → 0 < x.1.2 := minStep_pos hs hy
    have p2 : ∀ x, maxStep s y = some x → 0 < x.1.2 := by
      intro x hx
      cases s with
      | none => cases hx; exact hy
      | some g =>
        simp only [maxStep] at hx
        split at hx
        · cases hx; exact hy
        · cases hx; exact hs _ rfl
    have i1 := (ih p1 hL').1
    have i2 := (ih p2 hL').2
    simp only [List.map_cons, List.foldl_cons]
    refine ⟨?_, ?_⟩
    · rw [← i1]
      congr 1
      cases s with
      | none => rfl
      | some g =>
        simp only [Option.map_some, minStep, hle _ _ hy (hs g rfl)]
        split <;> rfl
    · rw [← i2]
      congr 1
      cases s with
      | none => rfl
      | some g =>
        simp only [Option.map_some, maxStep, hle _ _ (hs g rfl) hy]
        split <;> rfl
theorem cand_map {φ : Int × Int → Int × Int} {T : List (Option ((Int × Int) × Nat))} {fr : List Nat} : candL (T.map (Option.map fun x => (φ x.1, x.2))) fr = (candL T fr).map fun x => (φ x.1, x.2) := by
  unfold candL
  rw [List.map_filterMap]
  congr 1
  funext p
  have : rowAt (T.map (Option.map fun x : (Int × Int) × Nat => (φ x.1, x.2))) p = (rowAt T p).map fun x => (φ x.1, x.2) := by
    unfold rowAt
    rw [List.getD_eq_getElem?_getD, List.getD_eq_getElem?_getD, List.getElem?_map]
    cases T[p]? <;> rfl
  rw [this]
  cases rowAt T p <;> rfl
theorem both_map {φ : Int × Int → Int × Int} (hle : ∀ a b : Int × Int, 0 < a.2 → 0 < b.2 → lessZ (φ a) (φ b) = lessZ a b) {T : List (Option ((Int × Int) × Nat))} (hT : LowT T) :
    fo (pairT (T.map (Option.map fun x => (φ x.1, x.2)))) = (fo (pairT T)).map φ ∧ fo (loneT (T.map (Option.map fun x => (φ x.1, x.2)))) = (fo (loneT T)).map φ := by
  have hp : ∀ x ∈ candL T (List.range T.length), 0 < x.1.2 := fun x hx => (candT_low hT x hx).1
  have s := step_map hle (L := candL T (List.range T.length)) (s := none) (by intro x h; cases h) hp
  unfold pairT loneT fo minOf
  rw [loneZ_fold, loneZ_fold, List.length_map, cand_map]
  refine ⟨?_, ?_⟩
  · have := s.1
    simp only [Option.map_none] at this
    rw [this, Option.map_map, Option.map_map]
    rfl
  · have := s.2
    simp only [Option.map_none] at this
    rw [this, Option.map_map, Option.map_map]
    rfl
theorem grow_neg {kd : Kd} {f : Int × Int} (h : Low f) : grow kd (-1) f = f := by
  have e : madeZ ((-1) * (-1) * f.1) f.2 = f := by
    refine low_same (made_low h.1) h ?_ ?_
    · rw [less_made_l h.1]; simp
    · rw [less_made_r h.1]; simp
  cases kd with
  | sh => rfl
  | pl => exact e
  | mo => exact e
/-- a far as told, times a number -/
def vD (by' : Int) : Option (Int × Int) → D
  | none => .non
  | some f => frD (madeZ (f.1 * by') f.2)
theorem made_one {f : Int × Int} (h : Low f) : madeZ (f.1 * 1) f.2 = f := by
  refine low_same (made_low h.1) h ?_ ?_
  · rw [less_made_l h.1]; simp
  · rw [less_made_r h.1]; simp
def byZ (kd : Kd) (c : Int) : Int := match kd with
  | .sh => 1
  | _ => c * c
theorem vD_grow {kd : Kd} {c : Int} {b : Option (Int × Int)} (h : ∀ f, b = some f → Low f) : vD 1 (b.map (grow kd c)) = vD (byZ kd c) b := by
  cases b with
  | none => rfl
  | some f =>
    have hf := h f rfl
    simp only [Option.map_some, vD]
    cases kd with
    | sh => simp [grow, byZ]
    | pl =>
      have : Low (grow .pl c f) := made_low hf.1
      rw [made_one this]
      simp [grow, Int.mul_comm, byZ]
    | mo =>
      have : Low (grow .mo c f) := made_low hf.1
      rw [made_one this]
      simp [grow, Int.mul_comm, byZ]
theorem cut_succ {xs : List Int} {l p : Nat} (h : p + l < xs.length) : ∃ z, cutZ xs (l + 1) p = cutZ xs l p ++ [z] := by
  unfold cutZ
  rw [List.take_succ]
  have : (xs.drop p)[l]? = some ((xs.drop p)[l]'(by simp; omega)) := List.getElem?_eq_getElem _
  rw [this]
  exact ⟨_, rfl⟩
theorem sqs_grow {xs : List Int} {l p q : Nat} (hp : p + l < xs.length) (hq : q + l < xs.length) : ((diffZ (cutZ xs l p) (cutZ xs l q)).map fun d => d * d).sum ≤ ((diffZ (cutZ xs (l + 1) p) (cutZ xs (l + 1) q)).map fun d => d * d).sum := by
  obtain ⟨a, ea⟩ := cut_succ hp
  obtain ⟨b, eb⟩ := cut_succ hq
  have hl : (cutZ xs l p).length = (cutZ xs l q).length := by simp [cutZ]; omega
  rw [ea, eb]
  unfold diffZ
  rw [List.zip_append hl]
  simp
  have := sq_nn (a - b)
  omega
theorem pair_longer {xs : List Int} {gap l k : Nat} (hx : Row k xs) (hl : 0 < l) {x : Bst} (h : pairZ .pl (stretchesZ xs (l + 1)) gap (List.range (stretchesZ xs (l + 1)).length) = some x) :
    ∃ y, pairZ .pl (stretchesZ xs l) gap (List.range (stretchesZ xs l).length) = some y ∧ (l : Int) * y.1.1 * x.1.2 ≤ ((l : Int) + 1) * x.1.1 * y.1.2 ∧ 0 < y.1.2 := by
  have s1 := stretches_fine hx (show 0 < l + 1 by omega)
  have s0 := stretches_fine hx hl
  have n1 : (stretchesZ xs (l + 1)).length = xs.length + 1 - (l + 1) := stretches_len
  have n0 : (stretchesZ xs l).length = xs.length + 1 - l := stretches_len
  have pos0 := candP_pos (kd := .pl) (gap := gap) (fun s h => (s0.1 s h).2) (fr := List.range (stretchesZ xs l).length) (fun p hp => List.mem_range.mp hp)
  obtain ⟨h1, h2, h3, h4⟩ := candP_mem.mp (minOf_some (candP_pos (fun s h => (s1.1 s h).2) (fun p hp => List.mem_range.mp hp)) h).mem
  have h1 := List.mem_range.mp h1
  have h2 := List.mem_range.mp h2
  have hc : (farAt .pl (stretchesZ xs l) x.2.1 x.2.2, x.2.1, x.2.2) ∈ candP .pl (stretchesZ xs l) gap (List.range (stretchesZ xs l).length) :=
    candP_mem.mpr ⟨List.mem_range.mpr (by simp only; omega), List.mem_range.mpr (by simp only; omega), h3, rfl⟩
  cases e : pairZ .pl (stretchesZ xs l) gap (List.range (stretchesZ xs l).length) with
  | none =>
    rw [(minOf_none pos0).mp e] at hc
    cases hc
  | some y =>
    have m := minOf_some pos0 e
    have le := m.le hc
    have yp := pos0 y m.mem
    refine ⟨y, rfl, ?_, yp⟩
    simp only [farAt] at le h4
    rw [nth_stretch (by omega), nth_stretch (by omega)] at le h4
    have l1 : (cutZ xs (l + 1) x.2.1).length = l + 1 := by simp [cutZ]; omega
    have l0 : (cutZ xs l x.2.1).length = l := by simp [cutZ]; omega
    simp only [farZ, l1] at h4
    simp only [farZ, l0] at le
    have sg := sqs_grow (xs := xs) (l := l) (p := x.2.1) (q := x.2.2) (by omega) (by omega)
    generalize ((diffZ (cutZ xs l x.2.1) (cutZ xs l x.2.2)).map fun d => d * d).sum = S at *
    generalize ((diffZ (cutZ xs (l + 1) x.2.1) (cutZ xs (l + 1) x.2.2)).map fun d => d * d).sum = S' at *
    have b1 : (0 : Int) < ((l + 1 : Nat) : Int) := by omega
    rw [less_made_l (by omega)] at le
    simp only [decide_eq_false_iff_not] at le
    obtain ⟨g, g0, e1, e2⟩ := made_spec (t := S') b1
    have xp := made_pos (t := S') b1
    rw [h4]
    generalize madeZ S' ((l + 1 : Nat) : Int) = f at *
    have c1 : S' * f.2 = f.1 * ((l + 1 : Nat) : Int) := by rw [e2, e1]; grind
    have c2 : (l : Int) * y.1.1 ≤ S * y.1.2 := by rw [Int.mul_comm]; omega
    have c3 := Int.mul_le_mul_of_nonneg_right c2 (Int.le_of_lt xp)
    have c4 : S * y.1.2 * f.2 ≤ S' * y.1.2 * f.2 := Int.mul_le_mul_of_nonneg_right (Int.mul_le_mul_of_nonneg_right sg (Int.le_of_lt yp)) (Int.le_of_lt xp)
    have c5 : S' * y.1.2 * f.2 = ((l : Int) + 1) * f.1 * y.1.2 := by
      have : S' * y.1.2 * f.2 = S' * f.2 * y.1.2 := by grind
      rw [this, c1]
      push_cast
      grind
    omega
@[simp ↓] theorem ok_leT {a b c d : Int} {M : DSt} {P : Dv × DSt → Prop} : Ok (oLeT (.d (.tup [.int a, .int b])) (.d (.tup [.int c, .int d])) M) P ↔ P (.d (.bl (if a = c then decide (b ≤ d) else decide (a ≤ c))), M) := by
  show Ok (some _) P ↔ _
  simp
end Rw
end PRwSpan
section PRwAff
set_option autoImplicit false
set_option linter.all false
set_option maxRecDepth 100000
/-! RwAff: far where one side alone is shifted or scaled. -/
namespace Rw
theorem diff_two (c d : Int) : ∀ {xs ys : List Int}, diffZ (xs.map (· + c)) (ys.map (· + d)) = (diffZ xs ys).map (· + (c - d))
  | [], _ => by simp [diffZ]
  | _ :: _, [] => by simp [diffZ]
  | x :: xs, y :: ys => by
    have ih := diff_two c d (xs := xs) (ys := ys)
    unfold diffZ at *
    simp only [List.map_cons, List.zip_cons_cons, ih]
    congr 1
    omega
/-- moved: each side shifted by a number of its own -/
theorem far_mo_two (c d : Int) {xs ys : List Int} : farZ .mo (xs.map (· + c)) (ys.map (· + d)) = farZ .mo xs ys := by
  simp only [farZ, diff_two, uneven_shift, List.length_map]
theorem dot_aff (c d : Int) : ∀ {xs ys : List Int}, xs.length = ys.length → dotZ (xs.map fun x => c * x + d) ys = c * dotZ xs ys + d * ys.sum
  | [], [], _ => by simp [dotZ]
  | x :: xs, y :: ys, h => by
    have ih := dot_aff c d (xs := xs) (ys := ys) (by simpa using h)
    unfold dotZ at *
    simp only [List.map_cons, List.zip_cons_cons, List.sum_cons, ih]
    grind
theorem sum_aff (c d : Int) {xs : List Int} : (xs.map fun x => c * x + d).sum = c * xs.sum + xs.length * d := by
  induction xs with
  | nil => simp
  | cons x xs ih => simp only [List.map_cons, List.sum_cons, List.length_cons, ih]; push_cast; grind
theorem both_aff (c d : Int) {xs ys : List Int} (h : xs.length = ys.length) : bothZ (xs.map fun x => c * x + d) ys = c * bothZ xs ys := by
  unfold bothZ
  rw [dot_aff c d h, sum_aff, List.length_map]
  generalize (xs.length : Int) = n
  grind
theorem uneven_aff (c d : Int) {xs : List Int} : unevenZ (xs.map fun x => c * x + d) = c * c * unevenZ xs := by
  have : (xs.map fun x => c * x + d) = (xs.map (c * ·)).map (· + d) := by simp [Function.comp_def]
  rw [this, uneven_shift, uneven_scale]
/-- shape: one side c times as great (c above nought), and shifted -/
theorem far_sh_aff {c d : Int} (hc : 0 < c) {xs ys : List Int} (h : xs.length = ys.length) : farZ .sh (xs.map fun x => c * x + d) ys = farZ .sh xs ys := by
  have hc2 : 0 < c * c := Int.mul_pos hc hc
  show (if unevenZ (xs.map fun x => c * x + d) = 0 ∨ unevenZ ys = 0 then (if unevenZ (xs.map fun x => c * x + d) = unevenZ ys then (0, 1) else (1, 1)) else madeZ (unevenZ (xs.map fun x => c * x + d) * unevenZ ys - bothZ (xs.map fun x => c * x + d) ys * (if bothZ (xs.map fun x => c * x + d) ys < 0 then -bothZ (xs.map fun x => c * x + d) ys else bothZ (xs.map fun x => c * x + d) ys)) (unevenZ (xs.map fun x => c * x + d) * unevenZ ys))
    = (if unevenZ xs = 0 ∨ unevenZ ys = 0 then (if unevenZ xs = unevenZ ys then (0, 1) else (1, 1)) else madeZ (unevenZ xs * unevenZ ys - bothZ xs ys * (if bothZ xs ys < 0 then -bothZ xs ys else bothZ xs ys)) (unevenZ xs * unevenZ ys))
  rw [uneven_aff, both_aff c d h]
  have hu := uneven_nn xs
  have hv := uneven_nn ys
  have z : c * c * unevenZ xs = 0 ↔ unevenZ xs = 0 := by
    constructor
    · intro h
      rcases Int.mul_eq_zero.mp h with h | h
      · omega
      · exact h
    · intro h; rw [h, Int.mul_zero]
  generalize unevenZ xs = U at *
  generalize unevenZ ys = V at *
  generalize bothZ xs ys = B at *
  simp only [z]
  by_cases h1 : U = 0 ∨ V = 0
  · rw [if_pos h1, if_pos h1]
    have : (c * c * U = V) ↔ U = V := by
      constructor
      · intro e
        rcases h1 with h1 | h1
        · rw [h1, Int.mul_zero] at e; omega
        · rw [h1] at e; rw [h1]; exact z.mp e
      · intro e
        rcases h1 with h1 | h1
        · rw [h1, Int.mul_zero]; omega
        · have : U = 0 := by omega
          rw [this, Int.mul_zero]; omega
    simp only [this]
  · rw [if_neg h1, if_neg h1]
    have hU : 0 < U := by omega
    have hV : 0 < V := by omega
    have hs : (c * B < 0) ↔ B < 0 := by
      constructor
      · intro h
        by_cases hb : B < 0
        · exact hb
        · have := Int.mul_nonneg (Int.le_of_lt hc) (show 0 ≤ B by omega)
          omega
      · intro h
        exact Int.mul_neg_of_pos_of_neg hc h
    simp only [hs]
    refine made_eq_of (Int.mul_pos (Int.mul_pos hc2 hU) hV) (Int.mul_pos hU hV) ?_
    split <;> grind
end Rw
end PRwAff
section PRwOkX
set_option linter.all false
/-! RwOkX: rules for runs that raise. -/
namespace Rw
section
variable {ρ ρ1 : DEnv} {M M1 : DSt} {c : DT} {x y : DX} {b : Bool} {as : DA} {vs : List Dv} {f : FX} {s : DS} {cs : List String} {d h : DS} {P : Out → Prop} {k : String} {i j : Nat}
theorem xif_eq (h : Ok (c ρ M) fun p => p = (b, M1)) : xIf c x y ρ M = if b then x ρ M1 else y ρ M1 := by
  obtain ⟨p, e, rfl⟩ := h
  unfold xIf
  rw [e]
  cases b <;> rfl
theorem xcall_eq (h : Ok (as ρ M) fun p => p = (vs, M1)) : xCall f as ρ M = (f vs M1).map fun r => (r.1, ρ, r.2) := by
  obtain ⟨p, e, rfl⟩ := h
  unfold xCall
  rw [e]
  simp only
  cases f vs M1 <;> rfl
theorem xseq_eq (h : Ok (s ρ M) fun o => o = .nx ρ1 M1) : xSeq s x ρ M = x ρ1 M1 := by
  obtain ⟨p, e, rfl⟩ := h
  unfold xSeq
  rw [e]
theorem xalt_some {r : String × DEnv × DSt} (h : x ρ M = some r) : xAlt x y ρ M = some r := by
  unfold xAlt
  rw [h]
theorem xalt_none (h : x ρ M = none) : xAlt x y ρ M = y ρ M := by
  unfold xAlt
  rw [h]
theorem fnX_eq {n : Nat} {ws : List Dv} : fnX n x ws M = (x (startD n ws) M).map fun r => (r.1, r.2.2.take M.length) := by
  unfold fnX
  cases x (startD n ws) M <;> rfl
theorem ok_try_x (e : x ρ M = some (k, ρ1, M1)) (hk : k ∈ cs) : Ok (dTry cs d x h ρ M) P ↔ Ok (h ρ1 M1) P := by
  unfold dTry
  rw [e]
  simp only [grd_ok hk]
theorem ok_try_n (e : x ρ M = none) : Ok (dTry cs d x h ρ M) P ↔ Ok (d ρ M) P := by
  unfold dTry
  rw [e]
theorem ok_tryAs_x (e : x ρ M = some (k, ρ1, M1)) (hk : k ∈ cs) : Ok (dTryAs cs d x i j ρ M) P ↔ P (.nx (((ρ1.set i (some (.d (.ty k)))).set j (some (.d (.ty k)))).set i none) M1) := by
  unfold dTryAs
  rw [e]
  simp only [grd_ok hk, ok_some]
theorem ok_tryAs_n (e : x ρ M = none) : Ok (dTryAs cs d x i j ρ M) P ↔ Ok (d ρ M) P := by
  unfold dTryAs
  rw [e]
@[simp ↓] theorem ok_count {y : D} {xs : List D} {Q : Dv × DSt → Prop} : Ok (mCount (.d (.lst xs)) [.d y] M) Q ↔ (y.flat = true ∧ xs.all D.flat = true) ∧ Q (.d (.int (xs.countP fun b => D.eqv b y : Nat)), M) := by simp [mCount, lv]
theorem ok_countC {y : D} {n : Nat} {xs : List D} {Q : Dv × DSt → Prop} (h : M[n]? = some (some xs)) : Ok (mCount (.c n) [.d y] M) Q ↔ (y.flat = true ∧ xs.all D.flat = true) ∧ Q (.d (.int (xs.countP fun b => D.eqv b y : Nat)), M) := by simp [mCount, lv, h]
theorem ok_indexC {y : D} {n j : Nat} {xs : List D} {Q : Dv × DSt → Prop} (h : M[n]? = some (some xs)) (hf : y.flat = true ∧ xs.all D.flat = true) (hj : (xs.findIdx? fun b => D.eqv b y) = some j) : Ok (mIndex (.c n) [.d y] M) Q ↔ Q (.d (.int (j : Nat)), M) := by
  have hl : lv M (.c n) = some xs := by simp [lv, h]
  unfold mIndex
  rw [hl]
  simp only [grd_ok hf, hj, ok_some]
theorem ok_join {a : PySem.Str} {xs : List D} {ys : List PySem.Str} {Q : Dv × DSt → Prop} (h : strsD xs = some ys) (hb : (ys.map (·.length)).sum + ys.length * a.length ≤ big) : Ok (oJoin a (.d (.lst xs)) M) Q ↔ Q (.d (.str (PySem.Str.join a ys)), M) := by
  simp only [oJoin, lv, h, grd_ok hb, ok_some]
@[simp ↓] theorem ok_isX_non {all : List String} {Q : Dv × DSt → Prop} : Ok (oIsX all cs (.d .non) M) Q ↔ Q (.d (.bl false), M) := by simp [oIsX]
@[simp ↓] theorem ok_isX_ty {all : List String} {Q : Dv × DSt → Prop} : Ok (oIsX all cs (.d (.ty k)) M) Q ↔ k ∈ all ∧ Q (.d (.bl (cs.contains k)), M) := by simp [oIsX]
end
theorem step_ne {t : DT} {a b : DX} {e : DE} {ρ : DEnv} {M : DSt} (h : Ok (t ρ M) fun p => p = (false, M)) : xAlt (xIf t a xNo) (xSeq (dIf t (dRet e) dPass) b) ρ M = b ρ M := by
  rw [xalt_none (by rw [xif_eq h]; rfl), xseq_eq (ρ1 := ρ) (M1 := M)]
  obtain ⟨p, h1, rfl⟩ := h
  exact ⟨.nx ρ M, by unfold dIf; rw [h1]; rfl, rfl⟩
theorem step_eq {t : DT} {a b : DX} {e : DE} {ρ : DEnv} {M : DSt} (h : Ok (t ρ M) fun p => p = (true, M)) : xAlt (xIf t a xNo) (xSeq (dIf t (dRet e) dPass) b) ρ M = a ρ M := by
  have h2 : xSeq (dIf t (dRet e) dPass) b ρ M = none := by
    obtain ⟨p, h1, rfl⟩ := h
    unfold xSeq dIf
    rw [h1]
    simp only [dRet]
    cases e ρ M with
    | none => rfl
    | some q => rfl
  unfold xAlt
  rw [xif_eq h, h2]
  simp only [if_true]
  cases a ρ M <;> rfl
@[simp ↓] theorem ok_frzD {b : Nat} {x : D} {M : DSt} {P : Dv × DSt → Prop} : Ok (frz b (.d x, M)) P ↔ P (.d x, M) := by simp [frz]
/-- new, or data -/
def Fresh (M : DSt) (p : Dv × DSt) : Prop := (∃ x, p = (.d x, M)) ∨ ∃ xs, p = (.c M.length, M ++ [some xs])
theorem ok_fresh {M : DSt} {p : Dv × DSt} (h : Fresh M p) : Ok (frz M.length p) fun q => q.2 = M := by
  rcases h with ⟨x, rfl⟩ | ⟨xs, rfl⟩
  · simp
  · rw [ok_frz rfl]
theorem ok_compL_nil {chk : DSt → Prop} {step : D → DSt → Option (Option D × DSt)} {M : DSt} {P : List D × DSt → Prop} : Ok (compL chk step [] M) P ↔ chk M ∧ P ([], M) := by
  unfold compL
  rw [ok_grd, ok_some]
/-- a list that is there, one by one, each giving something and changing nothing -/
theorem compL_step {chk : DSt → Prop} {step : D → DSt → Option (Option D × DSt)} {M : DSt} {P : List D × DSt → Prop} {x y : D} {xs : List D} (hc : chk M) (h : Ok (step x M) fun p => p = (some y, M)) (k : Ok (compL chk step xs M) fun p => P (y :: p.1, p.2)) : Ok (compL chk step (x :: xs) M) P := by
  obtain ⟨p, e, rfl⟩ := h
  obtain ⟨q, e2, k⟩ := k
  refine ⟨_, ?_, k⟩
  unfold compL
  rw [grd_ok hc]
  simp only [e, e2]
theorem ok_neCD {M : DSt} {m : Nat} {xs : List D} {P : Dv × DSt → Prop} (h' : M[m]? = some (some xs)) (hx : (D.lst xs).shp 9 = true) : Ok (oNe (.c m) (.d (.lst xs)) M) P ↔ P (.d (.bl false), M) := by
  have := eqv_refl 9 _ hx
  simp [oNe, dv, h', hx, this]
end Rw
end PRwOkX
section PRwOkY
set_option linter.all false
set_option maxHeartbeats 1000000
namespace Rw
section
variable {ρ : DEnv} {M : DSt} {P : Dv × DSt → Prop}
@[simp ↓] theorem ok_chain3 {f g h : O2} {a b c d : DE} : Ok (eChain3 f g h a b c d ρ M) P ↔ Ok (a ρ M) fun p => Ok (b ρ p.2) fun q => Ok (f p.1 q.1 q.2) fun r => Ok (asB r.1) fun k => if k = true then Ok (c ρ r.2) fun s => Ok (g q.1 s.1 s.2) fun r2 => Ok (asB r2.1) fun k2 => if k2 = true then Ok (d ρ r2.2) fun t => Ok (h s.1 t.1 t.2) P else P (.d (.bl false), r2.2) else P (.d (.bl false), r.2) := by
  unfold eChain3
  cases a ρ M with
  | none => simp
  | some p =>
    obtain ⟨x, M1⟩ := p
    simp only [ok_some]
    cases b ρ M1 with
    | none => simp
    | some q =>
      obtain ⟨y, M2⟩ := q
      simp only [ok_some]
      cases f x y M2 with
      | none => simp
      | some r =>
        obtain ⟨v, M3⟩ := r
        simp only [ok_some]
        cases v with
        | d v =>
          cases v with
          | bl k =>
            cases k with
            | false => simp [asB]
            | true =>
              simp only [asB, ok_some, if_true]
              cases c ρ M3 with
              | none => simp
              | some s =>
                obtain ⟨z, M4⟩ := s
                simp only [ok_some]
                cases g y z M4 with
                | none => simp
                | some r2 =>
                  obtain ⟨v2, M5⟩ := r2
                  simp only [ok_some]
                  cases v2 with
                  | d v2 =>
                    cases v2 with
                    | bl k2 =>
                      cases k2 with
                      | false => simp [asB]
                      | true =>
                        simp only [asB, ok_some, if_true]
                        cases d ρ M5 <;> simp
                    | _ => simp [asB]
                  | _ => simp [asB]
          | _ => simp [asB]
        | _ => simp [asB]
end
end Rw
end PRwOkY
section PRwOkZ
set_option linter.all false
set_option maxHeartbeats 1000000
namespace Rw
section
variable {M : DSt} {P : Dv × DSt → Prop}
@[simp ↓] theorem ok_isB {a b : Bool} : Ok (oIsB (.d (.bl a)) (.d (.bl b)) M) P ↔ P (.d (.bl (decide (a = b))), M) := by simp [oIsB]
@[simp ↓] theorem ok_notB {a b : Bool} : Ok (oNotB (.d (.bl a)) (.d (.bl b)) M) P ↔ P (.d (.bl (!decide (a = b))), M) := by simp [oNotB]
/-- two places, in order -/
def pairLt (a b c d : Int) : Bool := if a = c then decide (b < d) else decide (a < c)
theorem lexZ2 (a b c d : Int) : lexZ [a, b] [c, d] = pairLt a b c d := by
  unfold pairLt
  by_cases h : a = c
  · by_cases h2 : b = d <;> simp [lexZ, h, h2]
  · simp [lexZ, h]
@[simp ↓] theorem ok_ltT {a b c d : Int} : Ok (oLtT (.d (.tup [.int a, .int b])) (.d (.tup [.int c, .int d])) M) P ↔ P (.d (.bl (pairLt a b c d)), M) := by simp [oLtT, intsD, lexZ2]
@[simp ↓] theorem ok_gtT {a b c d : Int} : Ok (oGtT (.d (.tup [.int a, .int b])) (.d (.tup [.int c, .int d])) M) P ↔ P (.d (.bl (pairLt c d a b)), M) := by simp [oGtT, intsD, lexZ2]
theorem ok_gFrz {i n : Nat} {ρ : DEnv} {M : DSt} {xs : List D} {P : Out → Prop} (h : ρ[i]? = some (some (.c n))) (hc : M[n]? = some (some xs)) : Ok (gFrz i ρ M) P ↔ P (.nx (ρ.set i (some (.d (.lst xs)))) (M.set n none)) := by
  simp [gFrz, h, hc]
end
end Rw
end PRwOkZ
section PRwOkV
set_option linter.all false
set_option maxHeartbeats 1000000
namespace Rw
section
variable {ρ : DEnv} {M : DSt} {P : Dv × DSt → Prop}
@[simp ↓] theorem ok_callK {is : List Nat} {f : DF} {as : DA} : Ok (eCallK is f as ρ M) P ↔ Ok (as ρ M) fun p => Ok (f (prm is p.1) p.2) P := by
  unfold eCallK
  exact ok_eA
theorem rowsT_map (t : Bool) : ∀ nss : List (List Int), rowsT t (nss.map (bkD t)) = some nss := by
  have hi : ∀ ns : List Int, intsD (ns.map D.int) = some ns := fun ns => by
    induction ns with
    | nil => rfl
    | cons x r ih => simp [intsD, ih]
  intro nss
  induction nss with
  | nil => rfl
  | cons n r ih =>
    have : rowT t (bkD t n) = some n := by cases t <;> simp [bkD, rowT, hi]
    simp [rowsT, this, ih]
end
end Rw
end PRwOkV
section PRwOkD
set_option linter.all false
set_option maxHeartbeats 1000000
namespace Rw
section
variable {ρ : DEnv} {M : DSt} {T : Tb}
@[simp] theorem look_nil {k : List Int} : look [] k = none := rfl
theorem any_look {k : List Int} : ∀ {T : Tb}, (T.any fun x => decide (x.1 = k)) = (look T k).isSome
  | [] => rfl
  | x :: T => by
    by_cases h : x.1 = k
    · simp [look, h]
    · have := any_look (k := k) (T := T)
      simp only [look] at this ⊢
      simp [h, List.find?_cons]
      simpa using this
theorem look_put {k j : List Int} {v : D} : look (tput T k v) j = if j = k then some v else look T j := by
  have hm : ∀ T : Tb, look (T.map fun x => if x.1 = k then (x.1, v) else x) j = (look T j).map fun x => if j = k then v else x := by
    intro T
    induction T with
    | nil => rfl
    | cons x T ih =>
      by_cases hx : x.1 = k
      · by_cases hj : x.1 = j
        · have e : j = k := by rw [← hj, hx]
          subst e
          simp [look, hx]
        · have ih' := ih
          simp only [look] at ih' ⊢
          have hj' : ¬ k = j := fun e => hj (by rw [hx, e])
          simp [List.find?_cons, hx, hj']
          simpa using ih'
      · by_cases hj : x.1 = j
        · have e : ¬ j = k := fun e => hx (by rw [hj, e])
          simp [look, hx, hj, e]
        · have ih' := ih
          simp only [look] at ih' ⊢
          simp [List.find?_cons, hx, hj]
          simpa using ih'
  unfold tput
  rw [any_look]
  split
  · rename_i h
    rw [hm]
    by_cases hj : j = k
    · subst hj
      rw [if_pos rfl]
      cases e : look T j with
      | none => rw [e] at h; cases h
      | some d => simp
    · rw [if_neg hj]
      simp [hj]
  · rename_i h
    have hn : look T k = none := by
      cases e : look T k with
      | none => rfl
      | some d => rw [e] at h; exact absurd rfl h
    have hs : ∀ T : Tb, look (T ++ [(k, v)]) j = (look T j).or (if j = k then some v else none) := by
      intro T
      induction T with
      | nil =>
        by_cases hj : j = k
        · simp [look, hj]
        · have : ¬ k = j := fun e => hj e.symm
          simp [look, hj, this]
      | cons x T ih =>
        by_cases hj : x.1 = j
        · simp [look, hj]
        · simp only [look] at ih ⊢
          simp only [List.cons_append, List.find?_cons, hj, decide_false]
          exact ih
    rw [hs]
    by_cases hj : j = k
    · subst hj
      simp [hn]
    · simp [hj]
theorem tput_len {k : List Int} {v : D} : (tput T k v).length ≤ T.length + 1 := by
  unfold tput
  split <;> simp
end
section
variable {ρ : DEnv} {M : DSt} {T : Tb} {P : Dv × DSt → Prop}
theorem ok_getE {b : Bool} {k : DE} {x : D} {ks : List Int} {v : D} {M1 : DSt} (h1 : k ρ M = some (.d x, M1)) (h2 : keyI b x = some ks) (h3 : look T ks = some v) : eGet b k T ρ M = some (.d v, M1) := by
  unfold eGet
  rw [h1]
  simp only [h2, h3]
@[simp ↓] theorem ok_get {b : Bool} {k : DE} : Ok (eGet b k T ρ M) P ↔ Ok (k ρ M) fun p => Ok (asD p.1) fun x => Ok (keyI b x) fun ks => Ok (look T ks) fun v => P (.d v, p.2) := by
  unfold eGet
  cases k ρ M with
  | none => simp
  | some p =>
    obtain ⟨x, M1⟩ := p
    simp only [ok_some]
    cases x with
    | c n => simp [asD]
    | r n => simp [asD]
    | o _ _ _ => simp [asD]
    | k _ _ => simp [asD]
    | d x =>
      simp only [ok_asD]
      cases keyI b x with
      | none => simp
      | some ks =>
        simp only [ok_some]
        cases look T ks <;> simp
@[simp ↓] theorem ok_has {b neg : Bool} {k : DE} : Ok (eHas b neg k T ρ M) P ↔ Ok (k ρ M) fun p => Ok (asD p.1) fun x => Ok (keyI b x) fun ks => P (.d (.bl (xor neg (look T ks).isSome)), p.2) := by
  unfold eHas
  cases k ρ M with
  | none => simp
  | some p =>
    obtain ⟨x, M1⟩ := p
    simp only [ok_some]
    cases x with
    | c n => simp [asD]
    | r n => simp [asD]
    | o _ _ _ => simp [asD]
    | k _ _ => simp [asD]
    | d x =>
      simp only [ok_asD]
      cases keyI b x <;> simp
@[simp ↓] theorem ok_iK {P : List D × List Nat × DSt → Prop} : Ok (iK T ρ M) P ↔ P (T.map keyD, [], M) := by simp [iK]
@[simp ↓] theorem ok_getN {as : DA} : Ok (eGetN as T ρ M) P ↔ Ok (as ρ M) fun p => Ok (allD p.1) fun xs => Ok (intsD xs) fun ks => ks.length ≤ big ∧ P (.d ((look T ks).getD .non), p.2) := by
  unfold eGetN
  cases as ρ M with
  | none => simp
  | some p =>
    obtain ⟨vs, M1⟩ := p
    simp only [ok_some]
    cases allD vs with
    | none => simp
    | some xs =>
      simp only [ok_some]
      cases intsD xs with
      | none => simp
      | some ks => simp
end
section
variable {ρ : DEnv} {M : DSt} {T : Tb} {P : Out × Tb → Prop}
def seqK (t : XS) (P : Out × Tb → Prop) : Out × Tb → Prop
  | (.nx ρ M, T) => Ok (t ρ M T) P
  | (.rt v M, T) => P (.rt v M, T)
  | (.bk ρ M, T) => P (.bk ρ M, T)
  | (.ct ρ M, T) => P (.ct ρ M, T)
theorem seqK_nx {t : XS} : seqK t P (.nx ρ M, T) ↔ Ok (t ρ M T) P := Iff.rfl
@[simp ↓] theorem seqK_rt {t : XS} {v : Dv} : seqK t P (.rt v M, T) ↔ P (.rt v M, T) := Iff.rfl
@[simp ↓] theorem ok_kSeq {s t : XS} : Ok (kSeq s t ρ M T) P ↔ Ok (s ρ M T) (seqK t P) := by
  unfold kSeq
  cases s ρ M T with
  | none => simp
  | some o =>
    obtain ⟨o, T⟩ := o
    cases o <;> simp [seqK]
@[simp ↓] theorem ok_kPass : Ok (kPass ρ M T) P ↔ P (.nx ρ M, T) := by simp [kPass]
@[simp ↓] theorem ok_kAsg {tg : Tgt} {a : Tb → DE} : Ok (kAsg tg a ρ M T) P ↔ Ok (a T ρ M) fun p => Ok (tg.put p.1 ρ) fun ρ1 => P (.nx ρ1 p.2, T) := by
  unfold kAsg
  cases a T ρ M with
  | none => simp
  | some p =>
    obtain ⟨v, M1⟩ := p
    simp only [ok_some]
    cases tg.put v ρ <;> simp
@[simp ↓] theorem ok_kExpr {a : Tb → DE} : Ok (kExpr a ρ M T) P ↔ Ok (a T ρ M) fun p => P (.nx ρ p.2, T) := by
  unfold kExpr
  cases a T ρ M <;> simp
@[simp ↓] theorem ok_kRet {a : Tb → DE} : Ok (kRet a ρ M T) P ↔ Ok (a T ρ M) fun p => P (.rt p.1 p.2, T) := by
  unfold kRet
  cases a T ρ M <;> simp
@[simp ↓] theorem ok_kIf {t : Tb → DT} {a b : XS} : Ok (kIf t a b ρ M T) P ↔ Ok (t T ρ M) fun p => if p.1 = true then Ok (a ρ p.2 T) P else Ok (b ρ p.2 T) P := by
  unfold kIf
  cases t T ρ M with
  | none => simp
  | some p =>
    obtain ⟨k, M3⟩ := p
    cases k <;> simp
@[simp ↓] theorem ok_kWipe {vs : List Nat} {s : XS} : Ok (kWipe vs s ρ M T) P ↔ Ok (s ρ M T) fun o => P (wipeO vs o.1, o.2) := by
  unfold kWipe
  cases s ρ M T with
  | none => simp
  | some p => obtain ⟨o, T⟩ := p; simp
@[simp ↓] theorem ok_kPre {vs : List Nat} {s : XS} : Ok (kPre vs s ρ M T) P ↔ Ok (s (wipeD ρ vs) M T) P := Iff.rfl
@[simp ↓] theorem ok_kPut {as : DA} {e : Tb → DE} : Ok (kPut as e ρ M T) P ↔ Ok (e T ρ M) fun p => Ok (asD p.1) fun v => Ok (as ρ p.2) fun q => Ok (allD q.1) fun xs => Ok (intsD xs) fun ks => (ks.length ≤ big ∧ T.length < big) ∧ P (.nx ρ q.2, tput T ks v) := by
  unfold kPut
  cases e T ρ M with
  | none => simp
  | some p =>
    obtain ⟨x, M1⟩ := p
    simp only [ok_some]
    cases x with
    | c n => simp [asD]
    | r n => simp [asD]
    | o _ _ _ => simp [asD]
    | k _ _ => simp [asD]
    | d v =>
      simp only [ok_asD]
      cases as ρ M1 with
      | none => simp
      | some q =>
        obtain ⟨vs, M2⟩ := q
        simp only [ok_some]
        cases allD vs with
        | none => simp
        | some xs =>
          simp only [ok_some]
          cases intsD xs with
          | none => simp
          | some ks => simp
@[simp ↓] theorem ok_kPutI {i : DE} {e : Tb → DE} : Ok (kPutI i e ρ M T) P ↔ Ok (e T ρ M) fun p => Ok (asD p.1) fun v => Ok (i ρ p.2) fun q => Ok (asI q.1) fun k => T.length < big ∧ P (.nx ρ q.2, tput T [k] v) := by
  unfold kPutI
  cases e T ρ M with
  | none => simp
  | some p =>
    obtain ⟨x, M1⟩ := p
    simp only [ok_some]
    cases x with
    | c n => simp [asD]
    | r n => simp [asD]
    | o _ _ _ => simp [asD]
    | k _ _ => simp [asD]
    | d v =>
      simp only [ok_asD]
      cases i ρ M1 with
      | none => simp
      | some q =>
        obtain ⟨z, M2⟩ := q
        simp only [ok_some]
        cases z with
        | c n => simp [asI]
        | r n => simp [asI]
        | o _ _ _ => simp [asI]
        | k _ _ => simp [asI]
        | d z => cases z <;> simp [asI]
@[simp ↓] theorem ok_kFor {it : DI} {tg : Tgt} {s : XS} : Ok (kFor it tg s ρ M T) P ↔ Ok (it ρ M) fun p => Ok (forK (stand p.2.1 p.2.2) (stepK tg s) p.1 ρ p.2.2 T) P := by
  unfold kFor
  cases it ρ M <;> simp
@[simp ↓] theorem ok_stepK {tg : Tgt} {s : XS} {x : D} : Ok (stepK tg s x ρ M T) P ↔ Ok (tg.put (.d x) ρ) fun ρ1 => Ok (s ρ1 M T) P := by
  unfold stepK
  cases tg.put (.d x) ρ <;> simp
/-- what a turn is to reach -/
def turnK (Nx : DEnv → DSt → Tb → Prop) (P : Out × Tb → Prop) : Out × Tb → Prop
  | (.nx ρ M, T) => Nx ρ M T
  | (.ct ρ M, T) => Nx ρ M T
  | (.bk ρ M, T) => P (.nx ρ M, T)
  | (.rt v M, T) => P (.rt v M, T)
@[simp ↓] theorem turnK_nx {Nx : DEnv → DSt → Tb → Prop} : turnK Nx P (.nx ρ M, T) ↔ Nx ρ M T := Iff.rfl
@[simp ↓] theorem turnK_rt {Nx : DEnv → DSt → Tb → Prop} {v : Dv} : turnK Nx P (.rt v M, T) ↔ P (.rt v M, T) := Iff.rfl
theorem forK_by {α : Type} {chk : DSt → Prop} {step : α → XS} : ∀ (xs : List α) {ρ : DEnv} {M : DSt} {T : Tb} (I : Nat → DEnv → DSt → Tb → Prop), I 0 ρ M T →
    (∀ i x ρ M T, xs[i]? = some x → I i ρ M T → chk M ∧ Ok (step x ρ M T) (turnK (I (i + 1)) P)) → (∀ ρ M T, I xs.length ρ M T → chk M ∧ P (.nx ρ M, T)) → Ok (forK chk step xs ρ M T) P
  | [], ρ, M, T, I, h0, _, hd => by
    unfold forK
    rw [ok_grd]
    obtain ⟨a, b⟩ := hd ρ M T h0
    exact ⟨a, by simpa using b⟩
  | x :: xs, ρ, M, T, I, h0, hs, hd => by
    unfold forK
    rw [ok_grd]
    obtain ⟨a, o, e, b⟩ := hs 0 x ρ M T rfl h0
    refine ⟨a, ?_⟩
    rw [e]
    obtain ⟨o, T1⟩ := o
    cases o with
    | nx ρ1 M1 => exact forK_by xs (fun i => I (i + 1)) b (fun i y ρ M T hy hI => hs (i + 1) y ρ M T (by simpa using hy) hI) (fun ρ M T hI => hd ρ M T hI)
    | ct ρ1 M1 => exact forK_by xs (fun i => I (i + 1)) b (fun i y ρ M T hy hI => hs (i + 1) y ρ M T (by simpa using hy) hI) (fun ρ M T hI => hd ρ M T hI)
    | bk ρ1 M1 => simpa [turnK] using b
    | rt v M1 => simpa using b
end
section
variable {ρ : DEnv} {M : DSt} {P : Out → Prop}
def newP (d : Nat) (P : Out → Prop) : Out × Tb → Prop
  | (.nx ρ M, _) => P (.nx (ρ.set d none) M)
  | (.bk ρ M, _) => P (.bk (ρ.set d none) M)
  | (.ct ρ M, _) => P (.ct (ρ.set d none) M)
  | (.rt v M, _) => P (.rt v M)
@[simp ↓] theorem newP_nx {d : Nat} {T : Tb} : newP d P (.nx ρ M, T) ↔ P (.nx (ρ.set d none) M) := Iff.rfl
@[simp ↓] theorem newP_rt {d : Nat} {T : Tb} {v : Dv} : newP d P (.rt v M, T) ↔ P (.rt v M) := Iff.rfl
@[simp ↓] theorem ok_dNew {d : Nat} {s : XS} : Ok (dNew d s ρ M) P ↔ d < ρ.length ∧ Ok (s (ρ.set d none) M []) (newP d P) := by
  unfold dNew
  rw [ok_grd]
  cases s (ρ.set d none) M [] with
  | none => simp
  | some r =>
    obtain ⟨o, T⟩ := r
    cases o <;> simp [newP]
end
end Rw
end PRwOkD
section PRwOkLd
set_option linter.all false
set_option maxHeartbeats 1000000
namespace Rw
section
variable {ρ : DEnv} {M : DSt} {T : Tb} {P : Dv × DSt → Prop}
def asK : Dv → Option (Bool × Tb)
  | .k b T => some (b, T)
  | _ => none
@[simp] theorem asK_k {b : Bool} : asK (.k b T) = some (b, T) := rfl
@[simp ↓] theorem ok_kget {i : Nat} {k : DE} : Ok (eKGet (eVar i) k ρ M) P ↔ Ok (ρ[i]?).join fun v => Ok (asK v) fun bT => Ok (k ρ M) fun p => Ok (asD p.1) fun x => Ok (keyI bT.1 x) fun ks => Ok (look bT.2 ks) fun v => P (.d v, p.2) := by
  unfold eKGet eVar
  cases h : ρ[i]? with
  | none => simp
  | some o =>
    cases o with
    | none => simp
    | some v =>
      cases v with
      | k b T =>
        simp only [Option.join_some, ok_some, asK_k]
        cases k ρ M with
        | none => simp
        | some p =>
          obtain ⟨x, M1⟩ := p
          simp only [ok_some]
          cases x with
          | c n => simp [asD]
          | r n => simp [asD]
          | o _ _ _ => simp [asD]
          | k _ _ => simp [asD]
          | d x =>
            simp only [ok_asD]
            cases keyI b x with
            | none => simp
            | some ks =>
              simp only [ok_some]
              cases look T ks <;> simp
      | d n => simp [asK]
      | c n => simp [asK]
      | r n => simp [asK]
      | o _ _ _ => simp [asK]
@[simp ↓] theorem ok_self {b : Bool} : Ok (eSelf b T ρ M) P ↔ P (.k b T, M) := by simp [eSelf]
theorem ok_loan {f : DF} {as : Tb → DA} {vs : List Dv} {x : D} {M1 M2 : DSt} (h1 : Ok (as T ρ M) fun p => p = (vs, M1)) (h2 : f vs M1 = some (.d x, M2)) : Ok (eLoan f as T ρ M) P ↔ P (.d x, M2) := by
  obtain ⟨_, e, rfl⟩ := h1
  unfold eLoan
  rw [e]
  simp only [h2]
  simp
end
section
variable {ρ : DEnv} {M : DSt} {T T' : Tb} {P : Out × Tb → Prop}
def asKT : Dv → Option Tb
  | .k true T => some T
  | _ => none
@[simp] theorem asKT_k : asKT (.k true T) = some T := rfl
theorem ok_kForT {i : Nat} {ts : List Tgt} {s : XS} (h : ρ[i]? = some (some (.k true T'))) : Ok (kForT (eVar i) ts s ρ M T) P ↔ Ok (forK (stand [] M) (stepK (.tup ts) s) (keysT T') ρ M T) P := by
  unfold kForT eVar
  rw [h]
end
end Rw
end PRwOkLd
section PUk70
set_option linter.all false
set_option maxHeartbeats 4000000
set_option maxRecDepth 100000
namespace Lk70
open Rw
theorem divisor_eq {M : DSt} (a b : Int) : f_divisor [.d (.int a), .d (.int b)] M = some (.d (.int (Int.gcd a b)), M) := by
  apply ok_eq
  unfold f_divisor
  rw [ok_fn]
  simp [b_divisor, startD]
  have g := gcd_while (i := 0) (j := 1) (by decide) (M := M) _ (ρ := [some (.d (.int (if a < 0 then -a else a))), some (.d (.int (if b < 0 then -b else b)))]) rfl (abs_nn a) (abs_nn b) (by simp) (by simp) rfl rfl
  unfold gcdLoop at g
  rw [g, gcd_abs]
  simp
theorem made_eq {M : DSt} {k : Nat} {t b : Int} (h : b ≠ 0) (hb : Bn k b) (hk : k ≤ 2000) : f_made [.d (.int t), .d (.int b)] M = some (.d (frD (madeZ t b)), M) := by
  apply ok_eq
  unfold f_made
  rw [ok_fn]
  have hs := (signG_bn (t := t) h hb).div (signG_ne h) hk
  simp [b_made, startD, divisor_eq]
  unfold signG at hs
  by_cases hn : b < 0
  · rw [if_pos hn] at hs
    simp [hn, hs, frD, madeZ, signG]
  · rw [if_neg hn] at hs
    simp [hn, hs, frD, madeZ, signG]
theorem uneven_eq {M : DSt} {k : Nat} {xs : List Int} (h : Row k xs) (hk : k ≤ 500) : f_uneven [.d (.lst (xs.map D.int))] M = some (.d (.int (unevenZ xs)), M) := by
  apply ok_eq
  unfold f_uneven
  rw [ok_fn]
  have m1 := h.sum.ok h.sum (by omega) (by omega)
  have m2 := (Bn.nat h.2).ok h.sqs (by omega) (by omega)
  have hl := h.2
  simp [b_uneven, startD]
  refine ⟨by omega, ?_⟩
  refine comp_map (fun a => .int (a * a)) (by simp) ?_ ?_
  · intro a ha
    simp [(h.1 a ha).ok (h.1 a ha) (by omega) (by omega)]
  · simp [m1, m2, unevenZ]
theorem plain_eq {M : DSt} {k : Nat} {xs ys : List Int} (hx : Row k xs) (hy : Row k ys) (hk : k ≤ 100) (h0 : 0 < xs.length) : f_plain_far [.d (.lst (xs.map D.int)), .d (.lst (ys.map D.int))] M = some (.d (frD (farZ .pl xs ys)), M) := by
  apply ok_eq
  unfold f_plain_far
  rw [ok_fn]
  have hl := hx.2
  simp [b_plain_far, startD, zip_map]
  refine ⟨by omega, ?_⟩
  refine comp_map (fun p => .int ((p.1 - p.2) * (p.1 - p.2))) (by simp) ?_ ?_
  · intro a ha
    have hm := List.of_mem_zip ha
    have hd := (hx.1 _ hm.1).sub (hy.1 _ hm.2)
    simp [hd.ok hd (by omega) (by omega)]
  · have e : ((xs.zip ys).map fun p : Int × Int => (p.1 - p.2) * (p.1 - p.2)).sum = ((diffZ xs ys).map fun d => d * d).sum := by simp [diffZ, Function.comp_def]
    have e2 := fun M => made_eq (M := M) (t := ((diffZ xs ys).map fun d => d * d).sum) (b := (xs.length : Int)) (by omega) (Bn.nat hx.2) (by omega)
    simp [e, ↓okE (e2 _), farZ]
theorem moved_eq {M : DSt} {k : Nat} {xs ys : List Int} (hx : Row k xs) (hy : Row k ys) (hk : k ≤ 100) (h0 : 0 < xs.length) : f_moved_far [.d (.lst (xs.map D.int)), .d (.lst (ys.map D.int))] M = some (.d (frD (farZ .mo xs ys)), M) := by
  apply ok_eq
  unfold f_moved_far
  rw [ok_fn]
  have hl := hx.2
  simp [b_moved_far, startD, zip_map]
  refine ⟨by omega, ?_⟩
  refine comp_map (fun p => .int (p.1 - p.2)) (by simp) ?_ ?_
  · intro a ha
    simp
  · have e : ((xs.zip ys).map fun p : Int × Int => D.int (p.1 - p.2)) = (diffZ xs ys).map D.int := by simp [diffZ, Function.comp_def]
    have e1 := fun M => uneven_eq (M := M) (hx.diff hy) (by omega)
    have n2 := (Bn.nat hx.2).mul (Bn.nat hx.2)
    have e2 := fun M => made_eq (M := M) (t := unevenZ (diffZ xs ys)) (b := (xs.length : Int) * xs.length) (by have := Int.mul_pos (show (0 : Int) < xs.length by omega) (show (0 : Int) < xs.length by omega); omega) n2 (by omega)
    have m := (Bn.nat hx.2).ok (Bn.nat hx.2) (by omega) (by omega)
    simp [e, ↓okE (e1 _), ↓okE (e2 _), farZ, m]
theorem shape_eq {M : DSt} {k : Nat} {xs ys : List Int} (hx : Row k xs) (hy : Row k ys) (hk : k ≤ 100) : f_shape_far [.d (.lst (xs.map D.int)), .d (.lst (ys.map D.int))] M = some (.d (frD (farZ .sh xs ys)), M) := by
  apply ok_eq
  unfold f_shape_far
  rw [ok_fn]
  have hl := hx.2
  have e1 := fun M => uneven_eq (M := M) hx (by omega)
  have e2 := fun M => uneven_eq (M := M) hy (by omega)
  have n2 : Bn 430 (unevenZ xs * unevenZ ys) := (hx.uneven.mul hy.uneven).mono (by omega)
  have m1 := hx.uneven.ok hy.uneven (by omega) (by omega)
  have m2 := (hx.both hy).ok (hx.both hy).abs (by omega) (by omega)
  have m3 := (Bn.nat hx.2).ok (hx.dot hy) (by omega) (by omega)
  have m4 := hx.sum.ok hy.sum (by omega) (by omega)
  unfold dotZ at m3
  have eb : (xs.length : Int) * ((xs.zip ys).map fun p : Int × Int => p.1 * p.2).sum - xs.sum * ys.sum = bothZ xs ys := rfl
  simp [b_shape_far, startD, zip_map, ↓okE (e1 _), ↓okE (e2 _), -ok_if]
  by_cases h1 : unevenZ xs = 0
  · by_cases h2 : unevenZ ys = 0
    · simp [h1, h2, frD, farZ]
    · simp [h1, h2, frD, farZ, Ne.symm h2]
  · by_cases h2 : unevenZ ys = 0
    · simp [h1, h2, frD, farZ]
    · have e3 := fun M => made_eq (M := M) (t := unevenZ xs * unevenZ ys - bothZ xs ys * (if bothZ xs ys < 0 then -bothZ xs ys else bothZ xs ys)) (b := unevenZ xs * unevenZ ys) (Int.mul_ne_zero h1 h2) n2 (by omega)
      simp [h1, h2, zip_map]
      refine ⟨by omega, ?_⟩
      refine comp_map (fun p => .int (p.1 * p.2)) (by simp) ?_ ?_
      · intro a ha
        have hm := List.of_mem_zip ha
        simp [(hx.1 _ hm.1).ok (hy.1 _ hm.2) (by omega) (by omega)]
      · simp [m1, m2, m3, m4, eb, ↓okE (e3 _), farZ, h1, h2]
theorem far_told_eq {M : DSt} {k : Nat} {xs ys : List Int} (kd : Kd) (hx : Row k xs) (hy : Row k ys) (hk : k ≤ 100) (h0 : 0 < xs.length) : f_far_told [.d kd.s, .d (.lst (xs.map D.int)), .d (.lst (ys.map D.int))] M = some (.d (frD (farZ kd xs ys)), M) := by
  apply ok_eq
  unfold f_far_told
  rw [ok_fn]
  have s1 : strFine "plain" = true := by decide +kernel
  have s2 : strFine "moved" = true := by decide +kernel
  have s3 : strFine "shape" = true := by decide +kernel
  have t1 : (("moved" : PySem.Str) == "plain") = false := by decide +kernel
  have t2 : (("shape" : PySem.Str) == "plain") = false := by decide +kernel
  have t3 : (("shape" : PySem.Str) == "moved") = false := by decide +kernel
  have e1 := fun M => plain_eq (M := M) hx hy hk h0
  have e2 := fun M => moved_eq (M := M) hx hy hk h0
  have e3 := fun M => shape_eq (M := M) hx hy hk
  cases kd with
  | pl => simp [b_far_told, startD, Kd.s, s1, ↓okE (e1 _)]
  | mo => simp [b_far_told, startD, Kd.s, s1, s2, t1, ↓okE (e2 _)]
  | sh => simp [b_far_told, startD, Kd.s, s1, s2, s3, t2, t3, ↓okE (e3 _)]
theorem is_less_eq {M : DSt} {j : Nat} {a b : Int × Int} (ha : Bn j a.1 ∧ Bn j a.2) (hb : Bn j b.1 ∧ Bn j b.2) (hj : j ≤ 2000) : f_is_less [.d (frD a), .d (frD b)] M = some (.d (.bl (lessZ a b)), M) := by
  apply ok_eq
  unfold f_is_less
  rw [ok_fn]
  simp [b_is_less, startD, frD, ha.1.ok hb.2 (by omega) (by omega), hb.1.ok ha.2 (by omega) (by omega), lessZ]
theorem stretches_eq {M : DSt} {xs : List Int} {l : Nat} (hl : 0 < l) (hx : xs.length ≤ 100) : f_stretches [.d (rowD xs), .d (.int l)] M = some (.d (.lst (rowsD (stretchesZ xs l))), M) := by
  apply ok_eq
  unfold f_stretches
  rw [ok_fn]
  have ec : ∀ M, f_count_of [.d (rowD xs), .d (.int l)] M = some (.d (.int ((xs.length + 1 - l : Nat) : Int)), M) := by
    intro M
    apply ok_eq
    unfold f_count_of
    rw [ok_fn]
    simp [b_count_of, startD, rowD]
    split <;> omega
  simp [b_stretches, startD, ↓okE (ec _), rng0]
  refine ⟨by omega, by omega, ?_⟩
  refine comp_map (fun p => rowD (cutZ xs l p)) (by simp) ?_ ?_
  · intro p hp
    have hp' := List.mem_range.mp hp
    have es : ∀ M, f_stretch [.d (rowD xs), .d (.int l), .d (.int p)] M = some (.d (rowD (cutZ xs l p)), M) := by
      intro M
      apply ok_eq
      unfold f_stretch
      rw [ok_fn]
      simp [b_stretch, startD, rowD, cutD_map (show p + l ≤ xs.length by omega)]
    simp [↓okE (es _)]
  · simp [rowsD, stretchesZ, Function.comp_def]
theorem must_ask_eq {M : DSt} {gap l : Nat} (kd : Kd) (g0 : 1 ≤ gap) (g1 : gap ≤ 200) (l0 : 1 ≤ l) (l1 : l ≤ 40) : f_must_ask [.d kd.s, .d (.int gap), .d (.int l)] M = some (.d .non, M) := by
  apply ok_eq
  unfold f_must_ask
  rw [ok_fn]
  have e1 : ∀ M, f_must_kind [.d kd.s] M = some (.d .non, M) := by
    intro M
    apply ok_eq
    unfold f_must_kind
    rw [ok_fn]
    simp [b_must_kind, startD, v_KINDS, ↓kind_in]
  have e2 : ∀ M, f_must_gap [.d (.int gap)] M = some (.d .non, M) := by
    intro M
    apply ok_eq
    unfold f_must_gap
    rw [ok_fn]
    have a : (1 : Int) ≤ gap := by omega
    have b : (gap : Int) ≤ 200 := by omega
    simp [b_must_gap, startD, v_MOST_GAP, a, b]
  have e3 : ∀ M, f_must_length [.d (.int l)] M = some (.d .non, M) := by
    intro M
    apply ok_eq
    unfold f_must_length
    rw [ok_fn]
    have a : (1 : Int) ≤ l := by omega
    have b : (l : Int) ≤ 40 := by omega
    simp [b_must_length, startD, v_MOST_LENGTH, a, b]
  simp [b_must_ask, startD, ↓okE (e1 _), ↓okE (e2 _), ↓okE (e3 _)]
theorem lless_eq {M : DSt} {j : Nat} {a b : Int × Int} (ha : Bn j a.1 ∧ Bn j a.2) (hb : Bn j b.1 ∧ Bn j b.2) (hj : j ≤ 2000) : f__law_less [.d (frD a), .d (frD b)] M = some (.d (.bl (lessZ a b)), M) := by
  apply ok_eq
  unfold f__law_less
  rw [ok_fn]
  simp [b__law_less, startD, frD, ha.1.ok hb.2 (by omega) (by omega), hb.1.ok ha.2 (by omega) (by omega), lessZ]
theorem count_eq {M : DSt} {xs : List Int} {l : Nat} : f_count_of [.d (rowD xs), .d (.int l)] M = some (.d (.int ((xs.length + 1 - l : Nat) : Int)), M) := by
  apply ok_eq
  unfold f_count_of
  rw [ok_fn]
  simp [b_count_of, startD, rowD]
  split <;> omega
theorem must_kind_eq {M : DSt} (kd : Kd) : f_must_kind [.d kd.s] M = some (.d .non, M) := by
  apply ok_eq
  unfold f_must_kind
  rw [ok_fn]
  simp [b_must_kind, startD, v_KINDS, ↓kind_in]
theorem must_length_eq {M : DSt} {l : Nat} (l0 : 1 ≤ l) (l1 : l ≤ 40) : f_must_length [.d (.int l)] M = some (.d .non, M) := by
  apply ok_eq
  unfold f_must_length
  rw [ok_fn]
  have a : (1 : Int) ≤ l := by omega
  have b : (l : Int) ≤ 40 := by omega
  simp [b_must_length, startD, v_MOST_LENGTH, a, b]
theorem must_place_eq {M : DSt} {xs : List Int} {l p : Nat} (hp : p < xs.length + 1 - l) : f_must_place [.d (rowD xs), .d (.int l), .d (.int p)] M = some (.d .non, M) := by
  apply ok_eq
  unfold f_must_place
  rw [ok_fn]
  have e := fun M => count_eq (M := M) (xs := xs) (l := l)
  have a : (0 : Int) ≤ (p : Int) := by omega
  have b : (p : Int) < ((xs.length + 1 - l : Nat) : Int) := by omega
  simp [b_must_place, startD, a, ↓okE (e _)]
  exact hp
theorem stretch_eq {M : DSt} {xs : List Int} {l p : Nat} (hp : p + l ≤ xs.length) : f_stretch [.d (rowD xs), .d (.int l), .d (.int p)] M = some (.d (rowD (cutZ xs l p)), M) := by
  apply ok_eq
  unfold f_stretch
  rw [ok_fn]
  simp [b_stretch, startD, rowD, cutD_map hp]
theorem far_eq {M : DSt} {k : Nat} {xs : List Int} {l p q : Nat} (kd : Kd) (hx : Row k xs) (hk : k ≤ 100) (l0 : 1 ≤ l) (l1 : l ≤ 40) (hp : p < xs.length + 1 - l) (hq : q < xs.length + 1 - l) :
    f_far [.d (rowD xs), .d kd.s, .d (.int l), .d (.int p), .d (.int q)] M = some (.d (frD (farAt kd (stretchesZ xs l) p q)), M) := by
  apply ok_eq
  unfold f_far
  rw [ok_fn]
  have e1 := fun M => must_kind_eq (M := M) kd
  have e2 := fun M => must_length_eq (M := M) l0 l1
  have e3 := fun M => must_place_eq (M := M) hp
  have e4 := fun M => must_place_eq (M := M) hq
  have e5 := fun M => stretch_eq (M := M) (show p + l ≤ xs.length by omega)
  have e6 := fun M => stretch_eq (M := M) (show q + l ≤ xs.length by omega)
  have e7 := fun M => far_told_eq (M := M) kd (cutZ_rw (l := l) (p := p) hx) (cutZ_rw (l := l) (p := q) hx) hk (by rw [cutZ_len (by omega)]; omega)
  have ef : farAt kd (stretchesZ xs l) p q = farZ kd (cutZ xs l p) (cutZ xs l q) := by unfold farAt; rw [nth_stretch hp, nth_stretch hq]
  rw [ef]
  change ∀ M, f_far_told [_, .d (rowD _), .d (rowD _)] M = _ at e7
  simp [b_far, startD, ↓okE (e1 _), ↓okE (e2 _), ↓okE (e3 _), ↓okE (e4 _), ↓okE (e5 _), ↓okE (e6 _), ↓okE (e7 _)]
theorem at_ok {M : DSt} {ns : List Int} {k : Nat} : Ok (f__law_at [.r (ns.map D.int), .d (.int k)] M) fun p => ∃ c, p = (.d (.int c), M) := by
  unfold f__law_at
  rw [ok_fn]
  by_cases h : k < ns.length
  · obtain ⟨z, hz, e⟩ := atN h
    have h' : (k : Int) < ns.length := by omega
    simp [b__law_at, startD, h', ok_atN e]
  · have h' : ¬ (k : Int) < ns.length := by omega
    simp [b__law_at, startD, h']
theorem purse_ok {M : DSt} {ns : List Int} {k : Nat} (hk : k ≤ 1000) : Ok (f__law_purse [.r (ns.map D.int), .d (.int k)] M) fun p => ∃ x, p = (.c M.length, M ++ [some x]) ∧ ∃ a c q : Int, x = [.int a, .int c, .int q] ∧ 0 ≤ q ∧ q ≤ 1000000 := by
  unfold f__law_purse
  rw [ok_fn]
  simp [b__law_purse, startD, -seqP_nx]
  refine at_ok.mono ?_
  rintro _ ⟨c, rfl⟩
  simp [-seqP_nx]
  refine seqP_nx.mpr ?_
  simp [powOk, mulOk_l (x := 1000) (y := (k : Int)) (by decide) (by decide)]
  exact ⟨_, _, _, ⟨rfl, rfl, rfl⟩, by omega, by omega⟩
theorem mixed_ok {M : DSt} {c k : Int} (h0 : 0 ≤ k) (h1 : k ≤ 10 ^ 13) : Ok (f__law_mixed [.d (.int c), .d (.int k)] M) fun p => ∃ r, p = (.d (.int r), M) := by
  unfold f__law_mixed
  rw [ok_fn]
  simp [b__law_mixed, startD, -seqP_nx, mulOk_r (x := c) (y := 1103515245) (by decide) (by decide), mulOk_l (x := 7919) (y := k) (by decide) (by decide), mulOk_r (x := 7919 * k) (y := k) (by omega) (by omega)]
  have a0 := fmod_nn (c * 1103515245 + 7919 * k * k + k) (show (0 : Int) < 2147483647 by decide)
  have a1 := fmod_lt (c * 1103515245 + 7919 * k * k + k) (show (0 : Int) < 2147483647 by decide)
  generalize (c * 1103515245 + 7919 * k * k + k).fmod 2147483647 = z at *
  refine seqP_nx.mpr ?_
  simp [-seqP_nx, mulOk_r (x := z) (y := z) (by omega) (by omega)]
  refine seqP_nx.mpr ?_
  simp [mulOk_r (x := (z * z).fmod 2147483629) (y := 69621) (by decide) (by decide)]
def DrL (a c m : Int) (b n : Nat) (M : DSt) (o : Out) : Prop := ∃ (k' N : Int), o = .nx [some (.c n), some (.d (.int m)), none, some (.d (.int N)), none] (M.set n (some [.int a, .int c, .int k'])) ∧ 0 ≤ k' ∧ k' ≤ b + 4
theorem draw_ok {M : DSt} {b n : Nat} {m : Int} (h : Pu b n M) (hb : b ≤ 10 ^ 12) (h0 : 0 < m) (h1 : m ≤ 10 ^ 100) : Ok (f__law_draw [.c n, .d (.int m)] M) (DrawnU (b + 4) n m M) := by
  obtain ⟨a, c, k, e, k0, k1⟩ := h
  have hn := (List.getElem?_eq_some_iff.mp e).1
  have hm : m ≠ 0 := by omega
  have dm : divOk m := divOk_bd 400 (A := 10 ^ 100) ⟨by omega, h1⟩ hm (by decide) (by decide) (by decide)
  unfold f__law_draw
  rw [ok_fn]
  simp [b__law_draw, startD, -seqP_nx, celOk e]
  by_cases ha : 0 < a
  · simp [ha, hm, celOk e, -seqP_nx]
    refine seqP_nx.mpr ?_
    simp [celOk e, dm, -seqP_nx]
    refine seqP_nx.mpr ?_
    simp
    have f0 := fmod_nn a h0
    have f1 := fmod_lt a h0
    refine ⟨(a.fmod m).toNat, by omega, by rw [Int.toNat_of_nonneg f0], ⟨a.fdiv m, c, k, ?_, k0, by omega⟩, _, rfl⟩
    rw [List.getElem?_set_self hn]
  · simp [ha, -seqP_nx]
    refine seqP_nx.mpr ?_
    simp [-seqP_nx]
    refine seqP_nx.mpr ?_
    refine seq_by (DrL a c m b n M) ?_ ?_
    · have key : ∀ t : Nat, t ≤ 4 → Ok (forL (stand [] M) (forStep (.name 4) (dWipe [4] (dSeq (dPut (eVar 0) (eC (.int 2)) (e2 (oAdd false) (e2 oIx (eVar 0) (eC (.int 2))) (eC (.int 1))))
      (dAsg (.name 3) (e2 (oAdd false) (e2 (oMulU false) (eVar 3) (eC (.int 2147483587))) (eCall f__law_mixed (aCons (e2 oIx (eVar 0) (eC (.int 1))) (aCons (e2 oIx (eVar 0) (eC (.int 2))) aNil)))))))) (rng 0 t) [some (.c n), some (.d (.int m)), none, some (.d (.int 0)), none] M) (DrL a c m b n M) := by
        intro t ht
        refine forL_by _ (fun i ρ M' => ∃ N : Int, ρ = [some (.c n), some (.d (.int m)), none, some (.d (.int N)), none] ∧ M' = M.set n (some [.int a, .int c, .int (k + i)])) ⟨0, rfl, ?_⟩ ?_ ?_
        · obtain ⟨hn, e⟩ := List.getElem?_eq_some_iff.mp e
          simp only [Int.natCast_zero, Int.add_zero]
          rw [← e, List.set_getElem_self]
        · rintro i x ρ M' hx ⟨N, rfl, rfl⟩
          obtain ⟨hi, rfl⟩ := rng_at.mp hx
          have e1 : ∀ j : Int, (M.set n (some [D.int a, .int c, .int j]))[n]? = some (some [.int a, .int c, .int j]) := fun j => by rw [List.getElem?_set_self hn]
          refine ⟨by simp, ?_⟩
          simp [celOk (e1 _), -seqP_nx]
          refine seqP_nx.mpr ?_
          simp [celOk (e1 _), mulOk_r (x := N) (y := 2147483587) (by decide) (by decide)]
          refine (mixed_ok (by omega) (by omega)).mono ?_
          rintro _ ⟨r, rfl⟩
          simp
          rw [Int.add_assoc]
        · rintro ρ M' ⟨N, rfl, rfl⟩
          refine ⟨by simp, ?_⟩
          exact ⟨_, _, rfl, by omega, by simp at ht ⊢; omega⟩
      by_cases hg : (1000000000 : Int) < m
      · simp [powOk, hg]
        exact key 4 (by decide)
      · simp [powOk, hg]
        exact key 1 (by decide)
    · rintro o ⟨k', N, rfl, q0, q1⟩
      simp [hm]
      have f0 := fmod_nn N h0
      have f1 := fmod_lt N h0
      refine ⟨(N.fmod m).toNat, by omega, by rw [Int.toNat_of_nonneg f0], ⟨a, c, k', ?_, q0, by omega⟩, _, rfl⟩
      rw [List.getElem?_set_self hn]
theorem number_ok {M : DSt} {b n : Nat} {w : Int} (h : Pu b n M) (hb : b ≤ 10 ^ 11) : Ok (f__law_number [.c n, .d (.int w)] M) (DrawnV 9 (b + 8) n M) := by
  unfold f__law_number
  rw [ok_fn]
  by_cases w0 : w = 0
  · simp [b__law_number, startD, w0]
    refine (draw_ok h (by omega) (by decide) (by decide)).mono ?_
    rintro ⟨v, M1⟩ ⟨r, hr, hv, hM1⟩
    simp only at hv
    subst hv
    simp [hM1.take]
    exact ⟨_, ⟨by omega, by omega⟩, rfl, hM1.mono (by omega)⟩
  by_cases w1 : w = 1
  · simp [b__law_number, startD, w1]
    refine (draw_ok h (by omega) (by decide) (by decide)).mono ?_
    rintro ⟨v, M1⟩ ⟨r, hr, hv, hM1⟩
    simp only at hv
    subst hv
    simp [hM1.take]
    exact ⟨_, ⟨by omega, by omega⟩, rfl, hM1.mono (by omega)⟩
  by_cases w2 : w = 2
  · simp [b__law_number, startD, w2]
    refine (draw_ok h (by omega) (by decide) (by decide)).mono ?_
    rintro ⟨v, M1⟩ ⟨r, hr, hv, hM1⟩
    simp only at hv
    subst hv
    simp [hM1.take]
    exact ⟨_, ⟨by omega, by omega⟩, rfl, hM1.mono (by omega)⟩
  simp [b__law_number, startD, w0, w1, w2, powOk, mulOk_l (x := 2) (y := 10 ^ 9) (by decide) (by decide)]
  refine (draw_ok h (by omega) (by decide) (by decide)).mono ?_
  rintro ⟨v, M1⟩ ⟨r, hr, hv, hM1⟩
  simp only at hv
  subst hv
  simp
  refine (draw_ok hM1.1 (by omega) (by decide) (by decide)).mono ?_
  rintro ⟨v, M2⟩ ⟨q, hq, hv, hM2⟩
  simp only at hv
  subst hv
  simp
  refine pick (by omega) (by simpa using hq) fun z hz => ?_
  have ht : M2.take M.length = M2 := List.take_of_length_le (by rw [hM2.len, hM1.len]; exact Nat.le_refl _)
  rw [ht]
  obtain ⟨m, rfl, m0⟩ : ∃ m, z = .int m ∧ Bn 9 m := by
    simp at hz
    rcases hz with rfl | rfl | rfl
    · exact ⟨_, rfl, ⟨by omega, by omega⟩⟩
    · exact ⟨_, rfl, ⟨by decide, by decide⟩⟩
    · exact ⟨_, rfl, ⟨by decide, by decide⟩⟩
  exact ⟨m, m0, rfl, (hM1.trans hM2).mono (by omega)⟩
/-- between the turns of the row -/
def RowL (b n m c w : Nat) (M : DSt) (i : Nat) (ρ : DEnv) (M1 : DSt) : Prop := ∃ zs : List Int, Gu (b + 8 + 12 * i) n M M1 ∧ M1[M.length]? = some (some (zs.map D.int)) ∧ (∀ z ∈ zs, Bn 9 z) ∧ zs.length = i ∧ ρ = [some (.c n), some (.d (.int m)), some (.d (.int c)), some (.d (.int w)), some (.c M.length), none]
theorem RowL.push {b n m c w i b' : Nat} {M M1 : DSt} {zs : List Int} {z : Int} (hg : Gu b' n M M1) (hb : b' ≤ b + 8 + 12 * (i + 1)) (he : M1[M.length]? = some (some (zs.map D.int))) (hz : ∀ z ∈ zs, Bn 9 z) (hl : zs.length = i) (hn : Bn 9 z) :
    RowL b n m c w M (i + 1) [some (.c n), some (.d (.int m)), some (.d (.int c)), some (.d (.int w)), some (.c M.length), none] (M1.set M.length (some (zs.map D.int ++ [D.int z]))) := by
  refine ⟨zs ++ [z], (hg.put (Nat.le_refl _) _).mono hb, ?_, ?_, by simp [hl], rfl⟩
  · rw [List.getElem?_set_self (List.getElem?_eq_some_iff.mp he).1]
    simp
  · intro y hy
    rcases List.mem_append.mp hy with hy | hy
    · exact hz y hy
    · simp at hy
      subst hy
      exact hn
theorem row_ok {M : DSt} {b n m : Nat} (h : Pu b n M) (hb : b ≤ 10 ^ 10) (hm : m ≤ 60) : Ok (f__law_row [.c n, .d (.int m)] M) (RowU 9 (b + 1000) n m M) := by
  unfold f__law_row
  rw [ok_fn]
  simp [b__law_row, startD, -seqP_nx]
  refine (draw_ok h (by omega) (show (0 : Int) < (m : Int) + 1 by omega) (by omega)).mono ?_
  rintro ⟨v, M1⟩ ⟨c, hc, hv, hM1⟩
  simp only at hv
  subst hv
  have hg := h.grown.draw hM1
  simp [-seqP_nx]
  refine seqP_nx.mpr ?_
  simp [-seqP_nx]
  refine (draw_ok hM1.1 (by omega) (by decide) (by decide)).mono ?_
  rintro ⟨v, M2⟩ ⟨w, hw, hv, hM2⟩
  simp only at hv
  subst hv
  replace hg := hg.draw hM2
  have hlen : M2.length = M.length := by rw [hM2.len, hM1.len]
  simp [-seqP_nx]
  refine seqP_nx.mpr ?_
  simp [-seqP_nx]
  refine seqP_nx.mpr ?_
  rw [hlen]
  have hc0 : (M2 ++ [some ([] : List D)])[M.length]? = some (some (([] : List Int).map D.int)) := by
    rw [← hlen]
    simp
  have hg2 := hg.app (some [])
  generalize M2 ++ [some ([] : List D)] = M3 at *
  clear hM1 hM2 hlen hg
  refine seq_by (fun o => ∃ ρ M1, o = .nx ρ M1 ∧ RowL b n m c w M c ρ M1) ?_ ?_
  · simp [-seqP_nx]
    refine ⟨by omega, ?_⟩
    refine forL_by _ (RowL b n m c w M) ⟨[], hg2.mono (by omega), hc0, by simp, rfl, rfl⟩ ?_ ?_
    · rintro i x ρ M1 hx ⟨zs, hg, he, hz, hl, rfl⟩
      obtain ⟨hi, rfl⟩ := rng_at.mp hx
      have hi60 : i < 60 := by omega
      refine ⟨by simp, ?_⟩
      have other : ∀ {M4 : DSt} {b' : Nat} (hg4 : Gu b' n M M4) (hb4 : b' ≤ b + 12 + 12 * i) (he4 : M4[M.length]? = some (some (zs.map D.int))), Ok (dExpr (eM mAppend (eVar 4) (aCons (eCall f__law_number (aCons (eVar 0) (aCons (e2 oMod (eVar 3) (eC (.int 4))) aNil))) aNil)) [some (.c n), some (.d (.int m)), some (.d (.int c)), some (.d (.int w)), some (.c M.length), some (.d (.int i))] M4) fun o => turnP (RowL b n m c w M (i + 1)) (fun o => ∃ ρ M1, o = .nx ρ M1 ∧ RowL b n m c w M c ρ M1) (wipeO [5] o) := by
        intro M4 b' hg4 hb4 he4
        simp
        refine (number_ok hg4.pu (by omega)).mono ?_
        rintro ⟨v, M5⟩ ⟨z, hz9, hv, hM5⟩
        simp only at hv
        subst hv
        have he5 : M5[M.length]? = some (some (zs.map D.int)) := by
          rw [hM5.at (by have := hg4.1; omega)]
          exact he4
        simp [celOk he5]
        refine ⟨by omega, ?_⟩
        exact RowL.push (hg4.draw hM5) (by omega) he5 hz hl hz9
      by_cases w4 : w = 4
      · by_cases i2 : 2 < i
        · have i2' : (2 : Int) < (i : Int) := by omega
          simp [-seqP_nx, w4, i2']
          refine (draw_ok hg.pu (by omega) (by decide) (by decide)).mono ?_
          rintro ⟨v, M4⟩ ⟨r, hr, hv, hM4⟩
          simp only at hv
          subst hv
          have hg4 := hg.draw hM4
          have he4 : M4[M.length]? = some (some (zs.map D.int)) := by
            rw [hM4.at (by have := hg.1; omega)]
            exact he
          by_cases r0 : 0 < r
          · have r0' : (0 : Int) < (r : Int) := by omega
            have hj : i - 3 < zs.length := by omega
            have ej : (i : Int) - 3 = ((i - 3 : Nat) : Int) := by omega
            have ez := ints_at hj
            have bz := hz _ (ints_mem hj)
            generalize zs.getD (i - 3) 0 = z at *
            have f0 := fmod_nn (i : Int) (show (0 : Int) < 3 by decide)
            have f1 := fmod_lt (i : Int) (show (0 : Int) < 3 by decide)
            have bz0 := bz.1
            have bz1 := bz.2
            simp [r0, celOk he4, ej, ok_atN ez, powOk]
            by_cases hs : (if z < 0 then -z else z) < 100000000
            · simp [hs, mulOk_r (x := (i : Int).fmod 3) (y := 1) (by decide) (by decide)]
              refine pick f0 (by simpa using f1) fun q hq => ?_
              obtain ⟨u, rfl, u0, u1⟩ : ∃ u : Int, q = .int u ∧ 1 ≤ u ∧ u ≤ 2 := by
                simp at hq
                rcases hq with rfl | rfl
                · exact ⟨1, rfl, by decide, by decide⟩
                · exact ⟨2, rfl, by decide, by decide⟩
              have hu : u = 1 ∨ u = 2 := by omega
              simp [mulOk_r (x := z) (y := u) (by omega) (by omega), celOk he4]
              refine ⟨by omega, ?_⟩
              have := RowL.push (b := b) (m := m) (c := c) (w := w) (z := z * u) hg4 (by omega) he4 hz hl (by
                have hs' : -100000000 < z ∧ z < 100000000 := by split at hs <;> omega
                rcases hu with rfl | rfl
                · exact ⟨by omega, by omega⟩
                · exact ⟨by omega, by omega⟩)
              simpa [w4] using this
            · simp [hs, mulOk_r (x := (i : Int).fmod 3) (y := 0) (by decide) (by decide)]
              simp [mulOk_r (x := z) (y := 1) (by omega) (by omega), celOk he4]
              refine ⟨by omega, ?_⟩
              have := RowL.push (b := b) (m := m) (c := c) (w := w) (z := z) hg4 (by omega) he4 hz hl bz
              simpa [w4] using this
          · have r0' : ¬ (0 : Int) < (r : Int) := by omega
            have := other hg4 (by omega) he4
            simp only [w4] at this
            simp [r0]
            simpa using this
        · have i2' : ¬ (2 : Int) < (i : Int) := by omega
          have := other hg (by omega) he
          simp only [w4] at this
          simp [-ok_expr, w4, i2']
          simpa [-ok_expr] using this
      · have w4' : ¬ (w : Int) = 4 := by omega
        have := other hg (by omega) he
        simp [-ok_expr, w4']
        simpa [-ok_expr] using this
    · rintro ρ M1 hI
      simp at hI
      exact ⟨by simp, ρ, M1, rfl, hI⟩
  · rintro o ⟨ρ, M1, rfl, zs, hg, he, hz, hl, rfl⟩
    simp
    exact RowU_fin ⟨hz, by omega⟩ (by omega) (hg.mono (by omega)) (Nat.le_refl _) he
def KindU (b n : Nat) (M : DSt) (p : Dv × DSt) : Prop := ∃ kd : Kd, p.1 = .d kd.s ∧ Lu b n M p.2
theorem kind_ok {M : DSt} {b n : Nat} (h : Pu b n M) (hb : b ≤ 10 ^ 9) : Ok (f__law_kind [.c n] M) (KindU (b + 4) n M) := by
  unfold f__law_kind
  rw [ok_fn]
  simp [b__law_kind, startD]
  refine (draw_ok h (by omega) (by decide) (by decide)).mono ?_
  rintro ⟨v, M1⟩ ⟨r, hr, hv, hM1⟩
  simp only at hv
  subst hv
  simp
  refine pick (by omega) (by simpa using hr) fun z hz => ?_
  obtain ⟨kd, rfl⟩ := kinds_mem hz
  simp [hM1.take]
  exact ⟨kd, rfl, hM1⟩
def LengthU (b n : Nat) (M : DSt) (p : Dv × DSt) : Prop := ∃ l : Nat, 1 ≤ l ∧ l ≤ 40 ∧ p.1 = .d (.int l) ∧ Lu b n M p.2
theorem length_ok {M : DSt} {b n : Nat} {xs : List Int} (h : Pu b n M) (hb : b ≤ 10 ^ 9) : Ok (f__law_length [.c n, .d (rowD xs)] M) (LengthU (b + 12) n M) := by
  unfold f__law_length
  rw [ok_fn]
  simp [b__law_length, startD, rowD]
  refine (draw_ok h (by omega) (by decide) (by decide)).mono ?_
  rintro ⟨v, M1⟩ ⟨r, hr, hv, hM1⟩
  simp only at hv
  subst hv
  simp
  have hm : ∃ q : Int, (if (if (xs.length : Int) + 1 < 40 then (xs.length : Int) + 1 else 40) > 1 then (if (xs.length : Int) + 1 < 40 then (xs.length : Int) + 1 else 40) else 1) = q ∧ 0 < q ∧ q ≤ 40 := by
    refine ⟨_, rfl, ?_⟩
    split <;> split at * <;> omega
  obtain ⟨q, e, q0, q1⟩ := hm
  simp only [gt_iff_lt] at e
  rw [e]
  refine (draw_ok hM1.1 (by omega) q0 (by omega)).mono ?_
  rintro ⟨v, M2⟩ ⟨r2, hr2, hv, hM2⟩
  simp only at hv
  subst hv
  simp
  refine (draw_ok hM2.1 (by omega) (by decide) (by decide)).mono ?_
  rintro ⟨v, M3⟩ ⟨r3, hr3, hv, hM3⟩
  simp only at hv
  subst hv
  simp
  rw [fdiv_s (by decide)]
  refine pick (by omega) (by simp; omega) fun z hz => ?_
  have ht : M3.take M.length = M3 := List.take_of_length_le (by rw [hM3.len, hM2.len, hM1.len]; exact Nat.le_refl _)
  have hL := ((hM1.trans hM2).trans hM3).mono (b' := b + 12) (by omega)
  simp at hz
  rcases hz with rfl | rfl | rfl
  · simp [ht]
    exact ⟨1 + r, by omega, by omega, by simp, hL⟩
  · simp [ht]
    exact ⟨1 + r2, by omega, by omega, by simp, hL⟩
  · simp [ht]
    exact ⟨40, by omega, by omega, rfl, hL⟩
theorem one_ok {M : DSt} {b n : Nat} (h : Pu b n M) (hb : b ≤ 10 ^ 9) : Ok (f__law_one [.c n] M) (RowU 9 (b + 1100) n 40 M) := by
  unfold f__law_one
  rw [ok_fn]
  simp [b__law_one, startD]
  refine (draw_ok h (by omega) (by decide) (by decide)).mono ?_
  rintro ⟨v, M1⟩ ⟨r, hr, hv, hM1⟩
  simp only at hv
  subst hv
  simp
  rw [fdiv_s (by decide)]
  refine pick (by omega) (by simp; omega) fun z hz => ?_
  obtain ⟨m, rfl, m1⟩ : ∃ m : Nat, z = .int m ∧ m ≤ 40 := by
    simp at hz
    rcases hz with rfl | rfl | rfl
    · exact ⟨9, rfl, by decide⟩
    · exact ⟨24, rfl, by decide⟩
    · exact ⟨40, rfl, by decide⟩
  refine (row_ok hM1.1 (by omega) (by omega)).mono ?_
  rintro _ ⟨xs, M2, hx, hxl, hM2, rfl⟩
  have hl : M2.length = M.length := by rw [hM2.len, hM1.len]
  have hl1 := hM1.len
  simp only [hl1, ← hl]
  simp only [finP_rt, ok_fin_new]
  exact ⟨xs, M2, hx, by omega, (hM1.trans hM2).mono (by omega), by rw [hl]⟩
def GapU (b n : Nat) (M : DSt) (p : Dv × DSt) : Prop := ∃ l : Nat, 1 ≤ l ∧ l ≤ 200 ∧ p.1 = .d (.int l) ∧ Lu b n M p.2
theorem gap_ok {M : DSt} {b n : Nat} {xs : List Int} (hx : xs.length ≤ 100) (h : Pu b n M) (hb : b ≤ 10 ^ 9) : Ok (f__law_gap [.c n, .d (rowD xs)] M) (GapU (b + 12) n M) := by
  unfold f__law_gap
  rw [ok_fn]
  simp [b__law_gap, startD, rowD]
  refine (draw_ok h (by omega) (by decide) (by decide)).mono ?_
  rintro ⟨v, M1⟩ ⟨r, hr, hv, hM1⟩
  simp only at hv
  subst hv
  simp
  have hm : ∃ q : Int, (if (xs.length : Int) > 1 then (xs.length : Int) else 1) = q ∧ 0 < q ∧ q ≤ 100 := by
    refine ⟨_, rfl, ?_⟩
    split <;> omega
  obtain ⟨q, e, q0, q1⟩ := hm
  simp only [gt_iff_lt] at e
  rw [e]
  refine (draw_ok hM1.1 (by omega) q0 (by omega)).mono ?_
  rintro ⟨v, M2⟩ ⟨r2, hr2, hv, hM2⟩
  simp only at hv
  subst hv
  simp
  refine (draw_ok hM2.1 (by omega) (by decide) (by decide)).mono ?_
  rintro ⟨v, M3⟩ ⟨r3, hr3, hv, hM3⟩
  simp only at hv
  subst hv
  simp
  rw [fdiv_s (by decide)]
  refine pick (by omega) (by simp; omega) fun z hz => ?_
  have ht : M3.take M.length = M3 := List.take_of_length_le (by rw [hM3.len, hM2.len, hM1.len]; exact Nat.le_refl _)
  have hL := ((hM1.trans hM2).trans hM3).mono (b' := b + 12) (by omega)
  simp at hz
  rcases hz with rfl | rfl | rfl | rfl
  · simp [ht]
    exact ⟨1, by omega, by omega, by simp, hL⟩
  · simp [ht]
    exact ⟨1 + r, by omega, by omega, by simp, hL⟩
  · simp [ht]
    exact ⟨1 + r2, by omega, by omega, by simp, hL⟩
  · simp [ht]
    exact ⟨200, by omega, by omega, rfl, hL⟩
/-- how far, or None -/
def oneD : Option ((Int × Int) × Nat) → D
  | none => .non
  | some x => frD x.1
theorem place_of_eq {M : DSt} {k l : Nat} {x : List Int} {ss : List (List Int)} {fr : List Nat} (kd : Kd) (hx : Row k x) (hxl : x.length = l) (l0 : 0 < l) (hs : ∀ s ∈ ss, Row k s ∧ s.length = l) (hk : k ≤ 100) (hf : ∀ q ∈ fr, q < ss.length) :
    f_place_of [.d (.lst (rowsD ss)), .d kd.s, .d (rowD x), .d (.lst (natsD fr))] M = some (.d (plD (placeZ kd ss x fr)), M) := by
  apply ok_eq
  unfold f_place_of
  rw [ok_fn]
  simp [b_place_of, startD, natsD]
  refine forL_fold (fun b : Option ((Int × Int) × Nat) => [some (.d (.lst (rowsD ss))), some (.d kd.s), some (.d (rowD x)), some (.d (.lst (natsD fr))), some (.d (oneD b)), some (.d (plD (b.map (·.2)))), none, none]) (fun b q => minStep b (farZ kd x (nthZ ss q), q)) (BestI (4 * k + 11)) (by simp) (b := none) (by intro x e; cases e) ?_ ?_
  · intro b q hq hb
    have hq0 := hf q hq
    have hq' := hs _ (getD_mem hq0)
    have fb := farZ_bn kd hx hq'.1
    have fe := fun M => far_told_eq (M := M) kd hx hq'.1 hk (by omega)
    have ea := rowsD_at hq0
    refine ⟨minStep_ok fb hb, ?_⟩
    cases b with
    | none => simp [ok_atN ea, rowD, ↓okE (fe _), oneD, plD, minStep]
    | some y =>
      obtain ⟨f, r⟩ := y
      have le := fun M => is_less_eq (M := M) fb (hb _ rfl) (by omega)
      have ni : isNon (.d (frD f)) = false := rfl
      cases hl : lessZ (farZ kd x (nthZ ss q)) f <;> simp [ok_atN ea, rowD, ↓okE (fe _), oneD, plD, minStep, ↓okE (le _), hl, ni]
  · intro _
    rw [← minBy_fold]
    simp [placeZ]
/-- next and last -/
def nextZ (kd : Kd) (ss : List (List Int)) (gap p : Nat) : Option Nat × Option Nat := (placeZ kd ss (nthZ ss p) ((List.range ss.length).filter fun q => decide (p + gap ≤ q)), placeZ kd ss (nthZ ss p) ((List.range ss.length).filter fun q => decide (q < p + 1 - gap)))
def nextD (x : Option Nat × Option Nat) : D := .tup [plD x.1, plD x.2]
theorem nexts_ok {M : DSt} {k l : Nat} {xs : List Int} {gap : Nat} (kd : Kd) (hx : Row k xs) (l0 : 1 ≤ l) (l1 : l ≤ 40) (g0 : 1 ≤ gap) (g1 : gap ≤ 200) (hk : k ≤ 100) :
    f_nexts [.d (rowD xs), .d kd.s, .d (.int gap), .d (.int l)] M = some (.c M.length, M ++ [some ((List.range (stretchesZ xs l).length).map fun p => nextD (nextZ kd (stretchesZ xs l) gap p))]) := by
  apply ok_eq
  unfold f_nexts
  rw [ok_fn]
  have e1 := fun M => must_ask_eq (M := M) kd g0 g1 l0 l1
  have e2 := fun M => stretches_eq (M := M) (xs := xs) (l := l) (by omega) hx.2
  have hs : ∀ s ∈ stretchesZ xs l, Row k s ∧ s.length = l := by
    intro s hs
    obtain ⟨p, hp, rfl⟩ := List.mem_map.mp hs
    have := List.mem_range.mp hp
    exact ⟨cutZ_rw hx, cutZ_len (by omega)⟩
  have hn := (stretches_fine hx (show 0 < l by omega)).2
  generalize stretchesZ xs l = ss at *
  simp only [b_nexts, startD]
  simp [↓okE (e1 _), -seqP_nx]
  refine seqP_nx.mpr ?_
  simp [-seqP_nx, ↓okE (e2 _)]
  refine seqP_nx.mpr ?_
  simp [-seqP_nx, rowsD_len]
  refine seqP_nx.mpr ?_
  simp [-seqP_nx]
  refine seqP_nx.mpr ?_
  simp
  rw [rowsD_enum]
  refine forL_app [some (.d (rowD xs)), some (.d kd.s), some (.d (.int gap)), some (.d (.int l)), some (.d (.lst (rowsD ss))), some (.d (.int ss.length)), some (.c M.length), none, none, none, none] (fun p => nextD (nextZ kd ss gap p)) (by simp) ?_ ?_
  · intro p hp zs hzs
    have hp := List.mem_range.mp hp
    have hb : zs.length < 1000000 := by simp at hzs; omega
    have hp' := hs _ (getD_mem hp)
    have f1 := fun M => place_of_eq (M := M) (fr := (List.range ss.length).filter fun q => decide (p + gap ≤ q)) kd hp'.1 hp'.2 l0 hs hk (fun q hq => List.mem_range.mp (List.mem_filter.mp hq).1)
    have f2 := fun M => place_of_eq (M := M) (fr := (List.range ss.length).filter fun q => decide (q < p + 1 - gap)) kd hp'.1 hp'.2 l0 hs hk (fun q hq => List.mem_range.mp (List.mem_filter.mp hq).1)
    have r1 : rng ((p : Int) + (gap : Int)) ((ss.length : Int) - ((p : Int) + (gap : Int))).toNat = natsD ((List.range ss.length).filter fun q => decide (p + gap ≤ q)) := by
      rw [range_ge, show (p : Int) + (gap : Int) = ((p + gap : Nat) : Int) by omega, show ((ss.length : Int) - ((p + gap : Nat) : Int)).toNat = ss.length - (p + gap) by omega, rng_nats]
    have r2 : rng 0 (if (p : Int) - (gap : Int) + 1 > 0 then (p : Int) - (gap : Int) + 1 else 0).toNat = natsD ((List.range ss.length).filter fun q => decide (q < p + 1 - gap)) := by
      rw [range_lt (by omega), rng0_nats]
      congr 2
      split <;> omega
    have b1 : -1000000 ≤ (p : Int) + (gap : Int) ∧ (p : Int) + (gap : Int) ≤ 1000000 ∧ -1000000 ≤ (ss.length : Int) ∧ (ss.length : Int) ≤ 1000000 := by omega
    have b2 : -1000000 ≤ (if (p : Int) - (gap : Int) + 1 > 0 then (p : Int) - (gap : Int) + 1 else 0) ∧ (if (p : Int) - (gap : Int) + 1 > 0 then (p : Int) - (gap : Int) + 1 else 0) ≤ 1000000 := by
      constructor <;> split <;> omega
    have o1 : ∀ M, oListR2 false [.d (.int ((p : Int) + (gap : Int))), .d (.int ss.length)] M = some (.d (.lst (natsD ((List.range ss.length).filter fun q => decide (p + gap ≤ q)))), M) := by
      intro M
      simp only [oListR2]
      rw [grd_ok b1, r1]
      rfl
    have o2 : ∀ M, oListR1 false [.d (.int (if (p : Int) - (gap : Int) + 1 > 0 then (p : Int) - (gap : Int) + 1 else 0))] M = some (.d (.lst (natsD ((List.range ss.length).filter fun q => decide (q < p + 1 - gap)))), M) := by
      intro M
      simp only [oListR1]
      rw [grd_ok b2, r2]
      rfl
    simp [-seqP_nx, ↓okE (o1 _), ↓okE (f1 _)]
    refine seqP_nx.mpr ?_
    simp only [gt_iff_lt] at o2
    simp [-seqP_nx, ↓okE (o2 _), ↓okE (f2 _)]
    refine seqP_nx.mpr ?_
    have hc : (M ++ [some zs])[M.length]? = some (some zs) := by simp
    simp [celOk hc, hb, nextD, nextZ]
  · simp
theorem stretchesV_eq {M : DSt} {v : Dv} {xs : List Int} {l : Nat} (hv : lv M v = some (xs.map D.int)) (hl : 0 < l) (hx : xs.length ≤ 100) : f_stretches [v, .d (.int l)] M = some (.d (.lst (rowsD (stretchesZ xs l))), M) := by
  apply ok_eq
  unfold f_stretches
  rw [ok_fn]
  have ec : f_count_of [v, .d (.int l)] M = some (.d (.int ((xs.length + 1 - l : Nat) : Int)), M) := by
    apply ok_eq
    unfold f_count_of
    rw [ok_fn]
    simp [b_count_of, startD, ↓ok_lenV hv]
    split <;> omega
  simp [b_stretches, startD, ↓okE ec, rng0]
  refine ⟨by omega, by omega, ?_⟩
  refine comp_map (fun p => rowD (cutZ xs l p)) (by simp) ?_ ?_
  · intro p hp
    have hp' := List.mem_range.mp hp
    have es : f_stretch [v, .d (.int l), .d (.int p)] M = some (.d (rowD (cutZ xs l p)), M) := by
      apply ok_eq
      unfold f_stretch
      rw [ok_fn]
      simp [b_stretch, startD, ↓ok_slV hv, rowD, cutD_map (show p + l ≤ xs.length by omega)]
    simp [↓okE es]
  · simp [rowsD, stretchesZ, Function.comp_def]
theorem must_gap_eq {M : DSt} {gap : Nat} (g0 : 1 ≤ gap) (g1 : gap ≤ 200) : f_must_gap [.d (.int gap)] M = some (.d .non, M) := by
  apply ok_eq
  unfold f_must_gap
  rw [ok_fn]
  have a : (1 : Int) ≤ gap := by omega
  have b : (gap : Int) ≤ 200 := by omega
  simp [b_must_gap, startD, v_MOST_GAP, a, b]
theorem place_mem {kd : Kd} {ss : List (List Int)} {x : List Int} {fr : List Nat} {q : Nat} (hx : 0 < x.length) (h : placeZ kd ss x fr = some q) : q ∈ fr := by
  unfold placeZ minBy at h
  cases e : minOf (fr.map fun q => (farZ kd x (nthZ ss q), q)) with
  | none => rw [e] at h; cases h
  | some y =>
    rw [e] at h
    simp at h
    have m := (minOf_some (by
      intro y hy
      obtain ⟨q, _, rfl⟩ := List.mem_map.mp hy
      exact farZ_pos kd (by omega)) e).mem
    obtain ⟨r, hr, rfl⟩ := List.mem_map.mp m
    simp at h
    subst h
    exact hr
def Top (b : Nat) (M : DSt) (n : Nat) (xs : List D) (M1 : DSt) : Prop := M1[n]? = some (some xs) ∧ M1.take b = M ∧ b ≤ n ∧ n < M1.length
/-- where each place leads -/
def leadZ (f : Nat → Option Nat × Option Nat) (p : Nat) : Option Nat := match (f p).1 with
  | none => none
  | some q => if (f q).2 = some p then some q else none
theorem pl_shp {o : Option Nat} {n : Nat} : (plD o).shp n = true := by cases o <;> cases n <;> rfl
theorem pl_eq {o : Option Nat} {p : Nat} : D.eqv (plD o) (.int p) = decide (o = some p) := by
  cases o with
  | none => simp [plD, D.eqv]
  | some q => 
    simp only [plD, D.eqv, Option.some.injEq]
    by_cases h : q = p
    · simp [h]
    · have : ¬ (q : Int) = (p : Int) := by omega
      simp [h, this]
theorem leads_ok {M : DSt} {n : Nat} {f : Nat → Option Nat × Option Nat} (hn : n ≤ 1000) (hf : ∀ p q, p < n → (f p).1 = some q → q < n) :
    f_leads_of [.d (.lst ((List.range n).map fun p => nextD (f p)))] M = some (.c M.length, M ++ [some ((List.range n).map fun p => plD (leadZ f p))]) := by
  apply ok_eq
  unfold f_leads_of
  rw [ok_fn]
  have ea : ∀ p, p < n → ((List.range n).map fun p => nextD (f p))[p]? = some (nextD (f p)) := by
    intro p hp
    simp [hp]
  have en : enumD 0 ((List.range n).map fun p => nextD (f p)) = (List.range n).map fun q => .tup [.int (q : Nat), nextD (f q)] := by
    have := enumD_range (xs := (List.range n).map fun p => nextD (f p)) (g := fun q => nextD (f q)) fun i hi => ea i (by simpa using hi)
    rw [this]
    simp
  simp [b_leads_of, startD]
  rw [en]
  refine forL_app [some (.d (.lst ((List.range n).map fun p => nextD (f p)))), some (.c M.length), none, none] (fun p => plD (leadZ f p)) (by simp) ?_ ?_
  · intro p hp zs hzs
    have hp := List.mem_range.mp hp
    have hb : zs.length < 1000000 := by simp at hzs; omega
    have hc : (M ++ [some zs])[M.length]? = some (some zs) := by simp
    generalize hR : (List.range n).map (fun p => nextD (f p)) = R at *
    have nN : isNon (.d .non) = true := rfl
    cases h1 : (f p).1 with
    | none =>
      have np : nextD (f p) = .tup [.non, plD (f p).2] := by unfold nextD; rw [h1]; rfl
      have hl : plD (leadZ f p) = .non := by unfold leadZ; rw [h1]; rfl
      simp [np, hl, oNotN, isNon, hb, celOk hc]
    | some q =>
      have hq := hf p q hp h1
      have e1 : ∀ M, Ok (oEq (.d (plD (f q).2)) (.d (.int p)) M) fun r => r = (.d (.bl (decide ((f q).2 = some p))), M) := by
        intro M
        rw [ok_eqD pl_shp (by rfl), pl_eq]
      have e1 : ∀ M, oEq (.d (plD (f q).2)) (.d (.int p)) M = some (.d (.bl (decide ((f q).2 = some p))), M) := fun M => ok_eq (e1 M)
      have ea1 := ea q hq
      have np : nextD (f p) = .tup [.int q, plD (f p).2] := by unfold nextD; rw [h1]; rfl
      have nq : nextD (f q) = .tup [plD (f q).1, plD (f q).2] := rfl
      rw [nq] at ea1
      by_cases h2 : (f q).2 = some p
      · have hl : plD (leadZ f p) = .int q := by unfold leadZ; rw [h1]; simp [h2, plD]
        simp [np, hl, oNotN, isNon, hb, celOk hc, ok_atN ea1, ↓okE (e1 _), h2]
      · have hl : plD (leadZ f p) = .non := by unfold leadZ; rw [h1]; simp [h2, plD]
        simp [np, hl, oNotN, isNon, hb, celOk hc, ok_atN ea1, ↓okE (e1 _), h2]
  · simp
theorem lead_up {kd : Kd} {ss : List (List Int)} {gap p q : Nat} (g0 : 1 ≤ gap) (hs : ∀ s ∈ ss, 0 < s.length) (hp : p < ss.length) (h : leadZ (nextZ kd ss gap) p = some q) : p < q ∧ q < ss.length := by
  unfold leadZ at h
  cases h1 : (nextZ kd ss gap p).1 with
  | none => rw [h1] at h; cases h
  | some r =>
    rw [h1] at h
    simp only at h
    split at h
    · simp at h
      subst h
      have := place_mem (hs _ (getD_mem hp)) h1
      obtain ⟨m1, m2⟩ := List.mem_filter.mp this
      have := List.mem_range.mp m1
      simp at m2
      omega
    · cases h
theorem next_lt {kd : Kd} {ss : List (List Int)} {gap p q : Nat} (hs : ∀ s ∈ ss, 0 < s.length) (hp : p < ss.length) (h : (nextZ kd ss gap p).1 = some q) : q < ss.length := by
  have := place_mem (hs _ (getD_mem hp)) h
  obtain ⟨m1, m2⟩ := List.mem_filter.mp this
  exact List.mem_range.mp m1
theorem at_last {cs : List D} {x : D} : atD (cs ++ [x]) (-1) = some x := by
  unfold atD ixD
  have h : -((cs ++ [x]).length : Int) ≤ -1 := by simp; omega
  have h2 : (-1 + ((cs ++ [x]).length : Int)).toNat = cs.length := by simp; omega
  rw [if_neg (by decide), if_pos h]
  simp only [h2]
  simp
theorem flat_leads {g : Nat → Option Nat} {n : Nat} : ((List.range n).map fun p => plD (g p)).all D.flat = true := by
  rw [List.all_eq_true]
  intro x hx
  obtain ⟨p, _, rfl⟩ := List.mem_map.mp hx
  cases g p <;> rfl
def ChI (M : DSt) (n : Nat) (env : DEnv) (i : Nat) (ρ : DEnv) (M1 : DSt) : Prop := ∃ fs : List D, Top M.length M M.length fs M1 ∧ fs.length ≤ i ∧ ρ = env
def ChW (M1 : DSt) (n : Nat) (env : DEnv) (m : Nat) (ρ : DEnv) (M2 : DSt) : Prop := ∃ (e : Nat) (cs : List D), e < n ∧ m + e = n ∧ cs.length ≤ e ∧ M2 = M1 ++ [some (cs ++ [.int e])] ∧ ρ = env
theorem chains_ok {M : DSt} {l : Nat} {xs : List Int} {gap : Nat} (kd : Kd) (hx : Row 9 xs) (l0 : 1 ≤ l) (l1 : l ≤ 40) (g0 : 1 ≤ gap) (g1 : gap ≤ 200) :
    Ok (f_chains [.d (rowD xs), .d kd.s, .d (.int gap), .d (.int l)] M) fun r => ∃ fs, r = (.c M.length, M ++ [some fs]) := by
  unfold f_chains
  rw [ok_fn]
  have hs : ∀ s ∈ stretchesZ xs l, 0 < s.length := by
    intro s hs
    obtain ⟨p, hp, rfl⟩ := List.mem_map.mp hs
    have := List.mem_range.mp hp
    rw [cutZ_len (by omega)]
    omega
  have e1 := nexts_ok (M := M) kd hx l0 l1 g0 g1 (by decide)
  have hn := (stretches_fine hx (show 0 < l by omega)).2
  have e2 := leads_ok (M := M) (n := (stretchesZ xs l).length) (f := nextZ kd (stretchesZ xs l) gap) (by omega) (fun p q hp h => next_lt hs hp h)
  have up := fun p q hp h => lead_up (kd := kd) (ss := stretchesZ xs l) (p := p) (q := q) g0 hs hp h
  generalize stretchesZ xs l = ss at *
  generalize leadZ (nextZ kd ss gap) = g at *
  simp [b_chains, startD, -seqP_nx, ↓okE e1, ↓ok_frz rfl, ↓okE e2]
  refine seqP_nx.mpr ?_
  simp [-seqP_nx]
  refine seqP_nx.mpr ?_
  simp
  have ea : ∀ p, p < ss.length → ((List.range ss.length).map fun p => plD (g p))[p]? = some (plD (g p)) := by
    intro p hp
    simp [hp]
  have en : enumD 0 ((List.range ss.length).map fun p => plD (g p)) = (List.range ss.length).map fun q => .tup [.int (q : Nat), plD (g q)] := by
    have := enumD_range (xs := (List.range ss.length).map fun p => plD (g p)) (g := fun q => plD (g q)) fun i hi => ea i (by simpa using hi)
    rw [this]
    simp
  have fl := flat_leads (g := g) (n := ss.length)
  rw [en]
  generalize hR : (List.range ss.length).map (fun p => plD (g p)) = R at *
  refine forL_by _ (ChI M ss.length [some (.d (rowD xs)), some (.d kd.s), some (.d (.int gap)), some (.d (.int l)), some (.d (.lst R)), some (.c M.length), none, none, none]) ⟨[], ⟨by simp, by simp, by omega, by simp⟩, by simp, rfl⟩ ?_ ?_
  · rintro i x ρ M1 hx' ⟨fs, tp, fl2, rfl⟩
    refine ⟨by simp [stand], ?_⟩
    rw [List.getElem?_map] at hx'
    have hi : i < ss.length := by
      by_cases h : i < ss.length
      · exact h
      · simp [h] at hx'
    simp [hi] at hx'
    subst hx'
    cases hg : g i with
    | none =>
      simp [plD, oNotN, isNon]
      exact ⟨fs, tp, by omega, rfl⟩
    | some q =>
      have hin : ∀ M, ∃ b, oIn true (.d (.int i)) (.d (.lst R)) M = some (.d (.bl b), M) := by
        intro M
        refine ⟨xor true (R.any fun b => D.eqv b (.int i)), ?_⟩
        simp only [oIn, sv]
        exact grd_ok ⟨rfl, fl⟩
      obtain ⟨b, hin⟩ := hin M1
      have nn : isNon (.d (.int (q : Int))) = false := rfl
      cases b with
      | false =>
        simp [plD, oNotN, isNon, ↓okE hin]
        exact ⟨fs, tp, by omega, rfl⟩
      | true =>
        simp [plD, oNotN, nn, ↓okE hin, -seqP_nx, -ok_seq]
        rw [ok_seq]
        simp [-seqP_nx, -ok_seq]
        refine seqP_nx.mpr ?_
        rw [ok_seq]
        refine while_by (ChW M1 ss.length [some (.d (rowD xs)), some (.d kd.s), some (.d (.int gap)), some (.d (.int l)), some (.d (.lst R)), some (.c M.length), some (.d (.int i)), some (.d (.int q)), some (.c M1.length)]) (ss.length - i) ⟨i, [], hi, by omega, by simp, by simp, rfl⟩ ?_
        rintro m ρ M2 ⟨e, cs, he, hm, hcl, rfl, rfl⟩
        have hc : (M1 ++ [some (cs ++ [.int (e : Int)])])[M1.length]? = some (some (cs ++ [.int (e : Int)])) := by simp
        have ea1 := ea e he
        simp [celOk hc, at_last, ok_atN ea1]
        cases hge : g e with
        | none =>
          rw [if_pos (show isNon (.d (plD none)) = true from rfl)]
          have hlt := tp.2.2.2
          have c2 : (M1 ++ [none])[M.length]? = some (some fs) := by
            rw [List.getElem?_append_left hlt]
            exact tp.1
          rw [celOk c2]
          refine ⟨by omega, fs ++ [D.lst (cs ++ [.int (e : Int)])], ⟨?_, ?_, Nat.le_refl _, by simp; omega⟩, by simp; omega, rfl⟩
          · rw [List.getElem?_set_self (by simp; omega)]
          · rw [List.take_set_of_le (Nat.le_refl _), List.take_append_of_le_length (by omega)]
            exact tp.2.1
        | some r =>
          have hr := up e r he hge
          rw [if_neg (by simp [plD, isNon])]
          exact ⟨by omega, ss.length - r, by omega, r, cs ++ [.int (e : Int)], hr.2, by omega, by simp; omega, by simp [plD], rfl⟩
  · rintro ρ M1 ⟨fs, ⟨t1, t2, t3, t4⟩, _, rfl⟩
    refine ⟨by simp [stand], ?_⟩
    simp
    refine (ok_finC (Nat.le_refl _) t1).mpr ⟨fs, by rw [t2]⟩
def LoI (M : DSt) (N : Nat) (env : Nat → DEnv) (m : Nat) (ρ : DEnv) (M1 : DSt) : Prop := ∃ (fs : List D) (lf : List Nat) (c : Nat), Top M.length M M.length fs M1 ∧ fs.length + lf.length ≤ N ∧ M.length < c ∧ M1[c]? = some (some (natsD lf)) ∧ (∀ q ∈ lf, q < N) ∧ m = lf.length ∧ ρ = env c
def LoJ (M : DSt) (N T : Nat) (fs : List D) (env : Nat → List Nat → Nat → DEnv) (m : Nat) (ρ : DEnv) (M1 : DSt) : Prop := ∃ (lt lf : List Nat) (at' c : Nat), Top M.length M M.length fs M1 ∧ M.length < c ∧ M1[c]? = some (some (natsD lf)) ∧ (∀ q ∈ lf, q < N) ∧ (∀ q ∈ lt, q < N) ∧ at' ≤ lt.length ∧ lt.length + lf.length = T ∧ 1 ≤ lt.length ∧ m + at' = T ∧ ρ = env c lt at'
theorem pop0 {M : DSt} {c : Nat} {x : D} {xs : List D} {P : Dv × DSt → Prop} (h : M[c]? = some (some (x :: xs))) : Ok (mPop (.c c) [.d (.int 0)] M) P ↔ P (.d x, M.set c (some xs)) := by
  simp [mPop, h, ixD, setC, grd]
theorem ints_nats {fr : List Nat} : intsD (natsD fr) = some (fr.map fun q : Nat => (q : Int)) := by
  induction fr with
  | nil => rfl
  | cons q fr ih =>
    show (intsD (natsD fr)).map _ = _
    rw [ih]
    rfl
theorem sort_ok {M : DSt} {fr : List Nat} : ∃ ys, oSorted false [.d (.lst (natsD fr))] M = some (.d (.lst ys), M) := by
  simp [oSorted, lv, ints_nats, mkL]
theorem nats_flat {fr : List Nat} : (natsD fr).all D.flat = true := by
  rw [List.all_eq_true]
  intro x hx
  obtain ⟨p, _, rfl⟩ := List.mem_map.mp hx
  rfl
theorem nats_any {fr : List Nat} {q : Nat} : (natsD fr).any (fun b => D.eqv b (.int q)) = fr.contains q := by
  induction fr with
  | nil => rfl
  | cons r fr ih =>
    show (D.eqv (.int (r : Int)) (.int q) || (natsD fr).any _) = _
    rw [ih, List.contains_cons]
    congr 1
    simp only [D.eqv]
    by_cases h : r = q
    · simp [h]
    · have h1 : ((r : Int) == (q : Int)) = false := by rw [beq_eq_false_iff_ne]; omega
      have h2 : (q == r) = false := by rw [beq_eq_false_iff_ne]; omega
      rw [h1, h2]
theorem nin_eq {M : DSt} {fr : List Nat} {q : Nat} : oIn true (.d (.int q)) (.d (.lst (natsD fr))) M = some (.d (.bl (!fr.contains q)), M) := by
  simp only [oIn, sv, lv]
  rw [grd_ok ⟨rfl, nats_flat⟩, nats_any]
  simp
def nearB (kd : Kd) (ss : List (List Int)) (gap p q : Nat) : Bool := apartB gap p q && !lessZ (1, 2) (farZ kd (nthZ ss p) (nthZ ss q))
theorem fm_filter {P : Nat → Bool} {fr : List Nat} : fr.filterMap (fun q => if P q then some (D.int q) else none) = natsD (fr.filter P) := by
  induction fr with
  | nil => rfl
  | cons q fr ih =>
    rw [List.filterMap_cons, List.filter_cons]
    cases h : P q
    · simp [ih]
    · simp [ih, natsD]
theorem fm_len {P : Nat → Bool} {fr : List Nat} : (fr.filter P).length + (fr.filter fun q => !(fr.filter P).contains q).length = fr.length := by
  have e : (fr.filter fun q => !(fr.filter P).contains q) = fr.filter fun q => !P q := by
    refine List.filter_congr ?_
    intro q hq
    congr 1
    rw [Bool.eq_iff_iff, List.contains_iff_mem]
    exact ⟨fun h => (List.mem_filter.mp h).2, fun h => List.mem_filter.mpr ⟨hq, h⟩⟩
  rw [e]
  clear e
  induction fr with
  | nil => rfl
  | cons q fr ih =>
    rw [List.filter_cons, List.filter_cons]
    cases h : P q
    · simp; omega
    · simp; omega
theorem lots_ok {M : DSt} {l : Nat} {xs : List Int} {gap : Nat} (kd : Kd) (hx : Row 9 xs) (l0 : 1 ≤ l) (l1 : l ≤ 40) (g0 : 1 ≤ gap) (g1 : gap ≤ 200) :
    Ok (f_lots [.d (rowD xs), .d kd.s, .d (.int gap), .d (.int l), .d (.tup [.int 1, .int 2])] M) fun r => ∃ fs, r = (.c M.length, M ++ [some fs]) := by
  unfold f_lots
  rw [ok_fn]
  have e1 := fun M => must_ask_eq (M := M) kd g0 g1 l0 l1
  have e2 := fun M => stretches_eq (M := M) (xs := xs) (l := l) (by omega) hx.2
  have hs : ∀ s ∈ stretchesZ xs l, Row 9 s ∧ s.length = l := by
    intro s hs
    obtain ⟨p, hp, rfl⟩ := List.mem_map.mp hs
    have := List.mem_range.mp hp
    exact ⟨cutZ_rw hx, cutZ_len (by omega)⟩
  have hn := (stretches_fine hx (show 0 < l by omega)).2
  generalize stretchesZ xs l = ss at *
  simp only [b_lots, startD]
  simp [↓okE (e1 _), -seqP_nx]
  refine seqP_nx.mpr ?_
  simp [-seqP_nx, ↓okE (e2 _)]
  refine seqP_nx.mpr ?_
  simp [-seqP_nx, rowsD_len]
  refine seqP_nx.mpr ?_
  simp [-seqP_nx, rowsD_len]
  have o1 : ∀ M, oListR1 true [.d (.int ss.length)] M = some (.c M.length, M ++ [some (natsD (List.range ss.length))]) := by
    intro M
    simp only [oListR1]
    rw [grd_ok (by omega), ← rng0_nats]
    simp [mkL]
  simp [-seqP_nx, ↓okE (o1 _)]
  refine seqP_nx.mpr ?_
  rw [ok_seq]
  refine while_by (LoI M ss.length fun c => [some (.d (rowD xs)), some (.d kd.s), some (.d (.int gap)), some (.d (.int l)), some (.d (.tup [.int 1, .int 2])), some (.d (.lst (rowsD ss))), some (.c M.length), some (.c c), none, none, none, none, none]) ss.length ⟨[], List.range ss.length, M.length + 1, ⟨by simp, by simp, Nat.le_refl _, by simp⟩, by simp, by omega, by simp, fun q hq => List.mem_range.mp hq, by simp, by simp⟩ ?_
  rintro m ρ M1 ⟨fs, lf, c, tp, hT, hc0, hc, hlf, rfl, rfl⟩
  cases lf with
  | nil =>
    simp [celOk hc, natsD]
    exact (ok_finC (Nat.le_refl _) tp.1).mpr ⟨fs, by rw [tp.2.1]⟩
  | cons p lf =>
    have hl1 : (0 : Int) < ((natsD (p :: lf)).length : Int) := by simp [natsD]
    have hc' : M1[c]? = some (some (.int p :: natsD lf)) := hc
    have hcl : c < M1.length := (List.getElem?_eq_some_iff.mp hc).1
    simp only [List.length_cons] at hT
    have hne : M.length ≠ c := by omega
    simp [celOk hc, hl1, ↓pop0 hc', -seqP_nx, -ok_seq]
    rw [ok_seq]
    simp [-seqP_nx, -ok_seq, ↓pop0 hc']
    refine seqP_nx.mpr ?_
    rw [ok_seq]
    simp [-seqP_nx, -ok_seq]
    refine seqP_nx.mpr ?_
    simp [-seqP_nx, -ok_seq]
    rw [ok_seq]
    have tp2 : Top M.length M M.length fs (M1.set c (some (natsD lf))) := ⟨by rw [List.getElem?_set_ne (by omega)]; exact tp.1, by rw [List.take_set_of_le (by omega)]; exact tp.2.1, Nat.le_refl _, by simpa using tp.2.2.2⟩
    have hc2 : (M1.set c (some (natsD lf)))[c]? = some (some (natsD lf)) := by rw [List.getElem?_set_self hcl]
    generalize M1.set c (some (natsD lf)) = M2 at *
    refine while_by (LoJ M ss.length (lf.length + 1) fs fun c lt a => [some (.d (rowD xs)), some (.d kd.s), some (.d (.int gap)), some (.d (.int l)), some (.d (.tup [.int 1, .int 2])), some (.d (.lst (rowsD ss))), some (.c M.length), some (.c c), some (.d (.lst (natsD lt))), some (.d (.int a)), none, none, none]) (lf.length + 1) ⟨[p], lf, 0, c, tp2, hc0, hc2, fun q hq => hlf q (by simp [hq]), fun q hq => hlf q (by simp at hq; simp [hq]), by simp, by simp; omega, by simp, by omega, by simp [natsD]⟩ ?_
    rintro m ρ M3 ⟨lt, lf2, a, c2, tp3, hcc, hc3, h1, h2, h3, h4, h5, h6, rfl⟩
    have hlen : ((natsD lt).length : Int) = (lt.length : Int) := by simp [natsD]
    by_cases ha : a < lt.length
    · have ha' : (a : Int) < (lt.length : Int) := by omega
      obtain ⟨p1, ep⟩ : ∃ p1, lt[a]? = some p1 := ⟨lt[a], List.getElem?_eq_getElem ha⟩
      have hp1 := h2 p1 (List.mem_of_getElem? ep)
      have ea : (natsD lt)[a]? = some (.int (p1 : Int)) := by simp [natsD, ep]
      simp [hlen, ha', -seqP_nx, -ok_seq]
      rw [ok_seq]
      simp [-seqP_nx, -ok_seq, ok_atN ea]
      refine seqP_nx.mpr ?_
      rw [ok_seq]
      simp [-seqP_nx, -ok_seq]
      rw [hc3]
      have hL : (natsD lf2).length ≤ 1000000 := by simp [natsD]; omega
      have hN : natsD lf2 = lf2.map fun q : Nat => D.int q := rfl
      rw [show (some (some (natsD lf2))).join = some (natsD lf2) from rfl, ok_some]
      refine ⟨hL, ?_⟩
      have ep1 := rowsD_at hp1
      have rp1 := hs _ (getD_mem hp1)
      have half : Bn 47 ((1, 2) : Int × Int).1 ∧ Bn 47 ((1, 2) : Int × Int).2 := ⟨⟨by decide, by decide⟩, ⟨by decide, by decide⟩⟩
      rw [hN]
      refine comp_fm (fun q => if nearB kd ss gap p1 q then some (.int q) else none) (by simp [stand]) ?_ ?_
      · intro q hq
        have hq0 := h1 q hq
        have eq1 := rowsD_at hq0
        have rq := hs _ (getD_mem hq0)
        have fe := fun M => far_told_eq (M := M) kd rp1.1 rq.1 (by decide) (by omega)
        have fb := farZ_bn kd rp1.1 rq.1
        have le := fun M => is_less_eq (M := M) half fb (by omega)
        have h12 : frD (1, 2) = .tup [.int 1, .int 2] := rfl
        rw [h12] at le
        have hab : ((gap : Int) ≤ if (q : Int) - (p1 : Int) < 0 then -((q : Int) - (p1 : Int)) else (q : Int) - (p1 : Int)) ↔ apartB gap p1 q = true := by
          unfold apartB
          simp only [decide_eq_true_eq]
          split <;> omega
        by_cases hA : apartB gap p1 q = true
        · have hA' := hab.mpr hA
          cases hl : lessZ (1, 2) (farZ kd (nthZ ss p1) (nthZ ss q)) <;> simp [hA', hA, nearB, hl, ok_atN ep1, ok_atN eq1, rowD, ↓okE (fe _), ↓okE (le _)]
        · have hA' : ¬ ((gap : Int) ≤ if (q : Int) - (p1 : Int) < 0 then -((q : Int) - (p1 : Int)) else (q : Int) - (p1 : Int)) := fun h => hA (hab.mp h)
          simp [hA', hA, nearB]
      have hf : lf2.filterMap (fun q => if nearB kd ss gap p1 q then some (D.int q) else none) = natsD (lf2.filter (nearB kd ss gap p1)) := by
        exact fm_filter
      rw [hf]
      refine seqP_nx.mpr ?_
      rw [ok_seq]
      have hlz : (natsD lt).length + (natsD (lf2.filter (nearB kd ss gap p1))).length ≤ big := by
        have := List.length_filter_le (nearB kd ss gap p1) lf2
        simp [natsD, big]
        omega
      simp [-seqP_nx, -ok_seq, hlz]
      refine seqP_nx.mpr ?_
      rw [ok_seq]
      simp [-seqP_nx, -ok_seq]
      rw [hc3, show (some (some (natsD lf2))).join = some (natsD lf2) from rfl, ok_some]
      refine ⟨hL, ?_⟩
      have hnap : natsD lt ++ natsD (lf2.filter (nearB kd ss gap p1)) = natsD (lt ++ lf2.filter (nearB kd ss gap p1)) := by simp [natsD]
      rw [hnap]
      have hfl := fm_len (P := nearB kd ss gap p1) (fr := lf2)
      have hmem : ∀ q ∈ lf2.filter (nearB kd ss gap p1), q < ss.length := fun q hq => h1 q (List.mem_filter.mp hq).1
      generalize lf2.filter (nearB kd ss gap p1) = nr at *
      rw [hN]
      refine comp_fm (fun q => if !nr.contains q then some (.int q) else none) (by simp [stand]) ?_ ?_
      · intro q hq
        have ni := fun M => nin_eq (M := M) (fr := nr) (q := q)
        cases hb : nr.contains q <;> simp only [hb] at ni <;> simp [↓okE (ni _), hb]
        done
      rw [fm_filter (P := fun q => !nr.contains q)]
      refine seqP_nx.mpr ?_
      simp
      refine ⟨m - 1, by omega, lt ++ nr, lf2.filter (fun q => !nr.contains q), a + 1, M3.length, ?_, ?_, ?_, ?_, ?_, ?_, ?_, ?_, ?_, ?_⟩
      · refine ⟨?_, ?_, Nat.le_refl _, ?_⟩
        · rw [List.getElem?_append_left tp3.2.2.2]
          exact tp3.1
        · rw [List.take_append_of_le_length (Nat.le_of_lt tp3.2.2.2)]
          exact tp3.2.1
        · have := tp3.2.2.2
          simp
          omega
      · exact tp3.2.2.2
      · simp
      · intro q hq
        exact h1 q (List.mem_filter.mp hq).1
      · intro q hq
        rcases List.mem_append.mp hq with h | h
        · exact h2 q h
        · exact hmem q h
      · simp
        omega
      · rw [List.length_append]
        omega
      · simp
        omega
      · omega
      · simp
    · have ha' : ¬ (a : Int) < (lt.length : Int) := by omega
      obtain ⟨ys, hy⟩ := sort_ok (M := M3) (fr := lt)
      simp [hlen, ha', -seqP_nx, ↓okE hy]
      refine seqP_nx.mpr ?_
      simp [↓okE hy, celOk tp3.1]
      have hlt := tp3.2.2.2
      refine ⟨by omega, lf2.length, by omega, fs ++ [.lst ys], lf2, c2, ⟨?_, ?_, Nat.le_refl _, by simpa using hlt⟩, ?_, hcc, ?_, h1, rfl, rfl⟩
      · rw [List.getElem?_set_self hlt]
      · rw [List.take_set_of_le (Nat.le_refl _)]
        exact tp3.2.1
      · simp
        omega
      · rw [List.getElem?_set_ne (by omega)]
        exact hc3
def Kn (good : Bool) (sd : D) : Prop := if good = true then ∃ kd : Kd, sd = kd.s else ∃ s, sd = .str s ∧ ∀ kd : Kd, D.eqv kd.s (.str s) = false
def okG (g : Int) : Prop := 1 ≤ g ∧ g ≤ 200
instance {g : Int} : Decidable (okG g) := by unfold okG; infer_instance
theorem kn_f {sd : D} (h : Kn true sd) (M : DSt) : f_must_kind [.d sd] M = some (.d .non, M) := by
  obtain ⟨kd, rfl⟩ := h
  exact must_kind_eq kd
theorem gap_f {g : Int} (h : okG g) (M : DSt) : f_must_gap [.d (.int g)] M = some (.d .non, M) := by
  obtain ⟨gn, rfl⟩ : ∃ n : Nat, g = (n : Int) := ⟨g.toNat, by unfold okG at h; omega⟩
  unfold okG at h
  exact must_gap_eq (by omega) (by omega)
theorem len_f {g : Int} (h : 1 ≤ g ∧ g ≤ 40) (M : DSt) : f_must_length [.d (.int g)] M = some (.d .non, M) := by
  obtain ⟨gn, rfl⟩ : ∃ n : Nat, g = (n : Int) := ⟨g.toNat, by omega⟩
  exact must_length_eq (by omega) (by omega)
def ref (good : Bool) (g l : Int) : Option String := if good = false then some "NoKind" else if ¬ (1 ≤ g ∧ g ≤ 200) then some "NoGap" else if ¬ (1 ≤ l ∧ l ≤ 40) then some "NoLength" else none
def okPl (n : Nat) (l p : Int) : Prop := 0 ≤ p ∧ p + l ≤ n
instance {n : Nat} {l p : Int} : Decidable (okPl n l p) := by unfold okPl; infer_instance
theorem place_iff {n : Nat} {l : Nat} {p : Int} : (0 ≤ p ∧ p < ((n + 1 - l : Nat) : Int)) ↔ okPl n l p := by
  unfold okPl
  omega
theorem place_f {xs : List Int} {l : Nat} {p : Int} (h : okPl xs.length l p) (M : DSt) : f_must_place [.d (rowD xs), .d (.int l), .d (.int p)] M = some (.d .non, M) := by
  have := place_iff.mpr h
  obtain ⟨pn, rfl⟩ : ∃ n : Nat, p = (n : Int) := ⟨p.toNat, by omega⟩
  exact must_place_eq (by omega)
theorem ask_f {good : Bool} {sd : D} {g l : Int} (h : Kn good sd) (hr : ref good g l = none) (M : DSt) : good = true ∧ (1 ≤ g ∧ g ≤ 200) ∧ (1 ≤ l ∧ l ≤ 40) ∧ f_must_ask [.d sd, .d (.int g), .d (.int l)] M = some (.d .non, M) := by
  unfold ref at hr
  cases good with
  | false => simp at hr
  | true =>
    by_cases hg : 1 ≤ g ∧ g ≤ 200
    · by_cases hl : 1 ≤ l ∧ l ≤ 40
      · obtain ⟨kd, rfl⟩ := h
        obtain ⟨gn, rfl⟩ : ∃ n : Nat, g = (n : Int) := ⟨g.toNat, by omega⟩
        obtain ⟨ln, rfl⟩ : ∃ n : Nat, l = (n : Int) := ⟨l.toNat, by omega⟩
        exact ⟨rfl, hg, hl, must_ask_eq kd (by omega) (by omega) (by omega) (by omega)⟩
      · simp only [hg, hl] at hr
        simp at hr
    · simp only [hg] at hr
      simp at hr
theorem less_eq {M : DSt} {j : Nat} {a b : Int × Int} (ha : Bn j a.1 ∧ Bn j a.2) (hb : Bn j b.1 ∧ Bn j b.2) (hj : j ≤ 50000) : f__law_less [.d (frD a), .d (frD b)] M = some (.d (.bl (lessZ a b)), M) := by
  apply ok_eq
  unfold f__law_less
  rw [ok_fn]
  simp [b__law_less, startD, frD, ha.1.ok hb.2 (by omega) (by omega), hb.1.ok ha.2 (by omega) (by omega), lessZ]
theorem is_less_big {M : DSt} {j : Nat} {a b : Int × Int} (ha : Bn j a.1 ∧ Bn j a.2) (hb : Bn j b.1 ∧ Bn j b.2) (hj : j ≤ 20000) : f_is_less [.d (frD a), .d (frD b)] M = some (.d (.bl (lessZ a b)), M) := by
  apply ok_eq
  unfold f_is_less
  rw [ok_fn]
  have m1 := ha.1.ok hb.2 (by omega) (by omega)
  have m2 := hb.1.ok ha.2 (by omega) (by omega)
  simp [b_is_less, startD, frD, m1, m2, lessZ]
theorem placeV_eq {M : DSt} {v : Dv} {xs : List Int} {l p : Nat} (hv : lv M v = some (xs.map D.int)) (hp : p < xs.length + 1 - l) : f_must_place [v, .d (.int l), .d (.int p)] M = some (.d .non, M) := by
  apply ok_eq
  unfold f_must_place
  rw [ok_fn]
  have ec : f_count_of [v, .d (.int l)] M = some (.d (.int ((xs.length + 1 - l : Nat) : Int)), M) := by
    apply ok_eq
    unfold f_count_of
    rw [ok_fn]
    simp [b_count_of, startD, ↓ok_lenV hv]
    split <;> omega
  have a : (0 : Int) ≤ (p : Int) := by omega
  simp [b_must_place, startD, a, ↓okE ec]
  exact hp
theorem if_yes {t : DT} {a b : DS} {ρ : DEnv} {M : DSt} {P : Out → Prop} (h : Ok (t ρ M) fun p => p = (true, M)) (k : Ok (a ρ M) P) : Ok (dIf t a b ρ M) P := by
  obtain ⟨_, e, rfl⟩ := h
  unfold dIf
  rw [e]
  exact k
theorem if_no {t : DT} {a b : DS} {ρ : DEnv} {M : DSt} {P : Out → Prop} (h : Ok (t ρ M) fun p => p = (false, M)) (k : Ok (b ρ M) P) : Ok (dIf t a b ρ M) P := by
  obtain ⟨_, e, rfl⟩ := h
  unfold dIf
  rw [e]
  exact k
def PurI (M : DSt) (ns cs : List Int) (ρ : DEnv) (M' : DSt) : Prop := M' = M ∧ ∃ x y : Int, 0 ≤ x ∧ x < 2147483629 ∧ ρ = [some (.r (ns.map D.int)), some (.d (.lst (cs.map D.int))), some (.d (.int x)), some (.d (.int y)), none, none]
/-- a drawn row in a new cell -/
def RowC (n : Nat) (m : Nat) (M : DSt) (p : Dv × DSt) : Prop := ∃ (zs : List Int) (M' : DSt), (∀ z ∈ zs, Bn 10 z) ∧ zs.length ≤ m ∧ Like n M M' ∧ p = (.c M.length, M' ++ [some (zs.map D.int)])
def RowE (n m c w : Nat) (ts : List Int) (b e : Int) (i v : Option Dv) (k : Nat) : DEnv := [some (.c n), some (.d (.int m)), some (.d (.int c)), some (.d (.int w)), some (.d (.lst (ts.map D.int))), some (.d (.int b)), some (.d (.int e)), some (.c k), i, v]
def RowI (n m c w : Nat) (ts : List Int) (M : DSt) (k i : Nat) (ρ : DEnv) (M1 : DSt) : Prop := ∃ (zs : List Int) (b e : Int), Grown n M M1 ∧ M1[k]? = some (some (zs.map D.int)) ∧ zs.length = i ∧ (∀ z ∈ zs, Bn 10 z) ∧ (-3 ≤ b ∧ b ≤ 3) ∧ (-10 ≤ e ∧ e ≤ 10) ∧ ρ = RowE n m c w ts b e none none k
/-- within a turn: by and more -/
def RowA (n m c w : Nat) (ts zs : List Int) (M : DSt) (k i : Nat) (o : Out) : Prop := ∃ (b e : Int) (M1 : DSt), Grown n M M1 ∧ M1[k]? = some (some (zs.map D.int)) ∧ (-3 ≤ b ∧ b ≤ 3) ∧ (-10 ≤ e ∧ e ≤ 10) ∧ o = .nx (RowE n m c w ts b e (some (.d (.int i))) none k) M1
/-- .. and the number -/
def RowB (n m c w : Nat) (ts zs : List Int) (M : DSt) (k i : Nat) (N : Int) (o : Out) : Prop := ∃ (b e z : Int) (M1 : DSt), Grown n M M1 ∧ M1[k]? = some (some (zs.map D.int)) ∧ (-3 ≤ b ∧ b ≤ 3) ∧ (-10 ≤ e ∧ e ≤ 10) ∧ (-N ≤ z ∧ z ≤ N) ∧ o = .nx (RowE n m c w ts b e (some (.d (.int i))) (some (.d (.int z))) k) M1
def RowM (n m : Nat) (M : DSt) (o : Out) : Prop := ∃ (c : Nat) (M1 : DSt), c ≤ m ∧ Grown n M M1 ∧ o = .nx [some (.c n), some (.d (.int m)), some (.d (.int c)), none, none, none, none, none, none, none] M1
/-- what is asked: a row, a kind, a gap, a length, in a list -/
def AskedL (n m : Nat) (M : DSt) (p : Dv × DSt) : Prop := ∃ (zs : List Int) (kd : Kd) (gap l : Nat), Row 10 zs ∧ zs.length ≤ m ∧ 1 ≤ gap ∧ gap ≤ 200 ∧ 1 ≤ l ∧ l ≤ 40 ∧ p.1 = .d (.lst [rowD zs, kd.s, .int gap, .int l]) ∧ Like n M p.2
def LenO (n m : Nat) (zs : List Int) (kd : Kd) (g : Nat) (M : DSt) (o : Out) : Prop := ∃ (l : Nat) (M1 : DSt), l ≤ 40 ∧ Like n M M1 ∧ o = .nx [some (.c n), some (.d (.int m)), some (.d (rowD zs)), some (.d kd.s), some (.d (.int l)), some (.d (.int g))] M1
def GapO (n m : Nat) (zs : List Int) (kd : Kd) (l : Nat) (M : DSt) (o : Out) : Prop := ∃ (g : Nat) (M1 : DSt), 1 ≤ g ∧ g ≤ 200 ∧ Like n M M1 ∧ o = .nx [some (.c n), some (.d (.int m)), some (.d (rowD zs)), some (.d kd.s), some (.d (.int l)), some (.d (.int g))] M1
theorem kd_at {r : Nat} (h : (r : Int) < 3) : ∃ kd : Kd, atD [.str "plain", .str "moved", .str "shape"] (r : Int) = some kd.s := by
  have : r = 0 ∨ r = 1 ∨ r = 2 := by omega
  rcases this with rfl | rfl | rfl
  · exact ⟨.pl, rfl⟩
  · exact ⟨.mo, rfl⟩
  · exact ⟨.sh, rfl⟩
theorem nat_at {xs : List Nat} {r m : Nat} (h : r < xs.length) (hm : ∀ x ∈ xs, 1 ≤ x ∧ x ≤ m) : ∃ q : Nat, atD (xs.map fun x => D.int (x : Nat)) (r : Int) = some (.int (q : Int)) ∧ 1 ≤ q ∧ q ≤ m := by
  refine ⟨xs[r], ?_, hm _ (List.getElem_mem h)⟩
  have : ixD (xs.map fun x => D.int (x : Nat)).length (r : Int) = some r := by
    unfold ixD
    rw [if_pos (by omega), if_pos (by simp; omega)]
    simp
  unfold atD
  rw [this]
  simp [h]
/-- a place or none -/
def nsD : Option Int → D
  | none => .non
  | some z => .int z
def nearsD (ns : List (Option Int)) : D := .lst (ns.map nsD)
/-- does a place's named one show that it is no lonelier -/
def enoughZ (kd : Kd) (ss : List (List Int)) (gap : Nat) (f : Int × Int) (p0 : Int) (k : Nat) : Option Int → Bool
  | none => decide (k < gap) && decide (ss.length ≤ k + gap)
  | some q => if 0 ≤ q ∧ q < ss.length then (if apartB gap k q.toNat = true then lessZ (farAt kd ss k q.toNat) f || (decide (farAt kd ss k q.toNat = f) && decide (p0 < k)) else false) else false
/-- all two places apart -/
def twoZ (n gap : Nat) : List (Nat × Nat) := (List.range n).flatMap fun p => (List.range (n - (p + gap))).map fun k => (p, p + gap + k)
def twosD (L : List (Nat × Nat)) : List D := L.map fwD
theorem twoZ_len {n gap : Nat} : (twoZ n gap).length ≤ n * n := by
  unfold twoZ
  rw [List.length_flatMap]
  have : ∀ l : List Nat, (l.map fun p => ((List.range (n - (p + gap))).map fun k => (p, p + gap + k)).length).sum ≤ l.length * n := by
    intro l
    induction l with
    | nil => simp
    | cons a l ih =>
      rw [List.map_cons, List.sum_cons, List.length_cons, Nat.add_mul, Nat.one_mul]
      simp only [List.length_map, List.length_range] at ih ⊢
      omega
  simpa using this (List.range n)
theorem two_pre {n gap : Nat} : ∀ m, ((List.range m).flatMap fun p => (List.range (n - (p + gap))).map fun k => (p, p + gap + k)).length ≤ m * n
  | 0 => by simp
  | m + 1 => by
    rw [List.range_succ, List.flatMap_append, List.length_append, Nat.add_mul, Nat.one_mul]
    have := two_pre (n := n) (gap := gap) m
    have e : ([m].flatMap fun p => (List.range (n - (p + gap))).map fun k => (p, p + gap + k)).length = n - (m + gap) := by simp
    omega
/-- a told loneliest, any places -/
def bestI : Option ((Int × Int) × (Int × Int)) → D
  | none => .non
  | some (f, p, q) => .tup [frD f, .int p, .int q]
def toI (b : Option ((Int × Int) × (Nat × Nat))) : Option ((Int × Int) × (Int × Int)) := b.map fun x => (x.1, ((x.2.1 : Int), (x.2.2 : Int)))
theorem bestI_of (b : Option ((Int × Int) × (Nat × Nat))) : bestI (toI b) = bestP b := by
  cases b <;> rfl
def namedAt (ns : List (Option Int)) (k : Nat) : Option Int := (ns[k]?).join
def showsL (kd : Kd) (ss : List (List Int)) (gap : Nat) (b : Option ((Int × Int) × (Int × Int))) (ns : List (Option Int)) : Bool :=
  if ns.length = ss.length then
    match b with
    | none => decide (ss.length ≤ gap) && ns.all (·.isNone)
    | some (f, p, q) => if (0 ≤ p ∧ p < ss.length) ∧ (nearZ kd ss gap p.toNat).map (fun x => (x.1, (x.2 : Int))) = some (f, q) ∧ namedAt ns p.toNat = some q then
        ((List.range ss.length).filter fun k : Nat => decide ((k : Int) ≠ p)).all fun k => enoughZ kd ss gap f p k (namedAt ns k) else false
  else false
theorem twoZ_nil {n gap : Nat} : twoZ n gap = [] ↔ n ≤ gap := by
  unfold twoZ
  constructor
  · intro h
    by_cases h0 : n ≤ gap
    · exact h0
    have := List.flatMap_eq_nil_iff.mp h 0 (by simp; omega)
    simp at this
    omega
  · intro h
    rw [List.flatMap_eq_nil_iff]
    intro p _
    have : n - (p + gap) = 0 := by omega
    simp [this]
theorem twos_shp {L : List (Nat × Nat)} : (D.lst (twosD L)).shp 9 = true := by
  simp [D.shp, twosD, fwD]
theorem ok_eqNil {L : List (Nat × Nat)} {M : DSt} {P : Dv × DSt → Prop} : Ok (oEq (.d (.lst (twosD L))) (.d (.lst [])) M) P ↔ P (.d (.bl (decide (L = []))), M) := by
  rw [ok_eqD twos_shp (by rfl)]
  cases L <;> simp [twosD, D.eqv, D.eqvs]
theorem named_at {ns : List (Option Int)} {k : Nat} (h : k < ns.length) : (ns.map nsD)[k]? = some (nsD (namedAt ns k)) := by
  simp [namedAt, h]
theorem eqv_near {x : Option ((Int × Int) × Nat)} {f : Int × Int} {q : Int} : D.eqv (bestD x) (.tup [frD f, .int q]) = decide (x.map (fun x => (x.1, (x.2 : Int))) = some (f, q)) := by
  cases x with
  | none => simp [bestD, D.eqv]
  | some y =>
    obtain ⟨g, r⟩ := y
    have := eqv_fr (f := g) (g := f)
    simp only [bestD, D.eqv, D.eqvs, this]
    by_cases h1 : g = f <;> by_cases h2 : (r : Int) = q <;> simp [h1, h2]
theorem eqv_ns {x : Option Int} {q : Int} : D.eqv (nsD x) (.int q) = decide (x = some q) := by
  cases x with
  | none => simp [nsD, D.eqv]
  | some y => by_cases h : y = q <;> simp [nsD, D.eqv, h]
theorem ns_shp {x : Option Int} {n : Nat} : (nsD x).shp n = true := by cases x <;> cases n <;> rfl
def nearOf (r : Option ((Int × Int) × Nat)) : Option Int := r.map fun x => (x.2 : Int)
/-- the loneliest of the row: what it is -/
theorem lone_some {rows : List (Option ((Int × Int) × Nat))} {f : Int × Int} {p q : Nat} (hp : ∀ p f r, rowAt rows p = some (f, r) → Low f) (h : loneZ rows (List.range rows.length) = some (f, p, q)) : p < rows.length ∧ rowAt rows p = some (f, q) ∧ ∀ k g r, rowAt rows k = some (g, r) → k ≠ p → lessZ g f = true ∨ (g = f ∧ p < k) := by
  rw [loneZ_fold] at h
  have pos : ∀ y ∈ candL rows (List.range rows.length), 0 < y.1.2 := fun y hy => (hp _ _ _ (candL_mem.mp hy).2).1
  obtain ⟨L1, L2, e, h1, h2⟩ := maxOf_some pos h
  have hm : (f, p, q) ∈ candL rows (List.range rows.length) := by rw [e]; simp
  have hm' := candL_mem.mp hm
  refine ⟨by simpa using hm'.1, hm'.2, ?_⟩
  intro k g r hk hkp
  have hkl : k < rows.length := by
    by_cases h : k < rows.length
    · exact h
    · simp [rowAt, List.getD_eq_getElem?_getD, List.getElem?_eq_none (by omega : rows.length ≤ k)] at hk
  have hc : (g, k, r) ∈ candL rows (List.range rows.length) := candL_mem.mpr ⟨by simpa using hkl, hk⟩
  have srt := candL_sorted (rows := rows) (n := rows.length)
  rw [e] at hc srt
  rw [List.pairwise_append] at srt
  rcases List.mem_append.mp hc with hc | hc
  · exact .inl (h1 _ hc)
  · rcases List.mem_cons.mp hc with hc | hc
    · cases hc
      exact absurd rfl hkp
    · have hlt := (List.pairwise_cons.mp srt.2.1).1 _ hc
      have n1 := h2 _ hc
      cases n2 : lessZ g f with
      | true => exact .inl rfl
      | false => exact .inr ⟨low_same (hp _ _ _ hk) (hp _ _ _ hm'.2) n2 n1, hlt⟩
theorem lone_of {rows : List (Option ((Int × Int) × Nat))} {f : Int × Int} {p q : Nat} (hp : ∀ p f r, rowAt rows p = some (f, r) → Low f) (h0 : rowAt rows p = some (f, q)) (h : ∀ k g r, rowAt rows k = some (g, r) → k ≠ p → lessZ g f = true ∨ (g = f ∧ p < k)) : loneZ rows (List.range rows.length) = some (f, p, q) := by
  have hkl : p < rows.length := by
    by_cases h : p < rows.length
    · exact h
    · simp [rowAt, List.getD_eq_getElem?_getD, List.getElem?_eq_none (by omega : rows.length ≤ p)] at h0
  cases e : loneZ rows (List.range rows.length) with
  | none =>
    rw [loneZ_fold] at e
    have := maxOf_none e
    have hc : (f, p, q) ∈ candL rows (List.range rows.length) := candL_mem.mpr ⟨by simpa using hkl, h0⟩
    rw [this] at hc
    cases hc
  | some x =>
    obtain ⟨g, k, r⟩ := x
    obtain ⟨k1, k2, k3⟩ := lone_some hp e
    by_cases hk : k = p
    · subst hk
      rw [h0] at k2
      cases k2
      rfl
    · rcases h k g r k2 hk with h1 | ⟨h1, h2⟩
      · rcases k3 p f q h0 (fun z => hk z.symm) with h3 | ⟨h3, h4⟩
        · rw [less_asymm h1] at h3
          cases h3
        · subst h3
          rw [lessZ_irr] at h1
          cases h1
      · rcases k3 p f q h0 (fun z => hk z.symm) with h3 | ⟨h3, h4⟩
        · subst h1
          rw [lessZ_irr] at h3
          cases h3
        · omega
theorem candN_mem {kd : Kd} {ss : List (List Int)} {gap p n : Nat} {x : (Int × Int) × Nat} : x ∈ candN kd ss gap p n ↔ x.2 < n ∧ gap ≤ (x.2 - p) + (p - x.2) ∧ x.1 = farAt kd ss p x.2 := by
  unfold candN
  rw [List.mem_filterMap]
  constructor
  · rintro ⟨q, hq, e⟩
    split at e
    · cases e
      exact ⟨by simpa using hq, by assumption, rfl⟩
    · cases e
  · rintro ⟨h1, h2, h3⟩
    refine ⟨x.2, by simpa using h1, ?_⟩
    rw [if_pos h2, ← h3]
theorem nearZ_some {kd : Kd} {ss : List (List Int)} {gap p : Nat} {f : Int × Int} {q : Nat} (hs : ∀ s ∈ ss, 0 < s.length) (hp : p < ss.length) (h : nearZ kd ss gap p = some (f, q)) : q < ss.length ∧ apartB gap p q = true ∧ f = farAt kd ss p q := by
  unfold nearZ at h
  rw [nearTo_min] at h
  have hm := (minOf_some (fun y hy => by rw [(candN_mem.mp hy).2.2]; exact (farAt_low hs hp).1) h).mem
  obtain ⟨h1, h2, h3⟩ := candN_mem.mp hm
  exact ⟨h1, by simpa [apartB] using h2, h3⟩
theorem nearZ_none {kd : Kd} {ss : List (List Int)} {gap p q : Nat} (hs : ∀ s ∈ ss, 0 < s.length) (hp : p < ss.length) (h : nearZ kd ss gap p = none) (hq : q < ss.length) : apartB gap p q = false := by
  unfold nearZ at h
  rw [nearTo_min, minOf_none (fun y hy => by rw [(candN_mem.mp hy).2.2]; exact (farAt_low hs hp).1)] at h
  by_cases ha : gap ≤ (q - p) + (p - q)
  · have hc : (farAt kd ss p q, q) ∈ candN kd ss gap p ss.length := candN_mem.mpr ⟨hq, ha, rfl⟩
    rw [h] at hc
    cases hc
  · simpa [apartB] using ha
theorem tab_row {p : Nat} (hp : p < (stretchesZ xs l).length) : rowAt (tableZ kd xs gap l) p = nearZ kd (stretchesZ xs l) gap p := by
  simp [rowAt, tableZ, hp]
theorem named_tab {p : Nat} (hp : p < (stretchesZ xs l).length) : namedAt ((tableZ kd xs gap l).map nearOf) p = nearOf (nearZ kd (stretchesZ xs l) gap p) := by
  simp [namedAt, tableZ, hp]
theorem st_pos (hx : Row 10 xs) (l0 : 1 ≤ l) : ∀ s ∈ stretchesZ xs l, 0 < s.length := fun s h => ((stretches_fine hx (show 0 < l by omega)).1 s h).2
theorem enough_tab (hx : Row 10 xs) (l0 : 1 ≤ l) {f : Int × Int} {p0 k : Nat} (hk : k < (stretchesZ xs l).length) :
    enoughZ kd (stretchesZ xs l) gap f p0 k (nearOf (nearZ kd (stretchesZ xs l) gap k)) = true ↔ ∀ g r, nearZ kd (stretchesZ xs l) gap k = some (g, r) → lessZ g f = true ∨ (g = f ∧ p0 < k) := by
  have hs := st_pos hx l0
  cases e : nearZ kd (stretchesZ xs l) gap k with
  | none =>
    have a1 := nearZ_none hs hk e (q := 0) (by omega)
    have a2 := nearZ_none hs hk e (q := (stretchesZ xs l).length - 1) (by omega)
    simp [apartB] at a1 a2
    simp [nearOf, enoughZ]
    omega
  | some x =>
    obtain ⟨g, r⟩ := x
    obtain ⟨h1, h2, h3⟩ := nearZ_some hs hk e
    have r1 : (r : Int) < ((stretchesZ xs l).length : Int) := by omega
    simp [nearOf, enoughZ, h1, h2, ← h3]
theorem shows_tab (hx : Row 10 xs) (l0 : 1 ≤ l) {f : Int × Int} {p q : Nat} (h : rowAt (tableZ kd xs gap l) p = some (f, q)) :
    showsL kd (stretchesZ xs l) gap (some (f, (p : Int), (q : Int))) ((tableZ kd xs gap l).map nearOf) = decide (loneZ (tableZ kd xs gap l) (List.range (tableZ kd xs gap l).length) = some (f, p, q)) := by
  have low : ∀ p f r, rowAt (tableZ kd xs gap l) p = some (f, r) → Low f := fun p f r h => tab_low hx (by omega) h
  have tl : (tableZ kd xs gap l).length = (stretchesZ xs l).length := by simp [tableZ]
  have sl : (stretchesZ xs l).length = xs.length + 1 - l := stretches_len
  obtain ⟨hp, hn⟩ := tab_at h
  have hp' : p < (stretchesZ xs l).length := by omega
  unfold showsL
  rw [if_pos (by simp [tl])]
  simp only [Int.toNat_natCast]
  rw [if_pos ⟨⟨by omega, by omega⟩, by rw [hn]; rfl, by rw [named_tab hp', hn]; rfl⟩]
  rw [Bool.eq_iff_iff, List.all_eq_true, decide_eq_true_eq]
  constructor
  · intro ha
    refine lone_of low h fun k g r hk hkp => ?_
    obtain ⟨k1, k2⟩ := tab_at hk
    have k1' : k < (stretchesZ xs l).length := by omega
    have hx1 := ha k (by simp; omega)
    rw [named_tab k1'] at hx1
    exact (enough_tab hx l0 k1').mp hx1 g r k2
  · intro hl k hk
    simp at hk
    obtain ⟨_, _, h3⟩ := lone_some low hl
    rw [named_tab hk.1]
    refine (enough_tab hx l0 hk.1).mpr fun g r hg => ?_
    exact h3 k g r (by rw [tab_row hk.1]; exact hg) (by omega)
theorem shows_none (hx : Row 10 xs) (l0 : 1 ≤ l) : showsL kd (stretchesZ xs l) gap none ((tableZ kd xs gap l).map nearOf) = ((tableZ kd xs gap l).map nearOf).all (·.isNone) := by
  have tl : (tableZ kd xs gap l).length = (stretchesZ xs l).length := by simp [tableZ]
  unfold showsL
  rw [if_pos (by simp [tl])]
  simp only
  cases ha : ((tableZ kd xs gap l).map nearOf).all (·.isNone) with
  | false => simp
  | true =>
    have hs := st_pos hx l0
    by_cases h0 : (stretchesZ xs l).length = 0
    · simp [h0]
    · rw [List.all_eq_true] at ha
      have h1 := ha (nearOf (nearZ kd (stretchesZ xs l) gap 0)) (by
        rw [← named_tab (by omega)]
        have : 0 < ((tableZ kd xs gap l).map nearOf).length := by simp [tl]; omega
        rw [namedAt, List.getElem?_eq_getElem this]
        exact List.getElem_mem _)
      have h2 : nearZ kd (stretchesZ xs l) gap 0 = none := by
        cases e : nearZ kd (stretchesZ xs l) gap 0 with
        | none => rfl
        | some x => rw [e] at h1; cases h1
      have a2 := nearZ_none hs (by omega) h2 (q := (stretchesZ xs l).length - 1) (by omega)
      simp [apartB] at a2
      simp
      omega
theorem lone_none (hx : Row 10 xs) (l0 : 1 ≤ l) (h : loneZ (tableZ kd xs gap l) (List.range (tableZ kd xs gap l).length) = none) : ((tableZ kd xs gap l).map nearOf).all (·.isNone) = true := by
  rw [loneZ_fold] at h
  have := maxOf_none h
  rw [List.all_eq_true]
  intro x hx
  obtain ⟨y, hy, rfl⟩ := List.mem_map.mp hx
  cases y with
  | none => rfl
  | some z =>
    obtain ⟨p, hp, e⟩ := List.getElem_of_mem hy
    have hc : (z.1, p, z.2) ∈ candL (tableZ kd xs gap l) (List.range (tableZ kd xs gap l).length) := candL_mem.mpr ⟨by simpa using hp, by simp [rowAt, hp, e]⟩
    rw [this] at hc
    cases hc
theorem ok_neB {a b : Bool} {M : DSt} {P : Dv × DSt → Prop} : Ok (oNe (.d (.bl a)) (.d (.bl b)) M) P ↔ P (.d (.bl (!decide (a = b))), M) := by
  rw [ok_neD (by rfl) (by rfl)]
  cases a <;> cases b <;> simp [D.eqv]
theorem eqv_bestP {b : Option ((Int × Int) × (Nat × Nat))} {f : Int × Int} {p q : Nat} : D.eqv (.tup [frD f, .int p, .int q]) (bestP b) = decide (b = some (f, p, q)) := by
  cases b with
  | none => simp [bestP, D.eqv]
  | some x =>
    obtain ⟨g, u, v⟩ := x
    have := eqv_fr (f := f) (g := g)
    have h3 : ((p : Int) == (u : Int)) = decide (u = p) := by
      by_cases h : u = p
      · simp [h]
      · have : ¬ (p : Int) = (u : Int) := by omega
        simp [h, this]
    have h4 : ((q : Int) == (v : Int)) = decide (v = q) := by
      by_cases h : v = q
      · simp [h]
      · have : ¬ (q : Int) = (v : Int) := by omega
        simp [h, this]
    simp only [bestP, D.eqv, D.eqvs, this, h3, h4]
    by_cases h1 : f = g
    · subst h1
      by_cases h2 : u = p <;> by_cases h5 : v = q <;> simp [h2, h5]
    · have : ¬ g = f := fun z => h1 z.symm
      simp [h1, this]
/-- a fraction within A, the store as it is told -/
def Fr (A : Int) (M : DSt) (p : Dv × DSt) : Prop := ∃ t b, bd A t ∧ bd A b ∧ b ≠ 0 ∧ p = (.d (.tup [.int t, .int b]), M)
/-- stretches of one length -/
def FineE (k : Nat) (ss : List (List Int)) : Prop := Fine k ss ∧ Even ss
/-- the table of stretches -/
def tabZ (kd : Kd) (ss : List (List Int)) (gap : Nat) : List (Option ((Int × Int) × Nat)) := (List.range ss.length).map fun p => nearZ kd ss gap p
theorem tabZ_at {kd : Kd} {ss : List (List Int)} {gap p : Nat} (hp : p < ss.length) : rowAt (tabZ kd ss gap) p = nearZ kd ss gap p := by simp [rowAt, tabZ, hp]
theorem nearZ_bn {k : Nat} {kd : Kd} {ss : List (List Int)} {gap p : Nat} {f : Int × Int} {r : Nat} (hs : Fine k ss) (hp : p < ss.length) (h : nearZ kd ss gap p = some (f, r)) : Bn (4 * k + 11) f.1 ∧ Bn (4 * k + 11) f.2 := nearTo_bn kd hs hp (Nat.le_refl _) h
theorem eqv_nones {ns : List (Option Int)} : ∀ {n : Nat}, ns.length = n → D.eqvs (ns.map nsD) (List.replicate n D.non) = ns.all (·.isNone) := by
  induction ns with
  | nil => intro n h; subst h; rfl
  | cons a ns ih =>
    intro n h
    subst h
    simp only [List.length_cons, List.replicate_succ, List.map_cons, D.eqvs, List.all_cons]
    rw [ih rfl]
    cases a <;> simp [nsD, D.eqv]
theorem eqv_nats {l : List Nat} : D.eqv (.lst (natsD l)) (.lst []) = decide (l = []) := by
  cases l <;> simp [natsD, D.eqv, D.eqvs]
theorem nats_shp {l : List Nat} {n : Nat} : (D.lst (natsD l)).shp (n + 1) = true := by
  simp only [D.shp, natsD, List.all_map, List.all_eq_true]
  intro x _
  cases n <;> rfl
def namedS (kd : Kd) (ss : List (List Int)) (gap : Nat) (f : Int × Int) (p0 : Nat) (p : Nat) (r : Option Int) : Prop := match nearZ kd ss gap p with
  | none => r = none
  | some (g, q) => if p = p0 then r = some (q : Int) else enoughZ kd ss gap f p0 p r = true
theorem enough_near {kd : Kd} {ss : List (List Int)} {gap : Nat} {f : Int × Int} {p0 p q : Nat} {g : Int × Int} (sp : ∀ s ∈ ss, 0 < s.length) (hp : p < ss.length) (e : nearZ kd ss gap p = some (g, q)) (h : lessZ g f = true ∨ (g = f ∧ p0 < p)) : enoughZ kd ss gap f p0 p (some (q : Int)) = true := by
  obtain ⟨h1, h2, h3⟩ := nearZ_some sp hp e
  have r1 : (q : Int) < (ss.length : Int) := by omega
  simp [enoughZ, h1, h2, ← h3]
  exact h
def NamedO (n : Nat) (kd : Kd) (ss : List (List Int)) (gap : Nat) (f : Int × Int) (p0 p : Nat) (M : DSt) (o : Dv × DSt) : Prop := ∃ r, namedS kd ss gap f p0 p r ∧ o.1 = .d (nsD r) ∧ Like n M o.2
/-- a told loneliest whose fraction is one -/
def Alone (j : Nat) (b : Option ((Int × Int) × (Int × Int))) : Prop := ∀ x, b = some x → 0 < x.1.2 ∧ Bn j x.1.1 ∧ Bn j x.1.2
def bentE (n : Nat) (kd : Kd) (ss : List (List Int)) (gap : Nat) (t : D) (s at_ : Nat) (u : Option Int) (b : Option ((Int × Int) × (Int × Int))) (ns : List (Option Int)) (v10 v11 v12 : Option Dv) : DEnv :=
  [some (.d (.lst (rowsD ss))), some (.d kd.s), some (.d (.int gap)), some (.d t), some (.c n), some (.d (bestI b)), some (.d (nearsD ns)), some (.d (.int s)), some (.d (.int at_)), some (.d (nsD u)), v10, v11, v12]
def BentO (n : Nat) (kd : Kd) (ss : List (List Int)) (gap : Nat) (t : D) (s at_ : Nat) (u : Option Int) (j L : Nat) (M : DSt) (o : Out) : Prop := ∃ b ns v10 v11 v12 M1, Alone j b ∧ ns.length ≤ L ∧ Like n M M1 ∧ o = .nx (bentE n kd ss gap t s at_ u b ns v10 v11 v12) M1
def BentR (n j L : Nat) (M : DSt) (p : Dv × DSt) : Prop := ∃ b ns, Alone j b ∧ ns.length ≤ L ∧ p.1 = .d (.tup [bestI b, nearsD ns]) ∧ Like n M p.2
theorem told_shp {b : Option ((Int × Int) × (Int × Int))} {ns : List (Option Int)} : (D.tup [bestI b, nearsD ns]).shp 9 = true := by
  have h1 : (bestI b).shp 8 = true := by
    cases b with
    | none => rfl
    | some x => simp [bestI, D.shp, frD]
  have h2 : (nearsD ns).shp 8 = true := by
    simp only [nearsD, D.shp, List.all_map, List.all_eq_true]
    intro x _
    exact ns_shp
  simp [D.shp, h1, h2]
/-- a comprehension that draws: what its items are, place by place -/
theorem comp_idx {chk : DSt → Prop} {step : D → DSt → Option (Option D × DSt)} {P : List D × DSt → Prop} (I : DSt → Prop) (hc : ∀ M, I M → chk M) : ∀ {xs : List D} {M : DSt} (R : Nat → D → Prop), I M →
    (∀ i x M, xs[i]? = some x → I M → Ok (step x M) fun p => I p.2 ∧ ∃ y, p.1 = some y ∧ R i y) → (∀ ys M, I M → ys.length = xs.length → (∀ i y, ys[i]? = some y → R i y) → P (ys, M)) → Ok (compL chk step xs M) P := by
  intro xs
  induction xs generalizing P with
  | nil =>
    intro M R hM h k
    simp only [compL, ok_grd, ok_some]
    exact ⟨hc M hM, k [] M hM rfl (by simp)⟩
  | cons x xs ih =>
    intro M R hM h k
    obtain ⟨⟨o, M1⟩, e, hM1, y, rfl, hy⟩ := h 0 x M rfl hM
    have r := ih (P := fun q => P (y :: q.1, q.2)) (fun i => R (i + 1)) hM1 (fun i z M hz => h (i + 1) z M (by simpa using hz)) fun ys M2 h2 l a => k _ _ h2 (by simp [l]) (by
      intro i z hz
      cases i with
      | zero => simp at hz; subst hz; exact hy
      | succ i => exact a i z (by simpa using hz))
    simp only [compL, ok_grd]
    refine ⟨hc M hM, ?_⟩
    obtain ⟨⟨ys, M2⟩, e2, hP⟩ := r
    simp only [e, e2, ok_some]
    exact hP
theorem nsD_inj {x y : Option Int} (h : nsD x = nsD y) : x = y := by
  cases x <;> cases y <;> simp [nsD] at h ⊢
  exact h
theorem ns_of {R : Nat → Option Int → Prop} : ∀ {ys : List D}, (∀ i y, ys[i]? = some y → ∃ r, R i r ∧ y = nsD r) → ∃ ns : List (Option Int), ys = ns.map nsD ∧ ∀ i, i < ns.length → R i (namedAt ns i) := by
  intro ys
  induction ys generalizing R with
  | nil => intro _; exact ⟨[], rfl, by simp⟩
  | cons y ys ih =>
    intro h
    obtain ⟨r, hr, rfl⟩ := h 0 y rfl
    obtain ⟨ns, rfl, hn⟩ := ih (R := fun i => R (i + 1)) fun i z hz => h (i + 1) z (by simpa using hz)
    refine ⟨r :: ns, rfl, ?_⟩
    intro i hi
    cases i with
    | zero => simpa [namedAt] using hr
    | succ i =>
      have := hn i (by simpa using hi)
      simpa [namedAt] using this
/-- what the law makes: shown -/
theorem shows_made {kd : Kd} {ss : List (List Int)} {gap : Nat} {f : Int × Int} {p q : Nat} {ns : List (Option Int)} (sp : ∀ s ∈ ss, 0 < s.length) (hl : ns.length = ss.length) (hp : p < ss.length) (hn : nearZ kd ss gap p = some (f, q)) (h : ∀ k, k < ss.length → namedS kd ss gap f p k (namedAt ns k)) :
    showsL kd ss gap (some (f, (p : Int), (q : Int))) ns = true := by
  have h0 := h p hp
  unfold namedS at h0
  rw [hn] at h0
  simp only [if_true] at h0
  unfold showsL
  rw [if_pos hl]
  simp only [Int.toNat_natCast]
  rw [if_pos ⟨⟨by omega, by omega⟩, by rw [hn]; rfl, h0⟩, List.all_eq_true]
  intro k hk
  simp at hk
  have h1 := h k hk.1
  unfold namedS at h1
  cases e : nearZ kd ss gap k with
  | none =>
    rw [e] at h1
    simp only at h1
    rw [h1]
    have a1 := nearZ_none sp hk.1 e (q := 0) (by omega)
    have a2 := nearZ_none sp hk.1 e (q := ss.length - 1) (by omega)
    simp [apartB] at a1 a2
    simp [enoughZ]
    omega
  | some x =>
    obtain ⟨g, r⟩ := x
    rw [e] at h1
    simp only at h1
    rw [if_neg (by omega)] at h1
    exact h1
def TurnI (env : D → DEnv) (i : Nat) (ρ : DEnv) (M : DSt) : Prop := ∃ b ns, Alone (51 + 10 * i) b ∧ ns.length ≤ 12 + i ∧ Purse 0 M ∧ ρ = env (.tup [bestI b, nearsD ns])
def TurnX (env : D → DEnv) (o : Out) : Prop := ∃ m ρ M, m ≤ 3 ∧ TurnI env m ρ M ∧ o = .nx ρ M
def ToldO (n j L : Nat) (env : D → DEnv) (M : DSt) (kd : Kd) (ss : List (List Int)) (gap : Nat) (o : Out) : Prop := ∃ b ns M1, Alone j b ∧ ns.length ≤ L ∧ showsL kd ss gap b ns = true ∧ Like n M M1 ∧ o = .nx (env (.tup [bestI b, nearsD ns])) M1
inductive Con (n : Nat) (R : Nat → Nat → Bool) : Nat → Nat → Prop
  | refl (p : Nat) : Con n R p p
  | step {p q r : Nat} : Con n R p q → q < n → r < n → R q r = true → Con n R p r
def Sy (n : Nat) (R : Nat → Nat → Bool) : Prop := ∀ p q, p < n → q < n → R p q = R q p
theorem Con.trans {n : Nat} {R : Nat → Nat → Bool} {p q r : Nat} (h : Con n R p q) (k : Con n R q r) : Con n R p r := by
  induction k with
  | refl => exact h
  | step _ a b c ih => exact ih.step a b c
theorem Con.symm {n : Nat} {R : Nat → Nat → Bool} (hs : Sy n R) {p q : Nat} (h : Con n R p q) : Con n R q p := by
  induction h with
  | refl => exact .refl _
  | step k a b c ih => exact Con.trans ((Con.refl _).step b a (by rw [hs _ _ b a]; exact c)) ih
def mg (R : Nat → Nat → Bool) (f : Nat → Nat) (p q : Nat) : Nat → Nat := fun x => if f p ≠ f q ∧ R p q = true then (if f x = max (f p) (f q) then min (f p) (f q) else f x) else f x
structure MI (n : Nat) (R : Nat → Nat → Bool) (f : Nat → Nat) : Prop where
  con : ∀ p q, p < n → q < n → f p = f q → Con n R p q
  le : ∀ p, p < n → f p ≤ p
  fix : ∀ p, p < n → f (f p) = f p
theorem MI.start {n : Nat} {R : Nat → Nat → Bool} : MI n R fun p => p := ⟨fun p q _ _ h => by have h : p = q := h; subst h; exact .refl _, fun p _ => Nat.le_refl _, fun p _ => rfl⟩
theorem MI.mg {n : Nat} {R : Nat → Nat → Bool} {f : Nat → Nat} (hs : Sy n R) (h : MI n R f) {p q : Nat} (hp : p < n) (hq : q < n) : MI n R (mg R f p q) := by
  by_cases c : f p ≠ f q ∧ R p q = true
  · have e : ∀ x, Lk70.mg R f p q x = if f x = max (f p) (f q) then min (f p) (f q) else f x := fun x => by simp only [Lk70.mg, if_pos c]
    have pq : Con n R p q := (Con.refl p).step hp hq c.2
    have key : ∀ x, x < n → f x = max (f p) (f q) ∨ f x = min (f p) (f q) → Con n R x p := by
      intro x hx h'
      rcases (show f x = f p ∨ f x = f q by omega) with e | e
      · exact h.con x p hx hp e
      · exact (h.con x q hx hq e).trans (pq.symm hs)
    have fmin : f (min (f p) (f q)) = min (f p) (f q) := by
      rcases Nat.le_total (f p) (f q) with l | l
      · rw [Nat.min_eq_left l]; exact h.fix p hp
      · rw [Nat.min_eq_right l]; exact h.fix q hq
    have ne : min (f p) (f q) ≠ max (f p) (f q) := by have := c.1; omega
    refine ⟨?_, ?_, ?_⟩
    · intro x y hx hy exy
      rw [e, e] at exy
      by_cases hx' : f x = max (f p) (f q)
      · by_cases hy' : f y = max (f p) (f q)
        · exact h.con x y hx hy (by omega)
        · rw [if_pos hx', if_neg hy'] at exy
          exact (key x hx (.inl hx')).trans ((key y hy (.inr exy.symm)).symm hs)
      · by_cases hy' : f y = max (f p) (f q)
        · rw [if_neg hx', if_pos hy'] at exy
          exact (key x hx (.inr exy)).trans ((key y hy (.inl hy')).symm hs)
        · rw [if_neg hx', if_neg hy'] at exy
          exact h.con x y hx hy exy
    · intro x hx
      rw [e]
      have := h.le x hx
      split <;> omega
    · intro x hx
      rw [e, e]
      by_cases hx' : f x = max (f p) (f q)
      · rw [if_pos hx', fmin, if_neg ne]
      · rw [if_neg hx', h.fix x hx, if_neg hx']
  · have e : Lk70.mg R f p q = f := by
      funext x
      simp only [Lk70.mg, if_neg c]
    rw [e]
    exact h
theorem mg_keep {R : Nat → Nat → Bool} {f : Nat → Nat} {p q x y : Nat} (h : f x = f y) : mg R f p q x = mg R f p q y := by
  simp only [mg, h]
theorem mg_eq {R : Nat → Nat → Bool} {f : Nat → Nat} {p q : Nat} (h : R p q = true) : mg R f p q p = mg R f p q q := by
  by_cases c : f p = f q
  · exact mg_keep c
  · simp only [mg, h]
    simp only [c, ne_eq, not_false_eq_true, and_self, if_true]
    rcases Nat.le_total (f p) (f q) with l | l
    · rw [Nat.max_eq_right l, Nat.min_eq_left l, if_neg c, if_pos rfl]
    · rw [Nat.max_eq_left l, Nat.min_eq_right l, if_pos rfl, if_neg (Ne.symm c)]
def mgs (R : Nat → Nat → Bool) (f : Nat → Nat) (L : List (Nat × Nat)) : Nat → Nat := L.foldl (fun f x => mg R f x.1 x.2) f
theorem mgs_app {R : Nat → Nat → Bool} {f : Nat → Nat} {L K : List (Nat × Nat)} : mgs R f (L ++ K) = mgs R (mgs R f L) K := List.foldl_append
theorem MI.mgs {n : Nat} {R : Nat → Nat → Bool} (hs : Sy n R) : ∀ {L : List (Nat × Nat)} {f : Nat → Nat}, MI n R f → (∀ x ∈ L, x.1 < n ∧ x.2 < n) → MI n R (mgs R f L)
  | [], _, h, _ => h
  | x :: L, f, h, hl => by
    obtain ⟨a, b⟩ := hl x (by simp)
    exact MI.mgs hs (L := L) (h.mg hs a b) fun y hy => hl y (by simp [hy])
theorem mgs_keep {R : Nat → Nat → Bool} {x y : Nat} : ∀ {L : List (Nat × Nat)} {f : Nat → Nat}, f x = f y → mgs R f L x = mgs R f L y
  | [], _, h => h
  | z :: L, f, h => mgs_keep (L := L) (mg_keep (p := z.1) (q := z.2) h)
theorem mgs_eq {R : Nat → Nat → Bool} {x : Nat × Nat} (hr : R x.1 x.2 = true) : ∀ {L : List (Nat × Nat)} {f : Nat → Nat}, x ∈ L → mgs R f L x.1 = mgs R f L x.2
  | [], _, h => by cases h
  | z :: L, f, h => by
    rcases List.mem_cons.mp h with rfl | h
    · exact mgs_keep (L := L) (mg_eq hr)
    · exact mgs_eq hr (L := L) h
/-- what the marks come to -/
structure GS (n : Nat) (R : Nat → Nat → Bool) (g : Nat → Nat) : Prop where
  con : ∀ p q, p < n → q < n → g p = g q → Con n R p q
  edge : ∀ p q, p < n → q < n → R p q = true → g p = g q
  le : ∀ p, p < n → g p ≤ p
  fix : ∀ p, p < n → g (g p) = g p
def cls (n : Nat) (g : Nat → Nat) (a : Nat) : List Nat := (List.range n).filter fun p => g p == a
def roots (n : Nat) (g : Nat → Nat) : List Nat := (List.range n).filter fun r => g r == r
theorem cls_nil {n : Nat} {R : Nat → Nat → Bool} {g : Nat → Nat} (h : GS n R g) {a : Nat} (ha : a < n) : cls n g a = [] ↔ ¬ (g a == a) = true := by
  unfold cls
  rw [List.filter_eq_nil_iff]
  constructor
  · intro k
    exact k a (List.mem_range.mpr ha)
  · intro k x hx e
    have hx := List.mem_range.mp hx
    have e := beq_iff_eq.mp e
    have := h.fix x hx
    rw [e] at this
    exact k (beq_iff_eq.mpr this)
theorem law_lots {n : Nat} {R : Nat → Nat → Bool} {g : Nat → Nat} (h : GS n R g) (w : List Nat → D) : ((List.range n).filterMap fun a => if cls n g a = [] then none else some (w (cls n g a))) = (roots n g).map fun a => w (cls n g a) := by
  unfold roots
  have : ∀ L : List Nat, (∀ a ∈ L, a < n) → (L.filterMap fun a => if cls n g a = [] then none else some (w (cls n g a))) = (L.filter fun r => g r == r).map fun a => w (cls n g a) := by
    intro L
    induction L with
    | nil => intro _; rfl
    | cons a L ih =>
      intro hL
      have ih := ih fun b hb => hL b (by simp [hb])
      rw [List.filterMap_cons, List.filter_cons, ih]
      have c := cls_nil h (hL a (by simp))
      by_cases k : (g a == a) = true
      · have : ¬ cls n g a = [] := fun e => (c.mp e) k
        rw [if_pos k, if_neg this]
        rfl
      · have : cls n g a = [] := c.mpr k
        rw [if_neg k, if_pos this]
  exact this _ fun a ha => List.mem_range.mp ha
structure BI (n : Nat) (R : Nat → Nat → Bool) (g : Nat → Nat) (a : Nat) (left lot : List Nat) (i : Nat) : Prop where
  mem : a ∈ lot
  nd : lot.Nodup
  sub : ∀ x ∈ lot, x ∈ a :: left
  gs : ∀ x ∈ lot, g x = a
  no : ∀ j x, j < i → lot[j]? = some x → ∀ y ∈ left, y ∉ lot → R x y = false
theorem le_of_nodup {l : List Nat} : ∀ {l2 : List Nat}, l.Nodup → (∀ x ∈ l, x ∈ l2) → l.length ≤ l2.length := by
  induction l with
  | nil => intro l2 _ _; simp
  | cons a l ih =>
    intro l2 hn hs
    have ha := hs a (by simp)
    have hn' := List.nodup_cons.mp hn
    have := ih (l2 := l2.erase a) hn'.2 (by
      intro x hx
      have hne : x ≠ a := by
        intro e
        subst e
        exact hn'.1 hx
      exact (List.mem_erase_of_ne hne).mpr (hs x (by simp [hx])))
    rw [List.length_erase_of_mem ha] at this
    have h0 : 0 < l2.length := List.length_pos_of_mem ha
    simp
    omega
theorem BI.step {n : Nat} {R : Nat → Nat → Bool} {g : Nat → Nat} (G : GS n R g) {a i p : Nat} {left lot : List Nat} (hl : ∀ x ∈ a :: left, x < n) (hn : left.Nodup) (h : BI n R g a left lot i) (hp : lot[i]? = some p) :
    BI n R g a left (lot ++ (left.filter fun q => decide (q ∉ lot)).filter fun q => R p q) (i + 1) := by
  have hpm := List.mem_of_getElem? hp
  have hpn := hl p (h.sub p hpm)
  have hnear : ∀ y, y ∈ (left.filter fun q => decide (q ∉ lot)).filter (fun q => R p q) → y ∈ left ∧ y ∉ lot ∧ R p y = true := by
    intro y hy
    obtain ⟨h1, h2⟩ := List.mem_filter.mp hy
    obtain ⟨h3, h4⟩ := List.mem_filter.mp h1
    exact ⟨h3, of_decide_eq_true h4, h2⟩
  refine ⟨by simp [h.mem], ?_, ?_, ?_, ?_⟩
  · rw [List.nodup_append]
    refine ⟨h.nd, (hn.filter _).filter _, ?_⟩
    intro x hx y hy e
    subst e
    exact (hnear _ hy).2.1 hx
  · intro x hx
    rcases List.mem_append.mp hx with hx | hx
    · exact h.sub x hx
    · exact List.mem_cons_of_mem _ (hnear x hx).1
  · intro x hx
    rcases List.mem_append.mp hx with hx | hx
    · exact h.gs x hx
    · obtain ⟨k1, k2, k3⟩ := hnear x hx
      rw [← G.edge p x hpn (hl x (List.mem_cons_of_mem _ k1)) k3]
      exact h.gs p hpm
  · intro j x hj hx y hy hyn
    have hi := (List.getElem?_eq_some_iff.mp hp).1
    rw [List.getElem?_append_left (by omega)] at hx
    have hy1 : y ∉ lot := fun k => hyn (List.mem_append.mpr (.inl k))
    by_cases e : j = i
    · subst e
      rw [hp] at hx
      cases hx
      cases c : R p y with
      | false => rfl
      | true => exact absurd (List.mem_append.mpr (.inr (List.mem_filter.mpr ⟨List.mem_filter.mpr ⟨hy, by simp [hy1]⟩, c⟩))) hyn
    · exact h.no j x (by omega) hx y hy hy1
theorem BI.fin {n : Nat} {R : Nat → Nat → Bool} {g : Nat → Nat} (G : GS n R g) {a : Nat} {left lot : List Nat} (hl : ∀ x ∈ a :: left, x < n) (ha : g a = a) (hall : ∀ x, x < n → g x = a → x ∈ a :: left) (h : BI n R g a left lot lot.length) :
    ∀ x, x ∈ lot ↔ x < n ∧ g x = a := by
  have han := hl a (by simp)
  intro x
  constructor
  · intro hx
    exact ⟨hl x (h.sub x hx), h.gs x hx⟩
  · rintro ⟨hx, hg⟩
    have hc : Con n R a x := G.con a x han hx (by rw [ha, hg])
    induction hc with
    | refl => exact h.mem
    | @step q r k hq hr e ih =>
      have hgq : g q = a := by rw [G.edge q r hq hr e]; exact hg
      have hqm := ih hq hgq
      rcases List.mem_cons.mp (hall r hr hg) with rfl | hrl
      · exact h.mem
      · refine Classical.byContradiction fun hn => ?_
        obtain ⟨j, hj⟩ := List.mem_iff_getElem?.mp hqm
        have := h.no j q (List.getElem?_eq_some_iff.mp hj).1 hj r hrl hn
        rw [e] at this
        cases this
def clB (kd : Kd) (ss : List (List Int)) (gap : Nat) (F : Int × Int) (p q : Nat) : Bool := decide (gap ≤ (q - p) + (p - q)) && !lessZ F (farAt kd ss p q)
def inZ (n gap p : Nat) : List (Nat × Nat) := (List.range (n - (p + gap))).map fun k => (p, p + gap + k)
def gZ (n gap : Nat) (R : Nat → Nat → Bool) : Nat → Nat := (List.range n).foldl (fun f _ => (List.range n).foldl (fun f p => mgs R f (inZ n gap p)) f) fun p => p
theorem fold_in {R : Nat → Nat → Bool} {n gap : Nat} : ∀ {L : List Nat} {f : Nat → Nat}, L.foldl (fun f p => mgs R f (inZ n gap p)) f = mgs R f (L.flatMap (inZ n gap))
  | [], _ => rfl
  | p :: L, f => by
    rw [List.foldl_cons, List.flatMap_cons, mgs_app]
    exact fold_in (L := L)
theorem gZ_spec {n gap : Nat} {R : Nat → Nat → Bool} (hs : Sy n R) (hR : ∀ p q, R p q = true → gap ≤ (q - p) + (p - q)) (g0 : 1 ≤ gap) : GS n R (gZ n gap R) := by
  have e : ∀ f, (List.range n).foldl (fun f p => mgs R f (inZ n gap p)) f = mgs R f (twoZ n gap) := fun f => fold_in
  have e2 : gZ n gap R = (List.range n).foldl (fun f _ => mgs R f (twoZ n gap)) fun p => p := by
    unfold gZ
    congr 1
    funext f _
    exact e f
  rw [e2]
  have lt : ∀ x ∈ twoZ n gap, x.1 < n ∧ x.2 < n := by
    intro x h
    unfold twoZ at h
    obtain ⟨p, hp, h⟩ := List.mem_flatMap.mp h
    obtain ⟨k, hk, rfl⟩ := List.mem_map.mp h
    have := List.mem_range.mp hp
    have := List.mem_range.mp hk
    simp only
    omega
  have key : ∀ (L : List Nat) (f : Nat → Nat), MI n R f → MI n R (L.foldl (fun f _ => mgs R f (twoZ n gap)) f) ∧ (L ≠ [] → ∀ x ∈ twoZ n gap, R x.1 x.2 = true → (L.foldl (fun f _ => mgs R f (twoZ n gap)) f) x.1 = (L.foldl (fun f _ => mgs R f (twoZ n gap)) f) x.2) ∧ (∀ x y, f x = f y → (L.foldl (fun f _ => mgs R f (twoZ n gap)) f) x = (L.foldl (fun f _ => mgs R f (twoZ n gap)) f) y) := by
    intro L
    induction L with
    | nil => intro f h; exact ⟨h, fun h => absurd rfl h, fun _ _ h => h⟩
    | cons a L ih =>
      intro f h
      obtain ⟨i1, i2, i3⟩ := ih (mgs R f (twoZ n gap)) (h.mgs hs lt)
      refine ⟨i1, ?_, ?_⟩
      · intro _ x hx hr
        exact i3 _ _ (mgs_eq hr hx)
      · intro x y hxy
        exact i3 _ _ (mgs_keep hxy)
  obtain ⟨k1, k2, _⟩ := key (List.range n) (fun p => p) MI.start
  refine ⟨k1.con, ?_, k1.le, k1.fix⟩
  intro p q hp hq hr
  have hne : List.range n ≠ [] := by
    intro h
    have := congrArg List.length h
    simp at this
    omega
  have hg := hR p q hr
  have mem : ∀ a b, a < n → b < n → a + gap ≤ b → (a, b) ∈ twoZ n gap := by
    intro a b ha hb hab
    unfold twoZ
    refine List.mem_flatMap.mpr ⟨a, List.mem_range.mpr ha, List.mem_map.mpr ⟨b - (a + gap), List.mem_range.mpr (by omega), ?_⟩⟩
    have : a + gap + (b - (a + gap)) = b := by omega
    rw [this]
  rcases (show p + gap ≤ q ∨ q + gap ≤ p by omega) with c | c
  · exact k2 hne (p, q) (mem p q hp hq c) hr
  · exact (k2 hne (q, p) (mem q p hq hp c) (by rw [hs q p hq hp]; exact hr)).symm
def fnD' (n : Nat) (f : Nat → Nat) : D := .lst (natsD ((List.range n).map f))
theorem fn_at {n p : Nat} {f : Nat → Nat} (h : p < n) : (natsD ((List.range n).map f))[p]? = some (.int (f p : Nat)) := by
  simp [natsD, List.getElem?_range h]
def lotsD (n : Nat) (g : Nat → Nat) : List D := (roots n g).map fun a => .lst (natsD (cls n g a))
def MarkU (b n : Nat) (M : DSt) (p : Dv × DSt) : Prop := ∃ F : Int × Int, Bn 60 F.1 ∧ Bn 60 F.2 ∧ p.1 = .d (frD F) ∧ Lu b n M p.2
def LtK (w : Nat → List D) (b0 : Nat) (M : DSt) (K : List (Nat × Nat)) : Prop := K.Pairwise (fun a b => a.2 < b.2) ∧ ∀ x ∈ K, b0 < x.2 ∧ x.2 < M.length ∧ M[x.2]? = some (some (w x.1))
/-- between two turns: what is done, what is left -/
structure OutI (n : Nat) (g : Nat → Nat) (fs left : List Nat) : Prop where
  rt : fs ++ left.filter (fun r => g r == r) = roots n g
  lf : left = (List.range n).filter fun p => decide (g p ∉ fs)
theorem OutI.head {n : Nat} {R : Nat → Nat → Bool} {g : Nat → Nat} (G : GS n R g) {fs left : List Nat} {a : Nat} (h : OutI n g fs (a :: left)) : g a = a ∧ a < n ∧ (∀ x ∈ a :: left, x < n) ∧ left.Nodup ∧ a ∉ left ∧ a ∉ fs ∧ (∀ x, x < n → g x = a → x ∈ a :: left) := by
  have hm : ∀ x, x ∈ a :: left ↔ x < n ∧ g x ∉ fs := by
    intro x
    rw [h.lf, List.mem_filter, List.mem_range]
    simp
  have hs : (a :: left).Pairwise (· < ·) := by
    rw [h.lf]
    exact List.pairwise_lt_range.filter _
  have ha := (hm a).mp (by simp)
  have hga : g a ∈ a :: left := (hm (g a)).mpr ⟨by have := G.le a ha.1; omega, by rw [G.fix a ha.1]; exact ha.2⟩
  have hs1 := List.pairwise_cons.mp hs
  have eq : g a = a := by
    rcases List.mem_cons.mp hga with e | e
    · exact e
    · have := hs1.1 _ e
      have := G.le a ha.1
      omega
  refine ⟨eq, ha.1, fun x hx => ((hm x).mp hx).1, hs1.2.imp (fun h => Nat.ne_of_lt h), fun h => absurd (hs1.1 a h) (Nat.lt_irrefl _), by rw [eq] at ha; exact ha.2, ?_⟩
  intro x hx e
  exact (hm x).mpr ⟨hx, by rw [e]; rw [eq] at ha; exact ha.2⟩
theorem OutI.next {n : Nat} {R : Nat → Nat → Bool} {g : Nat → Nat} (G : GS n R g) {fs left lot : List Nat} {a : Nat} (h : OutI n g fs (a :: left)) (hl : ∀ x, x ∈ lot ↔ x < n ∧ g x = a) : OutI n g (fs ++ [a]) (left.filter fun q => decide (q ∉ lot)) := by
  obtain ⟨eq, ha, hlt, nd, hal, haf, hall⟩ := h.head G
  refine ⟨?_, ?_⟩
  · have e1 : (a :: left).filter (fun r => g r == r) = a :: left.filter fun r => g r == r := by
      rw [List.filter_cons, if_pos (by simp [eq])]
    have := h.rt
    rw [e1] at this
    have e2 : (left.filter fun q => decide (q ∉ lot)).filter (fun r => g r == r) = left.filter fun r => g r == r := by
      rw [List.filter_filter]
      apply List.filter_congr
      intro x hx
      by_cases hg : g x = x
      · have : x ∉ lot := by
          intro k
          have := ((hl x).mp k).2
          rw [hg] at this
          subst this
          exact hal hx
        simp [hg, this]
      · simp [hg]
    rw [e2, List.append_assoc]
    exact this
  · have : left.filter (fun q => decide (q ∉ lot)) = (a :: left).filter fun q => decide (q ∉ lot) := by
      rw [List.filter_cons, if_neg]
      simp
      exact (hl a).mpr ⟨ha, eq⟩
    rw [this, h.lf, List.filter_filter]
    apply List.filter_congr
    intro x hx
    have hx := List.mem_range.mp hx
    have := hl x
    by_cases k : g x = a
    · have : x ∈ lot := this.mpr ⟨hx, k⟩
      simp [this, k]
    · have : x ∉ lot := fun h => k (this.mp h).2
      simp [this, k]
theorem sorted_one {ns ms : List Int} (h1 : ms.Perm ns) (h2 : ms.Pairwise (· ≤ ·)) : ns.mergeSort (fun a b => decide (a ≤ b)) = ms := by
  have h3 := List.pairwise_mergeSort (le := fun (a b : Int) => decide (a ≤ b)) (fun a b c => by simp; omega) (fun a b => by simp; omega) ns
  have h4 := List.mergeSort_perm ns (fun a b => decide (a ≤ b))
  exact (h4.trans h1.symm).eq_of_pairwise (le := fun a b => a ≤ b) (fun a b _ _ x y => Int.le_antisymm x y) (h3.imp fun h => of_decide_eq_true h) h2
theorem lot_sorted {n a : Nat} {g : Nat → Nat} {lot : List Nat} (nd : lot.Nodup) (hl : ∀ x, x ∈ lot ↔ x < n ∧ g x = a) : (lot.map fun p : Nat => (p : Int)).mergeSort (fun a b => decide (a ≤ b)) = (cls n g a).map fun p : Nat => (p : Int) := by
  have cm : ∀ x, x ∈ cls n g a ↔ x < n ∧ g x = a := by
    intro x
    unfold cls
    rw [List.mem_filter, List.mem_range]
    simp
  have cp : (cls n g a).Pairwise (· < ·) := List.pairwise_lt_range.filter _
  refine sorted_one ?_ ?_
  · refine List.Perm.map _ ?_
    refine (List.perm_ext_iff_of_nodup (cp.imp fun h => Nat.ne_of_lt h) nd).mpr fun x => ?_
    rw [cm, hl]
  · rw [List.pairwise_map]
    exact cp.imp fun h => by omega
def Mem (B M : DSt) : Prop := ∃ J, M = B ++ none :: J
theorem Mem.set {B M : DSt} (h : Mem B M) {c : Nat} (hc : B.length < c) (x : Option (List D)) : Mem B (M.set c x) := by
  obtain ⟨J, rfl⟩ := h
  refine ⟨J.set (c - B.length - 1) x, ?_⟩
  rw [List.set_append, if_neg (by omega)]
  congr 1
  obtain ⟨k, hk⟩ : ∃ k, c - B.length = k + 1 := ⟨c - B.length - 1, by omega⟩
  rw [hk]
  simp
theorem Mem.app {B M : DSt} (h : Mem B M) (x : Option (List D)) : Mem B (M ++ [x]) := by
  obtain ⟨J, rfl⟩ := h
  exact ⟨J ++ [x], by simp⟩
theorem LtK.set {w : Nat → List D} {b0 : Nat} {M : DSt} {K : List (Nat × Nat)} (h : LtK w b0 M K) {c : Nat} (hc : ∀ x ∈ K, x.2 ≠ c) (y : Option (List D)) : LtK w b0 (M.set c y) K := by
  refine ⟨h.1, fun x hx => ?_⟩
  obtain ⟨a, b, d⟩ := h.2 x hx
  exact ⟨a, by simpa using b, by rw [List.getElem?_set_ne (Ne.symm (hc x hx))]; exact d⟩
theorem LtK.app {w : Nat → List D} {b0 : Nat} {M : DSt} {K : List (Nat × Nat)} (h : LtK w b0 M K) (y : Option (List D)) : LtK w b0 (M ++ [y]) K := by
  refine ⟨h.1, fun x hx => ?_⟩
  obtain ⟨a, b, d⟩ := h.2 x hx
  exact ⟨a, by simp; omega, by rw [List.getElem?_append_left b]; exact d⟩
theorem ok_inN {neg : Bool} {q : Nat} {l : List Nat} {M : DSt} {P : Dv × DSt → Prop} : Ok (oIn neg (.d (.int q)) (.d (.lst (natsD l))) M) P ↔ P (.d (.bl (xor neg (decide (q ∈ l)))), M) := by
  have e : ((natsD l).any fun b => D.eqv b (.int q)) = decide (q ∈ l) := by
    unfold natsD
    rw [List.any_map]
    induction l with
    | nil => rfl
    | cons a l ih =>
      rw [List.any_cons, ih]
      simp only [Function.comp_apply, D.eqv, List.mem_cons]
      by_cases h : q = a
      · simp [h]
      · have h' : ¬ ((a : Int) = (q : Int)) := by omega
        simp [h, h']
  have hf : (natsD l).all D.flat = true := by
    unfold natsD
    rw [List.all_map, List.all_eq_true]
    intro x _
    rfl
  simp only [oIn, sv]
  simp [hf, e, D.flat]
theorem flt {left lot near : List Nat} : left.filter (fun q => decide (q ∉ lot ++ near)) = (left.filter fun q => decide (q ∉ lot)).filter fun q => decide (q ∉ near) := by
  rw [List.filter_filter]
  apply List.filter_congr
  intro x _
  by_cases h1 : x ∈ lot <;> by_cases h2 : x ∈ near <;> simp [h1, h2]
theorem pair_ne {K : List (Nat × Nat)} (h : K.Pairwise fun a b => a.2 < b.2) {i j : Nat} {x y : Nat × Nat} (hi : K[i]? = some x) (hj : K[j]? = some y) (ne : i ≠ j) : x.2 ≠ y.2 := by
  rw [List.pairwise_iff_getElem] at h
  obtain ⟨i1, rfl⟩ := List.getElem?_eq_some_iff.mp hi
  obtain ⟨j1, rfl⟩ := List.getElem?_eq_some_iff.mp hj
  rcases Nat.lt_or_gt_of_ne ne with l | l
  · have := h i j i1 j1 l
    omega
  · have := h j i j1 i1 l
    omega
theorem lots_shp {n : Nat} {g : Nat → Nat} : (D.lst (lotsD n g)).shp 9 = true := by
  simp only [D.shp, lotsD, List.all_map, List.all_eq_true]
  intro p _
  exact nats_shp (l := cls n g p) (n := 7)
theorem row_take {k : Nat} {xs : List Int} (h : Row k xs) (m : Nat) : Row k (xs.take m) := ⟨fun z hz => h.1 z (List.mem_of_mem_take hz), by have := h.2; simp; omega⟩
theorem cut24 {xs : List Int} : cutD (xs.map D.int) none (some 24) = (xs.take 24).map D.int := by
  unfold cutD sIxD
  simp only [List.drop_zero, Nat.sub_zero]
  rw [if_neg (by decide)]
  simp
  done
theorem isi_cell {c : Nat} {xs : List D} {M : DSt} (h : M[c]? = some (some xs)) : oIsi "list" [.c c, .d (.ty "list")] M = some (.d (.bl true), M) := by
  simp [oIsi, dv, h, subTy, D.tyN]
def ChI2 (M : DSt) (n : Nat) (env : DEnv) (i : Nat) (ρ : DEnv) (M1 : DSt) : Prop := ∃ fs : List D, Top M.length M M.length fs M1 ∧ (fs.length ≤ i ∧ fs.all (D.shp 8) = true) ∧ ρ = env
def ChW2 (M1 : DSt) (n : Nat) (env : DEnv) (m : Nat) (ρ : DEnv) (M2 : DSt) : Prop := ∃ (e : Nat) (cs : List D), e < n ∧ m + e = n ∧ (cs.length ≤ e ∧ cs.all (D.shp 7) = true) ∧ M2 = M1 ++ [some (cs ++ [.int e])] ∧ ρ = env
theorem chains_ok2 {M : DSt} {l : Nat} {xs : List Int} {gap : Nat} (kd : Kd) (hx : Row 9 xs) (l0 : 1 ≤ l) (l1 : l ≤ 40) (g0 : 1 ≤ gap) (g1 : gap ≤ 200) :
    Ok (f_chains [.d (rowD xs), .d kd.s, .d (.int gap), .d (.int l)] M) fun r => ∃ fs, fs.all (D.shp 8) = true ∧ r = (.c M.length, M ++ [some fs]) := by
  unfold f_chains
  rw [ok_fn]
  have hs : ∀ s ∈ stretchesZ xs l, 0 < s.length := by
    intro s hs
    obtain ⟨p, hp, rfl⟩ := List.mem_map.mp hs
    have := List.mem_range.mp hp
    rw [cutZ_len (by omega)]
    omega
  have e1 := nexts_ok (M := M) kd hx l0 l1 g0 g1 (by decide)
  have hn := (stretches_fine hx (show 0 < l by omega)).2
  have e2 := leads_ok (M := M) (n := (stretchesZ xs l).length) (f := nextZ kd (stretchesZ xs l) gap) (by omega) (fun p q hp h => next_lt hs hp h)
  have up := fun p q hp h => lead_up (kd := kd) (ss := stretchesZ xs l) (p := p) (q := q) g0 hs hp h
  generalize stretchesZ xs l = ss at *
  generalize leadZ (nextZ kd ss gap) = g at *
  simp [b_chains, startD, -seqP_nx, ↓okE e1, ↓ok_frz rfl, ↓okE e2]
  refine seqP_nx.mpr ?_
  simp [-seqP_nx]
  refine seqP_nx.mpr ?_
  simp
  have ea : ∀ p, p < ss.length → ((List.range ss.length).map fun p => plD (g p))[p]? = some (plD (g p)) := by
    intro p hp
    simp [hp]
  have en : enumD 0 ((List.range ss.length).map fun p => plD (g p)) = (List.range ss.length).map fun q => .tup [.int (q : Nat), plD (g q)] := by
    have := enumD_range (xs := (List.range ss.length).map fun p => plD (g p)) (g := fun q => plD (g q)) fun i hi => ea i (by simpa using hi)
    rw [this]
    simp
  have fl := flat_leads (g := g) (n := ss.length)
  rw [en]
  generalize hR : (List.range ss.length).map (fun p => plD (g p)) = R at *
  refine forL_by _ (ChI2 M ss.length [some (.d (rowD xs)), some (.d kd.s), some (.d (.int gap)), some (.d (.int l)), some (.d (.lst R)), some (.c M.length), none, none, none]) ⟨[], ⟨by simp, by simp, by omega, by simp⟩, ⟨by simp, rfl⟩, rfl⟩ ?_ ?_
  · rintro i x ρ M1 hx' ⟨fs, tp, ⟨fl2, fs8⟩, rfl⟩
    refine ⟨by simp [stand], ?_⟩
    rw [List.getElem?_map] at hx'
    have hi : i < ss.length := by
      by_cases h : i < ss.length
      · exact h
      · simp [h] at hx'
    simp [hi] at hx'
    subst hx'
    cases hg : g i with
    | none =>
      simp [plD, oNotN, isNon]
      exact ⟨fs, tp, ⟨by omega, fs8⟩, rfl⟩
    | some q =>
      have hin : ∀ M, ∃ b, oIn true (.d (.int i)) (.d (.lst R)) M = some (.d (.bl b), M) := by
        intro M
        refine ⟨xor true (R.any fun b => D.eqv b (.int i)), ?_⟩
        simp only [oIn, sv]
        exact grd_ok ⟨rfl, fl⟩
      obtain ⟨b, hin⟩ := hin M1
      have nn : isNon (.d (.int (q : Int))) = false := rfl
      cases b with
      | false =>
        simp [plD, oNotN, isNon, ↓okE hin]
        exact ⟨fs, tp, ⟨by omega, fs8⟩, rfl⟩
      | true =>
        simp [plD, oNotN, nn, ↓okE hin, -seqP_nx, -ok_seq]
        rw [ok_seq]
        simp [-seqP_nx, -ok_seq]
        refine seqP_nx.mpr ?_
        rw [ok_seq]
        refine while_by (ChW2 M1 ss.length [some (.d (rowD xs)), some (.d kd.s), some (.d (.int gap)), some (.d (.int l)), some (.d (.lst R)), some (.c M.length), some (.d (.int i)), some (.d (.int q)), some (.c M1.length)]) (ss.length - i) ⟨i, [], hi, by omega, ⟨by simp, rfl⟩, by simp, rfl⟩ ?_
        rintro m ρ M2 ⟨e, cs, he, hm, ⟨hcl, cs7⟩, rfl, rfl⟩
        have hc : (M1 ++ [some (cs ++ [.int (e : Int)])])[M1.length]? = some (some (cs ++ [.int (e : Int)])) := by simp
        have ea1 := ea e he
        simp [celOk hc, at_last, ok_atN ea1]
        cases hge : g e with
        | none =>
          rw [if_pos (show isNon (.d (plD none)) = true from rfl)]
          have hlt := tp.2.2.2
          have c2 : (M1 ++ [none])[M.length]? = some (some fs) := by
            rw [List.getElem?_append_left hlt]
            exact tp.1
          rw [celOk c2]
          refine ⟨by omega, fs ++ [D.lst (cs ++ [.int (e : Int)])], ⟨?_, ?_, Nat.le_refl _, by simp; omega⟩, ⟨by simp; omega, by rw [List.all_append, fs8]; simp only [List.all_cons, List.all_nil, D.shp, List.all_append, cs7]; rfl⟩, rfl⟩
          · rw [List.getElem?_set_self (by simp; omega)]
          · rw [List.take_set_of_le (Nat.le_refl _), List.take_append_of_le_length (by omega)]
            exact tp.2.1
        | some r =>
          have hr := up e r he hge
          rw [if_neg (by simp [plD, isNon])]
          exact ⟨by omega, ss.length - r, by omega, r, cs ++ [.int (e : Int)], hr.2, by omega, ⟨by simp; omega, by rw [List.all_append, cs7]; rfl⟩, by simp [plD], rfl⟩
  · rintro ρ M1 ⟨fs, ⟨t1, t2, t3, t4⟩, ⟨_, fs8⟩, rfl⟩
    refine ⟨by simp [stand], ?_⟩
    simp
    refine (ok_finC (Nat.le_refl _) t1).mpr ⟨fs, List.all_eq_true.mp fs8, by rw [t2]⟩
theorem sort_ok2 {M : DSt} {fr : List Nat} : ∃ ys, oSorted false [.d (.lst (natsD fr))] M = some (.d (.lst ys), M) ∧ ys.all (D.shp 7) = true := by
  simp [oSorted, lv, ints_nats, mkL, D.shp]
def LoI2 (M : DSt) (N : Nat) (env : Nat → DEnv) (m : Nat) (ρ : DEnv) (M1 : DSt) : Prop := ∃ (fs : List D) (lf : List Nat) (c : Nat), Top M.length M M.length fs M1 ∧ (fs.length + lf.length ≤ N ∧ fs.all (D.shp 8) = true) ∧ M.length < c ∧ M1[c]? = some (some (natsD lf)) ∧ (∀ q ∈ lf, q < N) ∧ m = lf.length ∧ ρ = env c
def LoJ2 (M : DSt) (N T : Nat) (fs : List D) (env : Nat → List Nat → Nat → DEnv) (m : Nat) (ρ : DEnv) (M1 : DSt) : Prop := ∃ (lt lf : List Nat) (at' c : Nat), Top M.length M M.length fs M1 ∧ M.length < c ∧ M1[c]? = some (some (natsD lf)) ∧ (∀ q ∈ lf, q < N) ∧ (∀ q ∈ lt, q < N) ∧ at' ≤ lt.length ∧ lt.length + lf.length = T ∧ 1 ≤ lt.length ∧ m + at' = T ∧ ρ = env c lt at'
def nearM (mk : Int × Int) (kd : Kd) (ss : List (List Int)) (gap p q : Nat) : Bool := apartB gap p q && !lessZ mk (farZ kd (nthZ ss p) (nthZ ss q))
theorem lots_ok2 {M : DSt} {l : Nat} {xs : List Int} {gap : Nat} {mk : Int × Int} (half : Bn 47 mk.1 ∧ Bn 47 mk.2) (kd : Kd) (hx : Row 9 xs) (l0 : 1 ≤ l) (l1 : l ≤ 40) (g0 : 1 ≤ gap) (g1 : gap ≤ 200) :
    Ok (f_lots [.d (rowD xs), .d kd.s, .d (.int gap), .d (.int l), .d (frD mk)] M) fun r => ∃ fs, fs.all (D.shp 8) = true ∧ r = (.c M.length, M ++ [some fs]) := by
  unfold f_lots
  rw [ok_fn]
  have e1 := fun M => must_ask_eq (M := M) kd g0 g1 l0 l1
  have e2 := fun M => stretches_eq (M := M) (xs := xs) (l := l) (by omega) hx.2
  have hs : ∀ s ∈ stretchesZ xs l, Row 9 s ∧ s.length = l := by
    intro s hs
    obtain ⟨p, hp, rfl⟩ := List.mem_map.mp hs
    have := List.mem_range.mp hp
    exact ⟨cutZ_rw hx, cutZ_len (by omega)⟩
  have hn := (stretches_fine hx (show 0 < l by omega)).2
  generalize stretchesZ xs l = ss at *
  simp only [b_lots, startD]
  simp [↓okE (e1 _), -seqP_nx]
  refine seqP_nx.mpr ?_
  simp [-seqP_nx, ↓okE (e2 _)]
  refine seqP_nx.mpr ?_
  simp [-seqP_nx, rowsD_len]
  refine seqP_nx.mpr ?_
  simp [-seqP_nx, rowsD_len]
  have o1 : ∀ M, oListR1 true [.d (.int ss.length)] M = some (.c M.length, M ++ [some (natsD (List.range ss.length))]) := by
    intro M
    simp only [oListR1]
    rw [grd_ok (by omega), ← rng0_nats]
    simp [mkL]
  simp [-seqP_nx, ↓okE (o1 _)]
  refine seqP_nx.mpr ?_
  rw [ok_seq]
  refine while_by (LoI2 M ss.length fun c => [some (.d (rowD xs)), some (.d kd.s), some (.d (.int gap)), some (.d (.int l)), some (.d (frD mk)), some (.d (.lst (rowsD ss))), some (.c M.length), some (.c c), none, none, none, none, none]) ss.length ⟨[], List.range ss.length, M.length + 1, ⟨by simp, by simp, Nat.le_refl _, by simp⟩, ⟨by simp, rfl⟩, by omega, by simp, fun q hq => List.mem_range.mp hq, by simp, by simp⟩ ?_
  rintro m ρ M1 ⟨fs, lf, c, tp, ⟨hT, fs8⟩, hc0, hc, hlf, rfl, rfl⟩
  cases lf with
  | nil =>
    simp [celOk hc, natsD]
    exact (ok_finC (Nat.le_refl _) tp.1).mpr ⟨fs, List.all_eq_true.mp fs8, by rw [tp.2.1]⟩
  | cons p lf =>
    have hl1 : (0 : Int) < ((natsD (p :: lf)).length : Int) := by simp [natsD]
    have hc' : M1[c]? = some (some (.int p :: natsD lf)) := hc
    have hcl : c < M1.length := (List.getElem?_eq_some_iff.mp hc).1
    simp only [List.length_cons] at hT
    have hne : M.length ≠ c := by omega
    simp [celOk hc, hl1, ↓pop0 hc', -seqP_nx, -ok_seq]
    rw [ok_seq]
    simp [-seqP_nx, -ok_seq, ↓pop0 hc']
    refine seqP_nx.mpr ?_
    rw [ok_seq]
    simp [-seqP_nx, -ok_seq]
    refine seqP_nx.mpr ?_
    simp [-seqP_nx, -ok_seq]
    rw [ok_seq]
    have tp2 : Top M.length M M.length fs (M1.set c (some (natsD lf))) := ⟨by rw [List.getElem?_set_ne (by omega)]; exact tp.1, by rw [List.take_set_of_le (by omega)]; exact tp.2.1, Nat.le_refl _, by simpa using tp.2.2.2⟩
    have hc2 : (M1.set c (some (natsD lf)))[c]? = some (some (natsD lf)) := by rw [List.getElem?_set_self hcl]
    generalize M1.set c (some (natsD lf)) = M2 at *
    refine while_by (LoJ2 M ss.length (lf.length + 1) fs fun c lt a => [some (.d (rowD xs)), some (.d kd.s), some (.d (.int gap)), some (.d (.int l)), some (.d (frD mk)), some (.d (.lst (rowsD ss))), some (.c M.length), some (.c c), some (.d (.lst (natsD lt))), some (.d (.int a)), none, none, none]) (lf.length + 1) ⟨[p], lf, 0, c, tp2, hc0, hc2, fun q hq => hlf q (by simp [hq]), fun q hq => hlf q (by simp at hq; simp [hq]), by simp, by simp; omega, by simp, by omega, by simp [natsD]⟩ ?_
    rintro m ρ M3 ⟨lt, lf2, a, c2, tp3, hcc, hc3, h1, h2, h3, h4, h5, h6, rfl⟩
    have hlen : ((natsD lt).length : Int) = (lt.length : Int) := by simp [natsD]
    by_cases ha : a < lt.length
    · have ha' : (a : Int) < (lt.length : Int) := by omega
      obtain ⟨p1, ep⟩ : ∃ p1, lt[a]? = some p1 := ⟨lt[a], List.getElem?_eq_getElem ha⟩
      have hp1 := h2 p1 (List.mem_of_getElem? ep)
      have ea : (natsD lt)[a]? = some (.int (p1 : Int)) := by simp [natsD, ep]
      simp [hlen, ha', -seqP_nx, -ok_seq]
      rw [ok_seq]
      simp [-seqP_nx, -ok_seq, ok_atN ea]
      refine seqP_nx.mpr ?_
      rw [ok_seq]
      simp [-seqP_nx, -ok_seq]
      rw [hc3]
      have hL : (natsD lf2).length ≤ 1000000 := by simp [natsD]; omega
      have hN : natsD lf2 = lf2.map fun q : Nat => D.int q := rfl
      rw [show (some (some (natsD lf2))).join = some (natsD lf2) from rfl, ok_some]
      refine ⟨hL, ?_⟩
      have ep1 := rowsD_at hp1
      have rp1 := hs _ (getD_mem hp1)
      rw [hN]
      refine comp_fm (fun q => if nearM mk kd ss gap p1 q then some (.int q) else none) (by simp [stand]) ?_ ?_
      · intro q hq
        have hq0 := h1 q hq
        have eq1 := rowsD_at hq0
        have rq := hs _ (getD_mem hq0)
        have fe := fun M => far_told_eq (M := M) kd rp1.1 rq.1 (by decide) (by omega)
        have fb := farZ_bn kd rp1.1 rq.1
        have le := fun M => is_less_eq (M := M) half fb (by omega)
        have hab : ((gap : Int) ≤ if (q : Int) - (p1 : Int) < 0 then -((q : Int) - (p1 : Int)) else (q : Int) - (p1 : Int)) ↔ apartB gap p1 q = true := by
          unfold apartB
          simp only [decide_eq_true_eq]
          split <;> omega
        by_cases hA : apartB gap p1 q = true
        · have hA' := hab.mpr hA
          cases hl : lessZ mk (farZ kd (nthZ ss p1) (nthZ ss q)) <;> simp [hA', hA, nearM, hl, ok_atN ep1, ok_atN eq1, rowD, ↓okE (fe _), ↓okE (le _)]
        · have hA' : ¬ ((gap : Int) ≤ if (q : Int) - (p1 : Int) < 0 then -((q : Int) - (p1 : Int)) else (q : Int) - (p1 : Int)) := fun h => hA (hab.mp h)
          simp [hA', hA, nearM]
      have hf : lf2.filterMap (fun q => if nearM mk kd ss gap p1 q then some (D.int q) else none) = natsD (lf2.filter (nearM mk kd ss gap p1)) := by
        exact fm_filter
      rw [hf]
      refine seqP_nx.mpr ?_
      rw [ok_seq]
      have hlz : (natsD lt).length + (natsD (lf2.filter (nearM mk kd ss gap p1))).length ≤ big := by
        have := List.length_filter_le (nearM mk kd ss gap p1) lf2
        simp [natsD, big]
        omega
      simp [-seqP_nx, -ok_seq, hlz]
      refine seqP_nx.mpr ?_
      rw [ok_seq]
      simp [-seqP_nx, -ok_seq]
      rw [hc3, show (some (some (natsD lf2))).join = some (natsD lf2) from rfl, ok_some]
      refine ⟨hL, ?_⟩
      have hnap : natsD lt ++ natsD (lf2.filter (nearM mk kd ss gap p1)) = natsD (lt ++ lf2.filter (nearM mk kd ss gap p1)) := by simp [natsD]
      rw [hnap]
      have hfl := fm_len (P := nearM mk kd ss gap p1) (fr := lf2)
      have hmem : ∀ q ∈ lf2.filter (nearM mk kd ss gap p1), q < ss.length := fun q hq => h1 q (List.mem_filter.mp hq).1
      generalize lf2.filter (nearM mk kd ss gap p1) = nr at *
      rw [hN]
      refine comp_fm (fun q => if !nr.contains q then some (.int q) else none) (by simp [stand]) ?_ ?_
      · intro q hq
        have ni := fun M => nin_eq (M := M) (fr := nr) (q := q)
        cases hb : nr.contains q <;> simp only [hb] at ni <;> simp [↓okE (ni _), hb]
        done
      rw [fm_filter (P := fun q => !nr.contains q)]
      refine seqP_nx.mpr ?_
      simp
      refine ⟨m - 1, by omega, lt ++ nr, lf2.filter (fun q => !nr.contains q), a + 1, M3.length, ?_, ?_, ?_, ?_, ?_, ?_, ?_, ?_, ?_, ?_⟩
      · refine ⟨?_, ?_, Nat.le_refl _, ?_⟩
        · rw [List.getElem?_append_left tp3.2.2.2]
          exact tp3.1
        · rw [List.take_append_of_le_length (Nat.le_of_lt tp3.2.2.2)]
          exact tp3.2.1
        · have := tp3.2.2.2
          simp
          omega
      · exact tp3.2.2.2
      · simp
      · intro q hq
        exact h1 q (List.mem_filter.mp hq).1
      · intro q hq
        rcases List.mem_append.mp hq with h | h
        · exact h2 q h
        · exact hmem q h
      · simp
        omega
      · rw [List.length_append]
        omega
      · simp
        omega
      · omega
      · simp
    · have ha' : ¬ (a : Int) < (lt.length : Int) := by omega
      obtain ⟨ys, hy, ys7⟩ := sort_ok2 (M := M3) (fr := lt)
      simp [hlen, ha', -seqP_nx, ↓okE hy]
      refine seqP_nx.mpr ?_
      simp [↓okE hy, celOk tp3.1]
      have hlt := tp3.2.2.2
      refine ⟨by omega, lf2.length, by omega, fs ++ [.lst ys], lf2, c2, ⟨?_, ?_, Nat.le_refl _, by simpa using hlt⟩, ?_, hcc, ?_, h1, rfl, rfl⟩
      · rw [List.getElem?_set_self hlt]
      · rw [List.take_set_of_le (Nat.le_refl _)]
        exact tp3.2.1
      · refine ⟨by simp; omega, ?_⟩
        rw [List.all_append, fs8]
        simp only [List.all_cons, List.all_nil, D.shp, ys7]
        rfl
      · rw [List.getElem?_set_ne (by omega)]
        exact hc3
theorem must_len_eq {M : DSt} {n : Nat} (h : 1 ≤ n) (h2 : n ≤ 40) : f_must_length [.d (.int n)] M = some (.d .non, M) := by
  apply ok_eq
  unfold f_must_length
  rw [ok_fn]
  have : (n : Int) ≤ 40 := by omega
  have : (1 : Int) ≤ n := by omega
  simp [b_must_length, startD, v_MOST_LENGTH, *]
def runC (L : Nat → Option Nat) : Nat → Nat → List Nat
  | 0, p => [p]
  | k + 1, p => match L p with
    | none => [p]
    | some q => p :: runC L k q
/-- leads rise, within n -/
def Rise (L : Nat → Option Nat) (n : Nat) : Prop := ∀ p q, p < n → L p = some q → p < q ∧ q < n
def chN (L : Nat → Option Nat) (n p : Nat) : List Nat := runC L (n - p) p
theorem run_more {L : Nat → Option Nat} {n : Nat} (h : Rise L n) : ∀ j k p, p < n → n - p ≤ j → n - p ≤ k → runC L j p = runC L k p
  | 0, _, _, hp, h1, _ => by omega
  | _ + 1, 0, _, hp, _, h2 => by omega
  | j + 1, k + 1, p, hp, h1, h2 => by
    unfold runC
    cases hL : L p with
    | none => rfl
    | some q =>
      have hr := h p q hp hL
      simp only
      rw [run_more h j k q hr.2 (by omega) (by omega)]
theorem ch_none {L : Nat → Option Nat} {n p : Nat} (hp : p < n) (h : L p = none) : chN L n p = [p] := by
  unfold chN
  obtain ⟨m, hm⟩ : ∃ m, n - p = m + 1 := ⟨n - p - 1, by omega⟩
  rw [hm]
  unfold runC
  rw [h]
theorem ch_some {L : Nat → Option Nat} {n p q : Nat} (hR : Rise L n) (hp : p < n) (h : L p = some q) : chN L n p = p :: chN L n q := by
  unfold chN
  have hr := hR p q hp h
  obtain ⟨m, hm⟩ : ∃ m, n - p = m + 1 := ⟨n - p - 1, by omega⟩
  rw [hm]
  rw [show runC L (m + 1) p = p :: runC L m q by rw [runC, h]]
  rw [run_more hR m (n - q) q hr.2 (by omega) (by omega)]
theorem ch_ind {L : Nat → Option Nat} {n : Nat} (hR : Rise L n) {P : Nat → List Nat → Prop} (h0 : ∀ p, p < n → L p = none → P p [p]) (h1 : ∀ p q, p < n → L p = some q → p < q → q < n → P q (chN L n q) → P p (p :: chN L n q)) : ∀ p, p < n → P p (chN L n p) := by
  intro p
  induction hm : n - p using Nat.strongRecOn generalizing p with
  | ind m ih =>
    intro hp
    cases hL : L p with
    | none => rw [ch_none hp hL]; exact h0 p hp hL
    | some q =>
      have hr := hR p q hp hL
      rw [ch_some hR hp hL]
      exact h1 p q hp hL hr.1 hr.2 (ih (n - q) (by omega) q rfl hr.2)
/-- neighbours -/
def nb (c : List Nat) : List (Nat × Nat) := c.zip c.tail
theorem ch_head {L : Nat → Option Nat} {n : Nat} (hR : Rise L n) : ∀ p, p < n → ∃ r, chN L n p = p :: r :=
  ch_ind hR (P := fun p c => ∃ r, c = p :: r) (fun p _ _ => ⟨[], rfl⟩) fun p q _ _ _ _ _ => ⟨_, rfl⟩
theorem ch_mem {L : Nat → Option Nat} {n : Nat} (hR : Rise L n) : ∀ p, p < n → ∀ x ∈ chN L n p, p ≤ x ∧ x < n :=
  ch_ind hR (P := fun p c => ∀ x ∈ c, p ≤ x ∧ x < n) (fun p hp _ x hx => by simp at hx; omega) fun p q hp _ hpq hq ih x hx => by
    rcases List.mem_cons.mp hx with rfl | hx
    · omega
    · have := ih x hx
      omega
theorem ch_up {L : Nat → Option Nat} {n : Nat} (hR : Rise L n) : ∀ p, p < n → (chN L n p).Pairwise (· < ·) :=
  ch_ind hR (P := fun p c => c.Pairwise (· < ·)) (fun p hp _ => by simp) fun p q hp _ hpq hq ih => by
    refine List.pairwise_cons.mpr ⟨fun x hx => ?_, ih⟩
    have := ch_mem hR q hq x hx
    omega
theorem ch_nb {L : Nat → Option Nat} {n : Nat} (hR : Rise L n) : ∀ p, p < n → ∀ a b, (a, b) ∈ nb (chN L n p) ↔ a ∈ chN L n p ∧ L a = some b :=
  ch_ind hR (P := fun p c => ∀ a b, (a, b) ∈ nb c ↔ a ∈ c ∧ L a = some b) (fun p hp h a b => by
    simp [nb]
    intro e
    subst e
    rw [h]
    simp) fun p q hp h hpq hq ih a b => by
    obtain ⟨r, hr⟩ := ch_head hR q hq
    rw [hr] at ih ⊢
    have e : nb (p :: q :: r) = (p, q) :: nb (q :: r) := rfl
    rw [e, List.mem_cons, List.mem_cons, ih a b, or_and_right]
    constructor
    · rintro (e | e)
      · cases e; exact .inl ⟨rfl, h⟩
      · exact .inr e
    · rintro (⟨e1, e2⟩ | e2)
      · rw [e1, h] at e2; cases e2; rw [e1]; exact .inl rfl
      · exact .inr e2
theorem ch_pre {L : Nat → Option Nat} {n : Nat} (hR : Rise L n) : ∀ p, p < n → ∀ x ∈ chN L n p, x = p ∨ ∃ y ∈ chN L n p, L y = some x :=
  ch_ind hR (P := fun p c => ∀ x ∈ c, x = p ∨ ∃ y ∈ c, L y = some x) (fun p hp _ x hx => by simp at hx; exact .inl hx) fun p q hp h hpq hq ih x hx => by
    rcases List.mem_cons.mp hx with rfl | hx
    · exact .inl rfl
    · right
      rcases ih x hx with rfl | ⟨y, hy, e⟩
      · exact ⟨p, by simp, h⟩
      · exact ⟨y, by simp [hy], e⟩
theorem ch_next {L : Nat → Option Nat} {n : Nat} (hR : Rise L n) : ∀ p, p < n → ∀ x ∈ chN L n p, ∀ y, L x = some y → y ∈ chN L n p :=
  ch_ind hR (P := fun p c => ∀ x ∈ c, ∀ y, L x = some y → y ∈ c) (fun p hp h x hx y hy => by simp at hx; subst hx; rw [h] at hy; cases hy) fun p q hp h hpq hq ih x hx y hy => by
    rcases List.mem_cons.mp hx with rfl | hx
    · rw [h] at hy
      cases hy
      obtain ⟨r, hr⟩ := ch_head hR q hq
      simp [hr]
    · simp [ih x hx y hy]
/-- a place none leads to -/
def stB (L : Nat → Option Nat) (n p : Nat) : Bool := (L p).isSome && (List.range n).all fun q => decide (L q ≠ some p)
def starts (L : Nat → Option Nat) (n : Nat) : List Nat := (List.range n).filter (stB L n)
def Inj (L : Nat → Option Nat) (n : Nat) : Prop := ∀ a b c, a < n → b < n → L a = some c → L b = some c → a = b
theorem st_mem {L : Nat → Option Nat} {n p : Nat} : p ∈ starts L n ↔ p < n ∧ (L p).isSome = true ∧ ∀ q, q < n → L q ≠ some p := by
  unfold starts stB
  rw [List.mem_filter, List.mem_range, Bool.and_eq_true, List.all_eq_true]
  simp only [List.mem_range, decide_eq_true_eq]
theorem st_up {L : Nat → Option Nat} {n : Nat} : (starts L n).Pairwise (· < ·) := List.Pairwise.filter _ List.pairwise_lt_range
theorem ch_same {L : Nat → Option Nat} {n : Nat} (hR : Rise L n) (hI : Inj L n) {p p' : Nat} (hp : p ∈ starts L n) (hp' : p' ∈ starts L n) : ∀ x, x ∈ chN L n p → x ∈ chN L n p' → p = p' := by
  obtain ⟨h1, h2, h3⟩ := st_mem.mp hp
  obtain ⟨g1, g2, g3⟩ := st_mem.mp hp'
  intro x
  induction x using Nat.strongRecOn with
  | ind x ih =>
    intro hx hx'
    rcases ch_pre hR p h1 x hx with rfl | ⟨y, hy, e⟩
    · rcases ch_pre hR p' g1 x hx' with rfl | ⟨y, hy, e⟩
      · rfl
      · exact absurd e (h3 y (ch_mem hR p' g1 y hy).2)
    · have yn := (ch_mem hR p h1 y hy).2
      rcases ch_pre hR p' g1 x hx' with rfl | ⟨y', hy', e'⟩
      · exact absurd e (g3 y yn)
      · have := hI y y' x yn (ch_mem hR p' g1 y' hy').2 e e'
        subst this
        exact ih y (hR y x yn e).1 hy hy'
theorem ch_all {L : Nat → Option Nat} {n : Nat} (hR : Rise L n) : ∀ a, a < n → (L a).isSome = true → ∃ p ∈ starts L n, a ∈ chN L n p := by
  intro a
  induction a using Nat.strongRecOn with
  | ind a ih =>
    intro ha hs
    by_cases h : ∀ q, q < n → L q ≠ some a
    · obtain ⟨r, hr⟩ := ch_head hR a ha
      exact ⟨a, st_mem.mpr ⟨ha, hs, h⟩, by simp [hr]⟩
    · obtain ⟨q, hq⟩ := Classical.not_forall.mp h
      obtain ⟨hq, e⟩ := Classical.not_imp.mp hq
      have e := Classical.not_not.mp e
      obtain ⟨p, hp, hm⟩ := ih q (hR q a hq e).1 hq (by rw [e]; rfl)
      exact ⟨p, hp, ch_next hR p (st_mem.mp hp).1 q hm a e⟩
def seenZ (L : Nat → Option Nat) (n : Nat) : List Nat := (starts L n).flatMap (chN L n)
def linksZ (L : Nat → Option Nat) (n : Nat) : List (Nat × Nat) := (starts L n).flatMap fun p => nb (chN L n p)
def dueZ (L : Nat → Option Nat) (n : Nat) : List (Nat × Nat) := (List.range n).filterMap fun p => (L p).map fun q => (p, q)
theorem seen_nodup {L : Nat → Option Nat} {n : Nat} (hR : Rise L n) (hI : Inj L n) : (seenZ L n).Nodup := by
  unfold seenZ List.Nodup
  rw [List.pairwise_flatMap]
  refine ⟨fun p hp => (ch_up hR p (st_mem.mp hp).1).imp fun h => Nat.ne_of_lt h, ?_⟩
  refine List.Pairwise.imp_of_mem (R := fun a b => a < b) ?_ st_up
  intro a b ha hb hab x hx y hy e
  subst e
  have := ch_same hR hI ha hb x hx hy
  omega
theorem nb_fst : ∀ c : List Nat, ∃ t, (nb c).map (·.1) ++ t = c
  | [] => ⟨[], rfl⟩
  | [a] => ⟨[a], rfl⟩
  | a :: b :: r => by
    obtain ⟨t, h⟩ := nb_fst (b :: r)
    refine ⟨t, ?_⟩
    have e : nb (a :: b :: r) = (a, b) :: nb (b :: r) := rfl
    rw [e, List.map_cons, List.cons_append, h]
theorem nb_nodup {c : List Nat} (h : c.Nodup) : (nb c).Nodup := by
  obtain ⟨t, e⟩ := nb_fst c
  rw [← e] at h
  have := (List.nodup_append.mp h).1
  exact (List.Pairwise.of_map (S := fun a b => a ≠ b) (R := fun a b : Nat × Nat => a ≠ b) (·.1) (fun a b hab e => hab (by rw [e])) this)
theorem links_mem {L : Nat → Option Nat} {n : Nat} (hR : Rise L n) {a b : Nat} : (a, b) ∈ linksZ L n ↔ a < n ∧ L a = some b := by
  unfold linksZ
  rw [List.mem_flatMap]
  constructor
  · rintro ⟨p, hp, h⟩
    have hpn := (st_mem.mp hp).1
    obtain ⟨h1, h2⟩ := (ch_nb hR p hpn a b).mp h
    exact ⟨(ch_mem hR p hpn a h1).2, h2⟩
  · rintro ⟨h1, h2⟩
    obtain ⟨p, hp, hm⟩ := ch_all hR a h1 (by rw [h2]; rfl)
    exact ⟨p, hp, (ch_nb hR p (st_mem.mp hp).1 a b).mpr ⟨hm, h2⟩⟩
theorem links_nodup {L : Nat → Option Nat} {n : Nat} (hR : Rise L n) (hI : Inj L n) : (linksZ L n).Nodup := by
  unfold linksZ List.Nodup
  rw [List.pairwise_flatMap]
  refine ⟨fun p hp => nb_nodup ((ch_up hR p (st_mem.mp hp).1).imp fun h => Nat.ne_of_lt h), ?_⟩
  refine List.Pairwise.imp_of_mem (R := fun a b => a < b) ?_ st_up
  intro a b ha hb hab x hx y hy e
  subst e
  obtain ⟨u, v⟩ := x
  have h1 := (ch_nb hR a (st_mem.mp ha).1 u v).mp hx
  have h2 := (ch_nb hR b (st_mem.mp hb).1 u v).mp hy
  have := ch_same hR hI ha hb u h1.1 h2.1
  omega
theorem due_mem {L : Nat → Option Nat} {n a b : Nat} : (a, b) ∈ dueZ L n ↔ a < n ∧ L a = some b := by
  unfold dueZ
  rw [List.mem_filterMap]
  constructor
  · rintro ⟨p, hp, e⟩
    rw [Option.map_eq_some_iff] at e
    obtain ⟨q, hq, e⟩ := e
    cases e
    exact ⟨List.mem_range.mp hp, hq⟩
  · rintro ⟨h1, h2⟩
    exact ⟨a, List.mem_range.mpr h1, by rw [h2]; rfl⟩
theorem due_up {L : Nat → Option Nat} {n : Nat} : (dueZ L n).Pairwise fun a b => a.1 < b.1 := by
  unfold dueZ
  rw [List.pairwise_filterMap]
  refine List.Pairwise.imp ?_ List.pairwise_lt_range
  intro a b hab x hx y hy
  rw [Option.map_eq_some_iff] at hx hy
  obtain ⟨u, _, rfl⟩ := hx
  obtain ⟨v, _, rfl⟩ := hy
  exact hab
theorem perm_of {α : Type} [DecidableEq α] {l m : List α} (h1 : l.Nodup) (h2 : m.Nodup) (h : ∀ x, x ∈ l ↔ x ∈ m) : l.Perm m := by
  rw [List.perm_iff_count]
  intro a
  rw [h1.count, h2.count]
  by_cases e : a ∈ l
  · rw [if_pos e, if_pos ((h a).mp e)]
  · rw [if_neg e, if_neg (fun k => e ((h a).mpr k))]
theorem links_perm {L : Nat → Option Nat} {n : Nat} (hR : Rise L n) (hI : Inj L n) : (linksZ L n).Perm (dueZ L n) :=
  perm_of (links_nodup hR hI) (due_up.imp fun h e => by rw [e] at h; omega) fun ⟨a, b⟩ => by rw [links_mem hR, due_mem]
/-- a chain told in whole -/
def MaxP (L : Nat → Option Nat) (n : Nat) (c : List Nat) : Prop := (∃ p r, c = p :: r ∧ p ∈ starts L n) ∧ (∀ a b, (a, b) ∈ nb c → L a = some b) ∧ (∀ x ∈ c.getLast?, L x = none)
theorem nb_cons {a b : Nat} {r : List Nat} : nb (a :: b :: r) = (a, b) :: nb (b :: r) := rfl
theorem ch_last {L : Nat → Option Nat} {n : Nat} (hR : Rise L n) : ∀ p, p < n → ∀ x ∈ (chN L n p).getLast?, L x = none :=
  ch_ind hR (P := fun p c => ∀ x ∈ c.getLast?, L x = none) (fun p hp h x hx => by simp at hx; subst hx; exact h) fun p q hp h hpq hq ih x hx => by
    obtain ⟨r, hr⟩ := ch_head hR q hq
    rw [hr] at ih hx
    rw [List.getLast?_cons_cons] at hx
    exact ih x hx
theorem ch_max {L : Nat → Option Nat} {n p : Nat} (hR : Rise L n) (hp : p ∈ starts L n) : MaxP L n (chN L n p) := by
  have h := (st_mem.mp hp).1
  obtain ⟨r, hr⟩ := ch_head hR p h
  exact ⟨⟨p, r, hr, hp⟩, fun a b hab => ((ch_nb hR p h a b).mp hab).2, ch_last hR p h⟩
theorem path_run {L : Nat → Option Nat} {n : Nat} (hR : Rise L n) : ∀ (r : List Nat) (p : Nat), p < n → (∀ a b, (a, b) ∈ nb (p :: r) → L a = some b) → (∀ x ∈ (p :: r).getLast?, L x = none) → p :: r = chN L n p
  | [], p, hp, h1, h2 => by
    rw [ch_none hp (h2 p (by simp))]
  | q :: r, p, hp, h1, h2 => by
    have e := h1 p q (by rw [nb_cons]; simp)
    have hr := hR p q hp e
    rw [ch_some hR hp e, ← path_run hR r q hr.2 (fun a b hab => h1 a b (by rw [nb_cons]; simp [hab])) (fun x hx => h2 x (by rw [List.getLast?_cons_cons]; exact hx))]
theorem max_ch {L : Nat → Option Nat} {n : Nat} {c : List Nat} (hR : Rise L n) (h : MaxP L n c) : ∃ p ∈ starts L n, c = chN L n p := by
  obtain ⟨⟨p, r, rfl, hp⟩, h1, h2⟩ := h
  exact ⟨p, hp, path_run hR r p (st_mem.mp hp).1 h1 h2⟩
def chainsZ (L : Nat → Option Nat) (n : Nat) : List (List Nat) := (starts L n).map (chN L n)
theorem chains_mem {L : Nat → Option Nat} {n : Nat} {c : List Nat} (hR : Rise L n) : c ∈ chainsZ L n ↔ MaxP L n c := by
  unfold chainsZ
  rw [List.mem_map]
  constructor
  · rintro ⟨p, hp, rfl⟩
    exact ch_max hR hp
  · intro h
    obtain ⟨p, hp, rfl⟩ := max_ch hR h
    exact ⟨p, hp, rfl⟩
def mir (n : Nat) (c : List Nat) : List Nat := (c.map fun p => n - 1 - p).reverse
/-- the one is the other from behind -/
def Turned (L L' : Nat → Option Nat) (n : Nat) : Prop := ∀ p q, p < n → q < n → (L' p = some q ↔ L (n - 1 - q) = some (n - 1 - p))
theorem nb_mir {n : Nat} : ∀ {c : List Nat} {a b : Nat}, (a, b) ∈ nb c.reverse ↔ (b, a) ∈ nb c := by
  have one : ∀ (c : List Nat) (a b : Nat), (b, a) ∈ nb c → (a, b) ∈ nb c.reverse := by
    intro c a b h
    unfold nb at h ⊢
    rw [List.mem_iff_getElem?] at h
    obtain ⟨i, hi⟩ := h
    rw [List.getElem?_zip_eq_some] at hi
    obtain ⟨h1, h2⟩ := hi
    simp only [List.getElem?_tail] at h1 h2
    obtain ⟨l2, e2⟩ := List.getElem?_eq_some_iff.mp h2
    rw [List.mem_iff_getElem?]
    refine ⟨c.length - 2 - i, ?_⟩
    rw [List.getElem?_zip_eq_some]
    simp only [List.getElem?_tail]
    rw [List.getElem?_reverse (by omega), List.getElem?_reverse (by omega)]
    constructor
    · rw [← h2]; congr 1; omega
    · rw [← h1]; congr 1; omega
  intro c a b
  constructor
  · intro h
    have := one _ _ _ h
    rwa [List.reverse_reverse] at this
  · exact one c a b
theorem nb_map {f : Nat → Nat} {c : List Nat} {a b : Nat} : (a, b) ∈ nb (c.map f) ↔ ∃ u v, (u, v) ∈ nb c ∧ f u = a ∧ f v = b := by
  unfold nb
  rw [← List.map_tail, List.zip_map, List.mem_map]
  constructor
  · rintro ⟨⟨u, v⟩, h, e⟩
    simp only [Prod.map, Prod.mk.injEq] at e
    exact ⟨u, v, h, e.1, e.2⟩
  · rintro ⟨u, v, h, rfl, rfl⟩
    exact ⟨(u, v), h, rfl⟩
theorem mir_max {L L' : Nat → Option Nat} {n : Nat} {c : List Nat} (hR : Rise L n) (hR' : Rise L' n) (hT : Turned L L' n) (h : MaxP L n c) : MaxP L' n (mir n c) := by
  have hc := max_ch hR h
  obtain ⟨p, hp, rfl⟩ := hc
  obtain ⟨h1, h2, h3⟩ := st_mem.mp hp
  have mm := ch_mem hR p h1
  have nbm : ∀ a b, (a, b) ∈ nb (mir n (chN L n p)) → ∃ u v, (u, v) ∈ nb (chN L n p) ∧ n - 1 - u = b ∧ n - 1 - v = a := by
    intro a b hab
    unfold mir at hab
    rw [nb_mir (n := n), nb_map] at hab
    exact hab
  refine ⟨?_, ?_, ?_⟩
  · obtain ⟨x, hx⟩ : ∃ x, (chN L n p).getLast? = some x := by
      obtain ⟨r, hr⟩ := ch_head hR p h1
      rw [hr]
      exact ⟨_, List.getLast?_eq_some_getLast (by simp)⟩
    have hxm := List.mem_of_getLast? hx
    have hxn := (mm x hxm).2
    have hl := ch_last hR p h1 x (by rw [hx]; rfl)
    refine ⟨n - 1 - x, (mir n (chN L n p)).tail, ?_, st_mem.mpr ⟨by omega, ?_, ?_⟩⟩
    · have : (mir n (chN L n p)).head? = some (n - 1 - x) := by
        unfold mir
        rw [List.head?_reverse, List.getLast?_map, hx]
        rfl
      cases hm : mir n (chN L n p) with
      | nil => rw [hm] at this; cases this
      | cons a r => rw [hm] at this; simp at this; subst this; rfl
    · rcases ch_pre hR p h1 x hxm with rfl | ⟨y, hy, e⟩
      · rw [hl] at h2; cases h2
      · have hyn := (mm y hy).2
        have := (hT (n - 1 - x) (n - 1 - y) (by omega) (by omega)).mpr (by
          rw [show n - 1 - (n - 1 - y) = y by omega, show n - 1 - (n - 1 - x) = x by omega]
          exact e)
        rw [this]
        rfl
    · intro q hq e
      have hqx := hR' q _ hq e
      have := (hT q (n - 1 - x) hq (by omega)).mp e
      rw [show n - 1 - (n - 1 - x) = x by omega, hl] at this
      cases this
  · intro a b hab
    obtain ⟨u, v, huv, rfl, rfl⟩ := nbm a b hab
    obtain ⟨hu, e⟩ := (ch_nb hR p h1 u v).mp huv
    have hun := (mm u hu).2
    have hvn := (hR u v hun e).2
    exact (hT (n - 1 - v) (n - 1 - u) (by omega) (by omega)).mpr (by
      rw [show n - 1 - (n - 1 - u) = u by omega, show n - 1 - (n - 1 - v) = v by omega]
      exact e)
  · intro x hx
    have hx2 : x = n - 1 - p := by
      obtain ⟨r, hr⟩ := ch_head hR p h1
      unfold mir at hx
      rw [hr, List.getLast?_reverse] at hx
      simp at hx
      exact hx.symm
    subst hx2
    cases e : L' (n - 1 - p) with
    | none => rfl
    | some q =>
      have hq := hR' _ _ (show n - 1 - p < n by omega) e
      have := (hT (n - 1 - p) q (by omega) hq.2).mp e
      rw [show n - 1 - (n - 1 - p) = p by omega] at this
      exact absurd this (h3 (n - 1 - q) (by omega))
theorem Turned.symm {L L' : Nat → Option Nat} {n : Nat} (h : Turned L L' n) : Turned L' L n := by
  intro p q hp hq
  rw [h (n - 1 - q) (n - 1 - p) (by omega) (by omega), show n - 1 - (n - 1 - p) = p by omega, show n - 1 - (n - 1 - q) = q by omega]
theorem mir_mir {n : Nat} {c : List Nat} (h : ∀ x ∈ c, x < n) : mir n (mir n c) = c := by
  unfold mir
  rw [List.map_reverse, List.reverse_reverse, List.map_map]
  conv => rhs; rw [← List.map_id c]
  refine List.map_congr_left fun x hx => ?_
  have := h x hx
  simp
  omega
theorem chains_nodup {L : Nat → Option Nat} {n : Nat} (hR : Rise L n) : (chainsZ L n).Nodup := by
  unfold chainsZ List.Nodup
  rw [List.pairwise_map]
  refine List.Pairwise.imp_of_mem (R := fun a b => a < b) ?_ st_up
  intro a b ha hb hab e
  obtain ⟨r, hr⟩ := ch_head hR a (st_mem.mp ha).1
  obtain ⟨s, hs⟩ := ch_head hR b (st_mem.mp hb).1
  rw [hr, hs] at e
  cases e
  omega
theorem max_lt {L : Nat → Option Nat} {n : Nat} {c : List Nat} (hR : Rise L n) (h : MaxP L n c) : ∀ x ∈ c, x < n := by
  obtain ⟨p, hp, rfl⟩ := max_ch hR h
  exact fun x hx => (ch_mem hR p (st_mem.mp hp).1 x hx).2
theorem turned_perm {L L' : Nat → Option Nat} {n : Nat} (hR : Rise L n) (hR' : Rise L' n) (hT : Turned L L' n) : (chainsZ L' n).Perm ((chainsZ L n).map (mir n)) := by
  refine perm_of (chains_nodup hR') ?_ ?_
  · unfold List.Nodup
    rw [List.pairwise_map]
    refine List.Pairwise.imp_of_mem (R := fun a b => a ≠ b) ?_ (chains_nodup hR)
    intro a b ha hb hab e
    have h1 := mir_mir (max_lt hR ((chains_mem hR).mp ha))
    have h2 := mir_mir (max_lt hR ((chains_mem hR).mp hb))
    rw [e, h2] at h1
    exact hab h1.symm
  · intro c
    rw [chains_mem hR', List.mem_map]
    constructor
    · intro h
      exact ⟨mir n c, (chains_mem hR).mpr (mir_max hR' hR hT.symm h), mir_mir (max_lt hR' h)⟩
    · rintro ⟨d, hd, rfl⟩
      exact mir_max hR hR' hT ((chains_mem hR).mp hd)
theorem lex_total : ∀ {a b : List Int}, lexZ a b = true → lexZ b a = false
  | [], [], h => by simp [lexZ] at h
  | [], _ :: _, _ => by simp [lexZ]
  | _ :: _, [], h => by simp [lexZ] at h
  | x :: xs, y :: ys, h => by
    simp only [lexZ] at h ⊢
    by_cases e : x = y
    · subst e
      simp at h ⊢
      exact lex_total h
    · have e' : ¬ y = x := fun k => e k.symm
      simp [e, e'] at h ⊢
      omega
theorem lex_anti : ∀ {a b : List Int}, lexZ a b = false → lexZ b a = false → a = b
  | [], [], _, _ => rfl
  | [], _ :: _, h, _ => by simp [lexZ] at h
  | _ :: _, [], _, h => by simp [lexZ] at h
  | x :: xs, y :: ys, h, k => by
    simp only [lexZ] at h k
    by_cases e : x = y
    · subst e
      simp at h k
      rw [lex_anti h k]
    · have e' : ¬ y = x := fun k => e k.symm
      simp [e, e'] at h k
      omega
theorem lex_trans : ∀ {a b c : List Int}, lexZ b a = false → lexZ c b = false → lexZ c a = false
  | a, [], [], h, _ => h
  | a, _ :: _, [], _, k => by simp [lexZ] at k
  | [], _, _ :: _, h, k => by simp [lexZ]
  | _ :: _, [], _ :: _, h, _ => by simp [lexZ] at h
  | x :: xs, y :: ys, z :: zs, h, k => by
    simp only [lexZ] at h k ⊢
    by_cases e : y = x
    · subst e
      simp at h
      by_cases e2 : z = y
      · subst e2
        simp at k ⊢
        exact lex_trans h k
      · simp [e2] at k ⊢
        exact k
    · simp [e] at h
      by_cases e2 : z = y
      · subst e2
        simp [e]
        exact h
      · simp [e2] at k
        have e3 : ¬ z = x := by omega
        simp [e3]
        omega
theorem sort_lex {ns ms : List (List Int)} (h1 : ms.Perm ns) (h2 : ms.Pairwise fun a b => lexZ a b = true) : (ns.mergeSort fun a b => !lexZ b a) = ms := by
  refine List.Perm.eq_of_pairwise (le := fun a b : List Int => lexZ b a = false) (fun a b _ _ x y => lex_anti y x) ?_ (h2.imp fun h => lex_total h) ((List.mergeSort_perm _ _).trans h1.symm)
  have := List.pairwise_mergeSort (le := fun a b : List Int => !lexZ b a) (fun a b c h1 h2 => by simp at *; exact lex_trans h1 h2) (fun a b => by
    cases h : lexZ a b with
    | true => simp [lex_total h]
    | false => simp) ns
  exact this.imp fun h => by simpa using h
theorem lex_head {a b : Int} {r s : List Int} (h : a < b) : lexZ (a :: r) (b :: s) = true := by
  simp only [lexZ]
  rw [if_neg (by omega)]
  simpa using h
def NoTie (kd : Kd) (ss : List (List Int)) : Prop := ∀ p q r, p < ss.length → q < ss.length → r < ss.length → farAt kd ss p q = farAt kd ss p r → q = r
theorem place_is {kd : Kd} {ss : List (List Int)} {p : Nat} {fr : List Nat} (hs : ∀ s ∈ ss, 0 < s.length) (hp : p < ss.length) (hT : NoTie kd ss) (hf : ∀ q ∈ fr, q < ss.length) {q : Nat} : placeZ kd ss (nthZ ss p) fr = some q ↔ q ∈ fr ∧ ∀ r ∈ fr, r ≠ q → lessZ (farAt kd ss p q) (farAt kd ss p r) = true := by
  unfold placeZ minBy
  have e : (fr.map fun q => (farZ kd (nthZ ss p) (nthZ ss q), q)) = fr.map fun q => (farAt kd ss p q, q) := rfl
  rw [e]
  have pos : ∀ y ∈ fr.map (fun q => (farAt kd ss p q, q)), 0 < y.1.2 := by
    intro y hy
    obtain ⟨r, hr, rfl⟩ := List.mem_map.mp hy
    exact (farAt_low hs hp).1
  constructor
  · intro h
    rw [Option.map_eq_some_iff] at h
    obtain ⟨y, hy, rfl⟩ := h
    have hm := minOf_some pos hy
    obtain ⟨q, hq, rfl⟩ := List.mem_map.mp hm.mem
    refine ⟨hq, fun r hr hne => ?_⟩
    have h1 := hm.le (List.mem_map.mpr ⟨r, hr, rfl⟩)
    cases h2 : lessZ (farAt kd ss p q) (farAt kd ss p r) with
    | true => rfl
    | false =>
      have := low_same (farAt_low hs hp) (farAt_low hs hp) h1 h2
      exact absurd (hT p _ _ hp (hf _ hr) (hf _ hq) this) hne
  · rintro ⟨hq, hl⟩
    have : ∃ y, minOf (fr.map fun q => (farAt kd ss p q, q)) = some y := by
      cases h : minOf (fr.map fun q => (farAt kd ss p q, q)) with
      | some y => exact ⟨y, rfl⟩
      | none =>
        rw [minOf_none pos] at h
        simp at h
        subst h
        cases hq
    obtain ⟨y, hy⟩ := this
    have hm := minOf_some pos hy
    obtain ⟨r, hr, rfl⟩ := List.mem_map.mp hm.mem
    rw [hy]
    by_cases hne : r = q
    · subst hne; rfl
    · have h1 := hm.le (List.mem_map.mpr ⟨q, hq, rfl⟩)
      have h2 := hl r hr hne
      simp only at h1
      rw [h1] at h2
      cases h2
/-- the row from behind -/
def Mir (kd : Kd) (ss ss' : List (List Int)) : Prop := ss'.length = ss.length ∧ ∀ p q, p < ss.length → q < ss.length → farAt kd ss' p q = farAt kd ss (ss.length - 1 - p) (ss.length - 1 - q)
theorem NoTie.mir {kd : Kd} {ss ss' : List (List Int)} (hT : NoTie kd ss) (hM : Mir kd ss ss') : NoTie kd ss' := by
  intro p q r hp hq hr e
  obtain ⟨h1, h2⟩ := hM
  rw [h1] at hp hq hr
  rw [h2 p q hp hq, h2 p r hp hr] at e
  have := hT _ _ _ (by omega) (by omega) (by omega) e
  omega
theorem next_mir1 {kd : Kd} {ss ss' : List (List Int)} {gap p q : Nat} (hs : ∀ s ∈ ss, 0 < s.length) (hs' : ∀ s ∈ ss', 0 < s.length) (hT : NoTie kd ss) (hM : Mir kd ss ss') (g0 : 1 ≤ gap) (hp : p < ss.length) (hq : q < ss.length) : (nextZ kd ss' gap p).1 = some q ↔ (nextZ kd ss gap (ss.length - 1 - p)).2 = some (ss.length - 1 - q) := by
  have hT' := hT.mir hM
  obtain ⟨m1, m2⟩ := hM
  unfold nextZ
  simp only
  rw [place_is hs' (by omega) hT' (by intro r hr; exact List.mem_range.mp (List.mem_filter.mp hr).1), place_is hs (by omega) hT (by intro r hr; exact List.mem_range.mp (List.mem_filter.mp hr).1)]
  simp only [List.mem_filter, List.mem_range, decide_eq_true_eq, m1]
  constructor
  · rintro ⟨⟨h1, h2⟩, h3⟩
    refine ⟨⟨by omega, by omega⟩, fun r hr hne => ?_⟩
    have := h3 (ss.length - 1 - r) ⟨by omega, by omega⟩ (by omega)
    rw [m2 p q hp hq, m2 p _ hp (by omega), show ss.length - 1 - (ss.length - 1 - r) = r by omega] at this
    exact this
  · rintro ⟨⟨h1, h2⟩, h3⟩
    refine ⟨⟨hq, by omega⟩, fun r hr hne => ?_⟩
    have := h3 (ss.length - 1 - r) ⟨by omega, by omega⟩ (by omega)
    rw [m2 p q hp hq, m2 p r hp (by omega)]
    exact this
theorem Mir.symm {kd : Kd} {ss ss' : List (List Int)} (hM : Mir kd ss ss') : Mir kd ss' ss := by
  obtain ⟨h1, h2⟩ := hM
  refine ⟨h1.symm, fun p q hp hq => ?_⟩
  rw [h1] at hp hq ⊢
  rw [h2 _ _ (by omega) (by omega), show ss.length - 1 - (ss.length - 1 - p) = p by omega, show ss.length - 1 - (ss.length - 1 - q) = q by omega]
theorem lead_iff {f : Nat → Option Nat × Option Nat} {p q : Nat} : leadZ f p = some q ↔ (f p).1 = some q ∧ (f q).2 = some p := by
  unfold leadZ
  split
  · rename_i h; rw [h]; simp
  · rename_i r h
    rw [h]
    split
    · rename_i h2
      constructor
      · intro e; cases e; exact ⟨rfl, h2⟩
      · rintro ⟨e, _⟩; exact e
    · rename_i h2
      constructor
      · intro e; cases e
      · rintro ⟨e, h3⟩; cases e; exact absurd h3 h2
theorem lead_turned {kd : Kd} {ss ss' : List (List Int)} {gap : Nat} (hs : ∀ s ∈ ss, 0 < s.length) (hs' : ∀ s ∈ ss', 0 < s.length) (hT : NoTie kd ss) (hM : Mir kd ss ss') (g0 : 1 ≤ gap) : Turned (leadZ (nextZ kd ss gap)) (leadZ (nextZ kd ss' gap)) ss.length := by
  intro p q hp hq
  rw [lead_iff, lead_iff, next_mir1 hs hs' hT hM g0 hp hq]
  have m := next_mir1 (p := ss.length - 1 - q) (q := ss.length - 1 - p) hs' hs (hT.mir hM) hM.symm g0 (by have := hM.1; omega) (by have := hM.1; omega)
  rw [hM.1] at m
  rw [m, show ss.length - 1 - (ss.length - 1 - p) = p by omega, show ss.length - 1 - (ss.length - 1 - q) = q by omega]
  exact And.comm
theorem stretches_mir {kd : Kd} {xs : List Int} {l : Nat} (hl : 0 < l) : Mir kd (stretchesZ xs l) (stretchesZ xs.reverse l) := by
  have n1 : (stretchesZ xs l).length = xs.length + 1 - l := stretches_len
  have n2 : (stretchesZ xs.reverse l).length = xs.length + 1 - l := by rw [stretches_len, List.length_reverse]
  refine ⟨by rw [n1, n2], fun p q hp hq => ?_⟩
  rw [n1] at hp hq ⊢
  unfold farAt
  rw [nth_rev hp hl, nth_rev hq hl, far_rev]
  rw [nth_stretch (by omega), nth_stretch (by omega), cutZ_len (by omega), cutZ_len (by omega)]
theorem next_more {kd : Kd} {ss ss' : List (List Int)} {gap p : Nat} (hs : ∀ s ∈ ss', 0 < s.length) (hn : ss'.length = ss.length + 1) (he : ∀ q, q < ss.length → nthZ ss' q = nthZ ss q) (hp : p < ss.length) (g0 : 1 ≤ gap) : (nextZ kd ss' gap p).2 = (nextZ kd ss gap p).2 ∧ ((nextZ kd ss' gap p).1 = (nextZ kd ss gap p).1 ∨ (nextZ kd ss' gap p).1 = some ss.length) := by
  have f1 : ((List.range ss'.length).filter fun q => decide (q < p + 1 - gap)) = (List.range ss.length).filter fun q => decide (q < p + 1 - gap) := by
    rw [hn, List.range_succ, List.filter_append]
    have : ¬ ss.length < p + 1 - gap := by omega
    simp [this]
  have fm : ∀ fr : List Nat, (∀ q ∈ fr, q < ss.length) → (fr.map fun q => (farZ kd (nthZ ss' p) (nthZ ss' q), q)) = fr.map fun q => (farZ kd (nthZ ss p) (nthZ ss q), q) := by
    intro fr hf
    refine List.map_congr_left fun q hq => ?_
    rw [he p hp, he q (hf q hq)]
  have mr : ∀ q ∈ (List.range ss.length).filter (fun q => decide (q < p + 1 - gap)), q < ss.length := fun q hq => List.mem_range.mp (List.mem_filter.mp hq).1
  constructor
  · unfold nextZ placeZ minBy
    simp only
    rw [f1, fm _ mr]
  · unfold nextZ placeZ minBy
    simp only
    have mr2 : ∀ q ∈ (List.range ss.length).filter (fun q => decide (p + gap ≤ q)), q < ss.length := fun q hq => List.mem_range.mp (List.mem_filter.mp hq).1
    by_cases hg : p + gap ≤ ss.length
    · have f2 : ((List.range ss'.length).filter fun q => decide (p + gap ≤ q)) = ((List.range ss.length).filter fun q => decide (p + gap ≤ q)) ++ [ss.length] := by
        rw [hn, List.range_succ, List.filter_append]
        simp [hg]
      rw [f2, List.map_append, fm _ mr2]
      have pos : 0 < (nthZ ss' p).length := hs _ (getD_mem (by omega))
      have x1 := minOf_append (A := ((List.range ss.length).filter fun q => decide (p + gap ≤ q)).map fun q => (farZ kd (nthZ ss p) (nthZ ss q), q)) (B := [ss.length].map fun q => (farZ kd (nthZ ss' p) (nthZ ss' q), q)) (by
        intro y hy
        obtain ⟨r, hr, rfl⟩ := List.mem_map.mp hy
        rw [← he p hp]
        exact farZ_pos kd pos) (by
        intro y hy
        obtain ⟨r, hr, rfl⟩ := List.mem_map.mp hy
        exact farZ_pos kd pos)
      rw [x1]
      generalize minOf (((List.range ss.length).filter fun q => decide (p + gap ≤ q)).map fun q => (farZ kd (nthZ ss p) (nthZ ss q), q)) = A
      have b1 : minOf ([ss.length].map fun q => (farZ kd (nthZ ss' p) (nthZ ss' q), q)) = some (farZ kd (nthZ ss' p) (nthZ ss' ss.length), ss.length) := rfl
      rw [b1]
      cases A with
      | none => exact .inr rfl
      | some a =>
        unfold joinB minStep
        simp only
        split
        · exact .inr rfl
        · exact .inl rfl
    · left
      have f2 : ((List.range ss'.length).filter fun q => decide (p + gap ≤ q)) = ((List.range ss.length).filter fun q => decide (p + gap ≤ q)) := by
        rw [hn, List.range_succ, List.filter_append]
        simp [hg]
      rw [f2, fm _ mr2]
theorem next_gt1 {kd : Kd} {ss : List (List Int)} {gap p q : Nat} (hs : ∀ s ∈ ss, 0 < s.length) (hp : p < ss.length) (h : (nextZ kd ss gap p).1 = some q) : p + gap ≤ q ∧ q < ss.length := by
  have := List.mem_filter.mp (place_mem (hs _ (getD_mem hp)) h)
  exact ⟨by simpa using this.2, List.mem_range.mp this.1⟩
theorem lead_rise {kd : Kd} {ss : List (List Int)} {gap : Nat} (hs : ∀ s ∈ ss, 0 < s.length) (g0 : 1 ≤ gap) : Rise (leadZ (nextZ kd ss gap)) ss.length := by
  intro p q hp h
  have := next_gt1 hs hp (lead_iff.mp h).1
  omega
theorem lead_inj {f : Nat → Option Nat × Option Nat} {n : Nat} : Inj (leadZ f) n := by
  intro a b c _ _ h1 h2
  have e1 := (lead_iff.mp h1).2
  have e2 := (lead_iff.mp h2).2
  rw [e1] at e2
  exact Option.some.inj e2
theorem in_leads {L : Nat → Option Nat} {n p : Nat} {M : DSt} : oIn true (.d (.int p)) (.d (.lst ((List.range n).map fun q => plD (L q)))) M = some (.d (.bl ((List.range n).all fun q => decide (L q ≠ some p))), M) := by
  have hf : ((List.range n).map fun q => plD (L q)).all D.flat = true := by
    rw [List.all_map, List.all_eq_true]
    intro q _
    simp only [Function.comp_apply]
    cases L q <;> rfl
  have ha : (((List.range n).map fun q => plD (L q)).any fun b => D.eqv b (.int p)) = !((List.range n).all fun q => decide (L q ≠ some p)) := by
    rw [List.any_map]
    generalize List.range n = l
    induction l with
    | nil => rfl
    | cons a l ih =>
      rw [List.any_cons, List.all_cons, ih]
      simp only [Function.comp_apply, pl_eq]
      by_cases h : L a = some p <;> simp [h]
  simp only [oIn, sv, lv]
  rw [grd_ok ⟨rfl, hf⟩, ha]
  simp
def cD (c : List Nat) : D := .lst (natsD c)
def ChK (L : Nat → Option Nat) (n : Nat) (M : DSt) (env : DEnv) (i : Nat) (ρ : DEnv) (M1 : DSt) : Prop := Top M.length M M.length ((((List.range i).filter (stB L n)).map (chN L n)).map cD) M1 ∧ ρ = env
def ChV (L : Nat → Option Nat) (n i : Nat) (M1 : DSt) (env : DEnv) (m : Nat) (ρ : DEnv) (M2 : DSt) : Prop := ∃ (e : Nat) (cs : List Nat), e < n ∧ m + e = n ∧ cs.length ≤ e ∧ M2 = M1 ++ [some (natsD (cs ++ [e]))] ∧ cs ++ chN L n e = chN L n i ∧ ρ = env
theorem natsD_len {a : List Nat} : (natsD a).length = a.length := by unfold natsD; rw [List.length_map]
theorem natsD_app {a b : List Nat} : natsD (a ++ b) = natsD a ++ natsD b := by simp [natsD]
theorem chainsF_ok {M : DSt} {l : Nat} {xs : List Int} {gap : Nat} (kd : Kd) (hx : Row 9 xs) (l0 : 1 ≤ l) (l1 : l ≤ 40) (g0 : 1 ≤ gap) (g1 : gap ≤ 200) :
    f_chains [.d (rowD xs), .d kd.s, .d (.int gap), .d (.int l)] M = some (.c M.length, M ++ [some ((chainsZ (leadZ (nextZ kd (stretchesZ xs l) gap)) (stretchesZ xs l).length).map cD)]) := by
  apply ok_eq
  unfold f_chains
  rw [ok_fn]
  have hs : ∀ s ∈ stretchesZ xs l, 0 < s.length := by
    intro s hs
    obtain ⟨p, hp, rfl⟩ := List.mem_map.mp hs
    have := List.mem_range.mp hp
    rw [cutZ_len (by omega)]
    omega
  have e1 := nexts_ok (M := M) kd hx l0 l1 g0 g1 (by decide)
  have hn := (stretches_fine hx (show 0 < l by omega)).2
  have e2 := leads_ok (M := M) (n := (stretchesZ xs l).length) (f := nextZ kd (stretchesZ xs l) gap) (by omega) (fun p q hp h => next_lt hs hp h)
  have up := lead_rise (kd := kd) (ss := stretchesZ xs l) hs g0
  generalize stretchesZ xs l = ss at *
  generalize leadZ (nextZ kd ss gap) = g at *
  simp [b_chains, startD, -seqP_nx, ↓okE e1, ↓ok_frz rfl, ↓okE e2]
  refine seqP_nx.mpr ?_
  simp [-seqP_nx]
  refine seqP_nx.mpr ?_
  simp
  have ea : ∀ p, p < ss.length → ((List.range ss.length).map fun p => plD (g p))[p]? = some (plD (g p)) := by
    intro p hp
    simp [hp]
  have en : enumD 0 ((List.range ss.length).map fun p => plD (g p)) = (List.range ss.length).map fun q => .tup [.int (q : Nat), plD (g q)] := by
    have := enumD_range (xs := (List.range ss.length).map fun p => plD (g p)) (g := fun q => plD (g q)) fun i hi => ea i (by simpa using hi)
    rw [this]
    simp
  have il := fun M p => in_leads (L := g) (n := ss.length) (p := p) (M := M)
  rw [en]
  generalize hR : (List.range ss.length).map (fun p => plD (g p)) = R at *
  let env : DEnv := [some (.d (rowD xs)), some (.d kd.s), some (.d (.int gap)), some (.d (.int l)), some (.d (.lst R)), some (.c M.length), none, none, none]
  refine forL_by _ (ChK g ss.length M env) ⟨⟨by simp, by simp, by omega, by simp⟩, rfl⟩ ?_ ?_
  · rintro i x ρ M1 hx' ⟨tp, rfl⟩
    refine ⟨by simp [stand], ?_⟩
    rw [List.getElem?_map] at hx'
    have hi : i < ss.length := by
      by_cases h : i < ss.length
      · exact h
      · simp [h] at hx'
    simp [hi] at hx'
    subst hx'
    have cs : (List.range (i + 1)).filter (stB g ss.length) = (List.range i).filter (stB g ss.length) ++ if stB g ss.length i = true then [i] else [] := by
      rw [List.range_succ, List.filter_append]
      congr 1
      by_cases h : stB g ss.length i = true <;> simp [h]
    unfold ChK
    cases hg : g i with
    | none =>
      have e : stB g ss.length i = false := by simp [stB, hg]
      rw [cs, e]
      simp [-List.map_map, env, plD, oNotN, isNon]
      exact tp
    | some q =>
      have eB : stB g ss.length i = (List.range ss.length).all fun q => decide (g q ≠ some i) := by simp [stB, hg]
      have hin := il M1 i
      rw [← eB] at hin
      have nn : isNon (.d (.int (q : Int))) = false := rfl
      cases hB : stB g ss.length i with
      | false =>
        rw [hB] at hin
        rw [cs, hB]
        simp [-List.map_map, env, plD, oNotN, isNon, ↓okE hin]
        exact tp
      | true =>
        rw [hB] at hin
        simp [env, plD, oNotN, nn, ↓okE hin, -seqP_nx, -ok_seq]
        rw [ok_seq]
        simp [-seqP_nx, -ok_seq]
        refine seqP_nx.mpr ?_
        rw [ok_seq]
        refine while_by (ChV g ss.length i M1 [some (.d (rowD xs)), some (.d kd.s), some (.d (.int gap)), some (.d (.int l)), some (.d (.lst R)), some (.c M.length), some (.d (.int i)), some (.d (.int q)), some (.c M1.length)]) (ss.length - i) ⟨i, [], hi, by omega, by simp, by simp [natsD], by simp, rfl⟩ ?_
        rintro m ρ M2 ⟨e, cs', he, hm, hcl, rfl, hch, rfl⟩
        have hc : (M1 ++ [some (natsD (cs' ++ [e]))])[M1.length]? = some (some (natsD (cs' ++ [e]))) := by simp
        have ea1 := ea e he
        have al : atD (natsD (cs' ++ [e])) (-1) = some (.int e) := by rw [natsD_app]; exact at_last
        have nl : (natsD (cs' ++ [e])).length < 1000000 := by simp [natsD]; omega
        simp [celOk hc, ↓okE al, ok_atN ea1]
        cases hge : g e with
        | none =>
          rw [if_pos (show isNon (.d (plD none)) = true from rfl)]
          have hlt := tp.2.2.2
          have c2 : (M1 ++ [none])[M.length]? = some (some ((((List.range i).filter (stB g ss.length)).map (chN g ss.length)).map cD)) := by
            rw [List.getElem?_append_left hlt]
            exact tp.1
          have fl : (((List.range i).filter (stB g ss.length)).map (chN g ss.length)).length ≤ i := by
            have := List.length_filter_le (stB g ss.length) (List.range i)
            simpa using this
          rw [celOk c2]
          rw [ch_none he hge] at hch
          refine ⟨by rw [List.length_map]; omega, ?_, ?_, Nat.le_refl _, by simp; omega⟩
          · rw [List.getElem?_set_self (by simp; omega), cs, if_pos hB, hch]
            simp [cD]
          · rw [List.take_set_of_le (Nat.le_refl _), List.take_append_of_le_length (by omega)]
            exact tp.2.1
        | some r =>
          have hr := up e r he hge
          rw [if_neg (by simp [plD, isNon])]
          refine ⟨nl, ss.length - r, by omega, r, cs' ++ [e], hr.2, by omega, by simp; omega, by simp [plD, natsD], ?_, rfl⟩
          rw [← hch, ch_some up he hge]
          simp
  · rintro ρ M1 ⟨⟨t1, t2, t3, t4⟩, rfl⟩
    refine ⟨by simp [stand], ?_⟩
    simp only [List.length_map, List.length_range] at t1
    simp [env]
    refine (ok_finC (Nat.le_refl _) t1).mpr ?_
    rw [t2]
    rfl
theorem le_nodupN {l : List Nat} : ∀ {l2 : List Nat}, l.Nodup → (∀ x ∈ l, x ∈ l2) → l.length ≤ l2.length := by
  induction l with
  | nil => intro l2 _ _; simp
  | cons a l ih =>
    intro l2 hn hs
    have ha := hs a (by simp)
    have hn' := List.nodup_cons.mp hn
    have := ih (l2 := l2.erase a) hn'.2 (by
      intro x hx
      have hne : x ≠ a := by
        intro e
        subst e
        exact hn'.1 hx
      exact (List.mem_erase_of_ne hne).mpr (hs x (by simp [hx])))
    rw [List.length_erase_of_mem ha] at this
    have h0 : 0 < l2.length := List.length_pos_of_mem ha
    simp
    omega
def pD (x : Nat × Nat) : D := .tup [.int x.1, .int x.2]
theorem zip_nb {c : List Nat} : zipD (natsD c) (cutD (natsD c) (some 1) none) = (nb c).map pD := by
  have e : cutD (natsD c) (some 1) none = natsD c.tail := by
    rw [show (1 : Int) = ((1 : Nat) : Int) from rfl, cut_drop 1]
    simp [natsD]
  rw [e]
  unfold nb
  have : ∀ a b : List Nat, zipD (natsD a) (natsD b) = (a.zip b).map pD := by
    intro a
    induction a with
    | nil => intro b; simp [natsD, zipD]
    | cons x a ih =>
      intro b
      cases b with
      | nil => simp [natsD, zipD]
      | cons y b =>
        have := ih b
        simp [natsD, zipD] at this ⊢
        exact ⟨rfl, this⟩
  exact this _ _
def dupAt {α : Type} [DecidableEq α] (l : List α) (i : Nat) : Bool := match l[i]? with
  | some x => decide (x ∈ l.take i)
  | none => false
theorem dup_no {α : Type} [DecidableEq α] {l : List α} (h : l.Nodup) : ∀ i, dupAt l i = false := by
  intro j
  unfold dupAt
  cases hj : l[j]? with
  | none => rfl
  | some x =>
    simp only [decide_eq_false_iff_not]
    intro hm
    rw [List.mem_take_iff_getElem] at hm
    obtain ⟨i, hi, e⟩ := hm
    obtain ⟨hl, hj⟩ := List.getElem?_eq_some_iff.mp hj
    rw [List.nodup_iff_pairwise_ne, List.pairwise_iff_getElem] at h
    exact h i j (by omega) hl (by omega) (by rw [e, hj])
theorem any_natN {q : Nat} {l : List Nat} : ((natsD l).any fun b => D.eqv b (.int q)) = decide (q ∈ l) := by
  unfold natsD
  rw [List.any_map]
  induction l with
  | nil => simp
  | cons a l ih =>
    rw [List.any_cons, ih]
    by_cases h : a = q
    · subst h; simp [D.eqv]
    · have h' : ¬ q = a := fun e => h e.symm
      have h2 : ¬ (a : Int) = (q : Int) := by omega
      simp [D.eqv, h', h2]
theorem rowsT_p {L : List (Nat × Nat)} : rowsT true (L.map pD) = some (L.map fun x => [(x.1 : Int), (x.2 : Int)]) := by
  induction L with
  | nil => rfl
  | cons a l ih =>
    rw [List.map_cons, rowsT, ih]
    rfl
theorem sort_links {L : Nat → Option Nat} {n : Nat} {M : DSt} {c : Nat} (hR : Rise L n) (hI : Inj L n) (hn : n ≤ 100) (h : M[c]? = some (some ((linksZ L n).map pD))) : oSortT true false [.c c] M = some (.d (.lst ((dueZ L n).map pD)), M) := by
  have hv : lv M (.c c) = some ((linksZ L n).map pD) := by simp [lv, h]
  simp only [oSortT, hv, rowsT_p]
  have hl : (linksZ L n).length ≤ 100 := by
    rw [(links_perm hR hI).length_eq]
    unfold dueZ
    refine Nat.le_trans (List.length_filterMap_le ..) ?_
    simpa using hn
  rw [grd_ok ⟨by simp; omega, by intro _ ns hns; obtain ⟨x, _, rfl⟩ := List.mem_map.mp hns; simp⟩]
  rw [sort_lex (ms := (dueZ L n).map fun x => [(x.1 : Int), (x.2 : Int)]) ((links_perm hR hI).symm.map _) (by
    rw [List.pairwise_map]
    exact due_up.imp fun h => lex_head (by omega))]
  simp only [mkL_f, List.map_map]
  rfl
def LkI (L : Nat → Option Nat) (n : Nat) (M : DSt) (env : D → DEnv) (i : Nat) (ρ : DEnv) (M1 : DSt) : Prop := M1 = M ++ [some ((((chainsZ L n).take i).flatMap nb).map pD)] ∧ ρ = env (cD ((chainsZ L n).take i).flatten)
def TiR (kd : Kd) (ss : List (List Int)) (M : DSt) (p : Dv × DSt) : Prop := ∃ b : Bool, p = (.d (.bl b), M) ∧ (b = true → NoTie kd ss)
def Kept (M M1 : DSt) : Prop := M1.take M.length = M ∧ M.length ≤ M1.length
theorem any_fr {f : Int × Int} {L : List (Int × Int)} : ((L.map frD).any fun b => D.eqv b (frD f)) = decide (f ∈ L) := by
  rw [List.any_map]
  induction L with
  | nil => rfl
  | cons a l ih =>
    rw [List.any_cons, ih]
    simp only [Function.comp_apply, eqv_fr, List.mem_cons]
    by_cases h : f = a
    · simp [h]
    · have h' : ¬ a = f := fun e => h e.symm
      simp [h, h']
theorem frs_shp {L : List (Int × Int)} : (D.lst (L.map frD)).shp 9 = true := by
  simp only [D.shp, List.all_map, List.all_eq_true]
  intro x _
  exact frD_shp
theorem in_frs {f : Int × Int} {L : List (Int × Int)} {M : DSt} {c : Nat} (h : M[c]? = some (some (L.map frD))) : oInD false (.d (frD f)) (.c c) M = some (.d (.bl (decide (f ∈ L))), M) := by
  have hv : dv M (.c c) = some (.lst (L.map frD)) := by simp [dv, h]
  simp only [oInD, hv]
  have h0 : dv M (.d (frD f)) = some (frD f) := rfl
  simp only [h0]
  rw [grd_ok ⟨frD_shp, frs_shp⟩, any_fr]
  simp
theorem sorted_one_k67 {ns ms : List Int} (h1 : ms.Perm ns) (h2 : ms.Pairwise (· ≤ ·)) : ns.mergeSort (fun a b => decide (a ≤ b)) = ms := by
  refine List.Perm.eq_of_pairwise (le := fun a b : Int => a ≤ b) (fun a b _ _ x y => by omega) ?_ h2 ((List.mergeSort_perm _ _).trans h1.symm)
  have := List.pairwise_mergeSort (le := fun a b : Int => decide (a ≤ b)) (fun a b c h1 h2 => by simp at *; omega) (fun a b => by simp; omega) ns
  exact this.imp fun h => by simpa using h
theorem sort_starts {L : Nat → Option Nat} {n : Nat} {M : DSt} : oSorted false [.d (.lst (natsD (starts L n)))] M = some (.d (.lst (natsD (starts L n))), M) := by
  have e : natsD (starts L n) = ((starts L n).map fun p : Nat => (p : Int)).map D.int := by simp [natsD]
  rw [e]
  simp only [oSorted, lv, intsD_map, mkL]
  rw [sorted_one_k67 (List.Perm.refl _) (by
    rw [List.pairwise_map]
    exact st_up.imp fun h => by omega)]
def intL (c : List Nat) : List Int := c.map fun p : Nat => (p : Int)
theorem rowsT_c {C : List (List Nat)} : rowsT false (C.map cD) = some (C.map intL) := by
  induction C with
  | nil => rfl
  | cons a l ih =>
    have : rowT false (cD a) = some (intL a) := by
      unfold cD rowT
      simp only [Bool.false_eq_true, if_false]
      have e : natsD a = (intL a).map D.int := by simp [natsD, intL]
      rw [e, intsD_map]
    rw [List.map_cons, rowsT, this, ih]
    rfl
theorem sort_mir {L L' : Nat → Option Nat} {n : Nat} {M : DSt} (hR : Rise L n) (hR' : Rise L' n) (hT : Turned L L' n) (hn : n ≤ 100) : oSortT false false [.d (.lst (((chainsZ L n).map (mir n)).map cD))] M = some (.d (.lst ((chainsZ L' n).map cD)), M) := by
  simp only [oSortT, lv, rowsT_c]
  have hl : (chainsZ L n).length ≤ 100 := by
    unfold chainsZ starts
    rw [List.length_map]
    refine Nat.le_trans (List.length_filter_le ..) ?_
    simpa using hn
  rw [grd_ok ⟨by simp; omega, by intro h; cases h⟩]
  rw [sort_lex (ms := (chainsZ L' n).map intL) ((turned_perm hR hR' hT).map intL) (by
    unfold chainsZ
    rw [List.map_map, List.pairwise_map]
    refine List.Pairwise.imp_of_mem (R := fun a b => a < b) ?_ st_up
    intro a b ha hb hab
    obtain ⟨r, hr⟩ := ch_head hR' a (st_mem.mp ha).1
    obtain ⟨s, hs⟩ := ch_head hR' b (st_mem.mp hb).1
    simp only [Function.comp_apply, hr, hs, intL, List.map_cons]
    exact lex_head (by omega))]
  simp only [mkL_f, List.map_map]
  have e : bkD false ∘ intL = cD := by
    funext c
    simp [bkD, intL, cD, natsD]
  rw [e]
theorem chs_shp {C : List (List Nat)} : (D.lst (C.map cD)).shp 9 = true := by
  simp only [D.shp, List.all_map, List.all_eq_true]
  intro c _
  simp [cD, D.shp, natsD]
def EvO (env : DEnv) (o : Out) : Prop := ∃ (v : Option Dv) (M5 : DSt), o = .nx (env ++ [v, none, none, none, none, none, none]) M5
section
variable {kd : Kd} {g l : Nat} {nb nr : D} {b a : Nat} {M : DSt}
theorem stretch_eqV {xs : List Int} {v : Dv} {p : Nat} (hv : lv M v = some (xs.map D.int)) (hp : p + l ≤ xs.length) (hx : xs.length ≤ 1000) : f_stretch [v, .d (.int l), .d (.int p)] M = some (.d (rowD (cutZ xs l p)), M) := by
  apply ok_eq
  unfold f_stretch
  rw [ok_fn]
  simp [b_stretch, startD, ok_slV hv, cutD_map hp, rowD]
  try omega
end
end Lk70
end PUk70
section PRwSim
set_option Elab.async false
set_option linter.all false
set_option maxRecDepth 100000
set_option maxHeartbeats 2000000
/-! RwSim: the pure reading is kept by the layer's readings. -/
namespace Rw
open PySem L2
open Evl (Ex)

/-! ### values and data -/
/-- the class of this name -/
def ClsK (K : PySem.W.Frag) (c : String) (cls : Value) : Prop := PySem.W.nsIn K mainGlobals (Str.ofString c) = some (some cls)
/-- a caught exception of the class cls, at a -/
def ExK (cls : Value) (a : Addr) : HO := .ext fun g => ∃ (ob : Obj) (fl : Array Value), g.get? a = some ob ∧ Zc cls none ob ∧ ob.data = .fields fl
def tyNs : List String := ["bool", "int", "str", "list", "tuple"]
mutual
inductive Rv (K : PySem.W.Frag) (G : Hp) : V → D → Prop
  | non : Rv K G .non .non
  | bl (b : Bool) : Rv K G (.bl b) (.bl b)
  | int (i : Int) : Rv K G (.int i) (.int i)
  | str (x : Str) : Rv K G (.str x) (.str x)
  | ty (n : String) (h : n ∈ tyNs) : Rv K G (.ty n) (.ty n)
  | exc {a : Addr} {C : Value} {n : String} : G a = some (ExK C a) → ClsK K n C → n ∉ tyNs → Rv K G (.ref a) (.ty n)
  | lst {a : Addr} {xs : List V} {ds : List D} : G a = some (.lst xs) → Rvs K G xs ds → Rv K G (.ref a) (.lst ds)
  | tup {a : Addr} {xs : List V} {ds : List D} : SqT K G a xs → Rvs K G xs ds → Rv K G (.ref a) (.tup ds)
inductive Rvs (K : PySem.W.Frag) (G : Hp) : List V → List D → Prop
  | nil : Rvs K G [] []
  | cons {v : V} {vs : List V} {d : D} {ds : List D} : Rv K G v d → Rvs K G vs ds → Rvs K G (v :: vs) (d :: ds)
end
section
variable {K : PySem.W.Frag} {G G' : Hp}
theorem Rv.mono (e : Ex G G') {v : V} {d : D} (h : Rv K G v d) : Rv K G' v d :=
  Rv.rec (motive_1 := fun v d _ => Rv K G' v d) (motive_2 := fun vs ds _ => Rvs K G' vs ds) .non .bl .int .str .ty (fun h c o => .exc (e _ _ h) c o) (fun h _ ih => .lst (e _ _ h) ih) (fun h _ ih => .tup (Evl.ex_t e h) ih) .nil (fun _ _ a b => .cons a b) h
theorem Rvs.mono (e : Ex G G') : ∀ {vs : List V} {ds : List D}, Rvs K G vs ds → Rvs K G' vs ds
  | _, _, .nil => .nil
  | _, _, .cons h r => .cons (h.mono e) (r.mono e)
theorem Rvs.length : ∀ {vs : List V} {ds : List D}, Rvs K G vs ds → vs.length = ds.length
  | _, _, .nil => rfl
  | _, _, .cons _ r => by simp [r.length]
theorem Rvs.get : ∀ {vs : List V} {ds : List D} {i : Nat} {d : D}, Rvs K G vs ds → ds[i]? = some d → ∃ v, vs[i]? = some v ∧ Rv K G v d
  | _, _, _, _, .nil, e => by simp at e
  | _, _, 0, _, .cons h _, e => by simp at e; subst e; exact ⟨_, rfl, h⟩
  | _, _, i + 1, d, .cons _ r, e => by
    obtain ⟨u, h1, h2⟩ := Rvs.get (i := i) (d := d) r (by simpa using e)
    exact ⟨u, by simpa using h1, h2⟩
theorem Rvs.get' : ∀ {vs : List V} {ds : List D} {i : Nat} {v : V}, Rvs K G vs ds → vs[i]? = some v → ∃ d, ds[i]? = some d ∧ Rv K G v d
  | _, _, _, _, .nil, e => by simp at e
  | _, _, 0, _, .cons h _, e => by simp at e; subst e; exact ⟨_, rfl, h⟩
  | _, _, i + 1, v, .cons _ r, e => by
    obtain ⟨u, h1, h2⟩ := Rvs.get' (i := i) (v := v) r (by simpa using e)
    exact ⟨u, by simpa using h1, h2⟩
theorem Rvs.append : ∀ {xs ys : List V} {ds es : List D}, Rvs K G xs ds → Rvs K G ys es → Rvs K G (xs ++ ys) (ds ++ es)
  | _, _, _, _, .nil, s => s
  | _, _, _, _, .cons h r, s => .cons h (r.append s)
theorem Rvs.take : ∀ {xs : List V} {ds : List D} (n : Nat), Rvs K G xs ds → Rvs K G (xs.take n) (ds.take n)
  | _, _, 0, _ => .nil
  | _, _, _ + 1, .nil => .nil
  | _, _, n + 1, .cons h r => .cons h (r.take n)
theorem Rvs.drop : ∀ {xs : List V} {ds : List D} (n : Nat), Rvs K G xs ds → Rvs K G (xs.drop n) (ds.drop n)
  | _, _, 0, r => r
  | _, _, _ + 1, .nil => .nil
  | _, _, n + 1, .cons _ r => r.drop n
theorem Rvs.set {v : V} {d : D} (h : Rv K G v d) : ∀ {xs : List V} {ds : List D} (i : Nat), Rvs K G xs ds → Rvs K G (xs.set i v) (ds.set i d)
  | _, _, _, .nil => .nil
  | _, _, 0, .cons _ r => .cons h r
  | _, _, i + 1, .cons q r => .cons q (Rvs.set h i r)
theorem Rvs.eraseIdx : ∀ {xs : List V} {ds : List D} (i : Nat), Rvs K G xs ds → Rvs K G (xs.eraseIdx i) (ds.eraseIdx i)
  | _, _, _, .nil => .nil
  | _, _, 0, .cons _ r => r
  | _, _, i + 1, .cons q r => .cons q (Rvs.eraseIdx i r)
theorem Rvs.dropLast {xs : List V} {ds : List D} (h : Rvs K G xs ds) : Rvs K G xs.dropLast ds.dropLast := by
  rw [List.dropLast_eq_take, List.dropLast_eq_take, h.length]
  exact h.take _
theorem Rvs.rep {xs : List V} {ds : List D} (h : Rvs K G xs ds) : ∀ k : Nat, Rvs K G (List.replicate k xs).flatten (List.replicate k ds).flatten
  | 0 => .nil
  | k + 1 => by
    rw [List.replicate_succ, List.replicate_succ, List.flatten_cons, List.flatten_cons]
    exact h.append (h.rep k)
theorem Rvs.ints_of : ∀ {xs : List V} {ds : List D} {ns : List Int}, Rvs K G xs ds → intsD ds = some ns → xs = ns.map V.int
  | _, _, _, .nil, e => by simp [intsD] at e; subst e; rfl
  | _, _, ns, .cons h r, e => by
    rename_i v vs d ds
    cases d <;> simp only [intsD] at e <;> try (cases e)
    rename_i i
    cases e2 : intsD ds with
    | none => rw [e2] at e; cases e
    | some ms =>
      rw [e2] at e
      cases e
      cases h
      rw [Rvs.ints_of r e2]
      rfl
theorem Rvs.bls_of : ∀ {xs : List V} {ds : List D} {ns : List Bool}, Rvs K G xs ds → blsD ds = some ns → xs = ns.map V.bl
  | _, _, _, .nil, e => by simp [blsD] at e; subst e; rfl
  | _, _, ns, .cons h r, e => by
    rename_i v vs d ds
    cases d <;> simp only [blsD] at e <;> try (cases e)
    rename_i i
    cases e2 : blsD ds with
    | none => rw [e2] at e; cases e
    | some ms =>
      rw [e2] at e
      cases e
      cases h
      rw [Rvs.bls_of r e2]
      rfl
theorem Rvs.of_ints : ∀ ns : List Int, Rvs K G (ns.map V.int) (ns.map D.int)
  | [] => .nil
  | n :: r => .cons (.int n) (Rvs.of_ints r)
end

/-! ### the state -/
/-- what is not this code's to change: f, apart from its cells; z, cells among them -/
structure Fz where
  f : Hp
  z : Hp
def Fz.up (F : Fz) (p : Addr) (o : HO) : Fz := ⟨upd F.f p o, F.z⟩
/-- κ: where the cells stand; G: what never changes any more; F: what is not this code's to change -/
structure Sm (K : PySem.W.Frag) (F : Fz) (κ : List Addr) (G : Hp) (M : DSt) (H : Hp) : Prop where
  ex : Ex G H
  fx : Ex F.f H
  zx : Ex F.z H
  dj : ∀ a o, F.f a = some o → G a = none
  zj : ∀ a o, F.z a = some o → G a = none
  fd : ∀ a o, F.f a = some o → F.z a = none
  fk : ∀ a ∈ κ, F.f a = none
  zk : ∀ (n : Nat) (a : Addr) (ds : List D), κ[n]? = some a → M[n]? = some (some ds) → F.z a = none
  len : κ.length = M.length
  nd : κ.Nodup
  th : ∀ a ∈ κ, ∃ xs, H a = some (.lst xs)
  cel : ∀ (n : Nat) (ds : List D), M[n]? = some (some ds) → ∃ a xs, κ[n]? = some a ∧ G a = none ∧ H a = some (.lst xs) ∧ Rvs K G xs ds
/-- an instance of the class of this name that never changes -/
def InsG (K : PySem.W.Frag) (G : Hp) (a : Addr) (c : String) (kvs : List (Str × V)) : Prop := ∃ C dx, G a = some (.ins C dx kvs) ∧ ClsK K c (.ref C)
def FvR (K : PySem.W.Frag) (κ : List Addr) (G : Hp) (u : V) : Fv → Prop
  | .d x => Rv K G u x
  | .c n => ∃ a, u = .ref a ∧ κ[n]? = some a
inductive FvsR (K : PySem.W.Frag) (κ : List Addr) (G : Hp) : List (Str × V) → List Str → List Fv → Prop
  | nil : FvsR K κ G [] [] []
  | cons {s : Str} {u : V} {g : Fv} {kvs : List (Str × V)} {ns : List Str} {gs : List Fv} : FvR K κ G u g → FvsR K κ G kvs ns gs → FvsR K κ G ((s, u) :: kvs) (s :: ns) (g :: gs)
def GvR (K : PySem.W.Frag) (κ : List Addr) (G : Hp) (u : V) : Gv → Prop
  | .f x => FvR K κ G u x
  | .k c ns fs => ∃ a kvs, u = .ref a ∧ InsG K G a c kvs ∧ FvsR K κ G kvs ns fs
inductive GvsR (K : PySem.W.Frag) (κ : List Addr) (G : Hp) : List (Str × V) → List Str → List Gv → Prop
  | nil : GvsR K κ G [] [] []
  | cons {s : Str} {u : V} {g : Gv} {kvs : List (Str × V)} {ns : List Str} {gs : List Gv} : GvR K κ G u g → GvsR K κ G kvs ns gs → GvsR K κ G ((s, u) :: kvs) (s :: ns) (g :: gs)
/-! ### tables -/
structure KeyF (κ : Type) where
  f : List Int → κ
  dom : List Int → Prop
  inj : ∀ a b, dom a → dom b → f a = f b → a = b
def kfT : KeyF (List L2.Key) := ⟨fun ks => ks.map Sum.inl, fun _ => True, fun a b _ _ h => (List.map_inj_right (fun _ _ e => Sum.inl.inj e)).mp h⟩
def kfI : KeyF L2.Key := ⟨fun ks => .inl (ks.headD 0), fun ks => ∃ i, ks = [i], fun a b ha hb h => by
  obtain ⟨i, rfl⟩ := ha
  obtain ⟨j, rfl⟩ := hb
  simp only [List.headD_cons] at h
  rw [Sum.inl.inj h]⟩
inductive Kv (K : PySem.W.Frag) {κ : Type} (f : KeyF κ) (G : Hp) : List (κ × V) → Tb → Prop
  | nil : Kv K f G [] []
  | cons {ks : List Int} {v : V} {d : D} {r : List (κ × V)} {s : Tb} : f.dom ks → Rv K G v d → Kv K f G r s → Kv K f G ((f.f ks, v) :: r) ((ks, d) :: s)
/-- the object, the table -/
def TabO (K : PySem.W.Frag) (b : Bool) (G : Hp) (o : HO) (T : Tb) : Prop := match b with
  | true => ∃ kvs, o = .dT kvs ∧ Kv K kfT G kvs T
  | false => ∃ kvs, o = .dK kvs ∧ Kv K kfI G kvs T
section
variable {K : PySem.W.Frag}
theorem Kv.mono {κ : Type} {f : KeyF κ} {G G' : Hp} (e : Ex G G') {r : List (κ × V)} {s : Tb} (h : Kv K f G r s) : Kv K f G' r s := by
  induction h with
  | nil => exact .nil
  | cons hd hv _ ih => exact .cons hd (hv.mono e) ih
theorem TabO.mono {b : Bool} {G G' : Hp} {o : HO} {T : Tb} (e : Ex G G') (h : TabO K b G o T) : TabO K b G' o T := by
  cases b with
  | true => obtain ⟨kvs, h1, h2⟩ := h; exact ⟨kvs, h1, h2.mono e⟩
  | false => obtain ⟨kvs, h1, h2⟩ := h; exact ⟨kvs, h1, h2.mono e⟩
end
def Rx (K : PySem.W.Frag) (κ : List Addr) (G : Hp) (u : V) : Dv → Prop
  | .d x => Rv K G u x
  | .c n => ∃ a, u = .ref a ∧ κ[n]? = some a
  | .r ds => ∃ a xs, u = .ref a ∧ SqL K G a xs ∧ Rvs K G xs ds
  | .o c ns gs => ∃ a kvs, u = .ref a ∧ InsG K G a c kvs ∧ GvsR K κ G kvs ns gs
  | .k b T => ∃ p od o, u = .ref p ∧ G p = some (.frz od o) ∧ TabO K b G o T
inductive Rxs (K : PySem.W.Frag) (κ : List Addr) (G : Hp) : List V → List Dv → Prop
  | nil : Rxs K κ G [] []
  | cons {v : V} {vs : List V} {d : Dv} {ds : List Dv} : Rx K κ G v d → Rxs K κ G vs ds → Rxs K κ G (v :: vs) (d :: ds)
structure Se (K : PySem.W.Frag) (κ : List Addr) (G : Hp) (σ : L2.St) (ρ : DEnv) : Prop where
  len : σ.length = ρ.length
  at_ : ∀ (i : Nat) (x : Dv), ρ[i]? = some (some x) → ∃ v, σ[i]? = some (some v) ∧ Rx K κ G v x
structure Le (κ : List Addr) (G : Hp) (κ' : List Addr) (G' : Hp) : Prop where
  pre : κ <+: κ'
  ex : Ex G G'
theorem Le.refl (κ : List Addr) (G : Hp) : Le κ G κ G := ⟨List.prefix_refl _, Ex.refl _⟩
theorem Le.trans {κ κ1 κ2 : List Addr} {G G1 G2 : Hp} (a : Le κ G κ1 G1) (b : Le κ1 G1 κ2 G2) : Le κ G κ2 G2 := ⟨a.pre.trans b.pre, a.ex.trans b.ex⟩
section
variable {K : PySem.W.Frag} {F : Fz} {κ κ' : List Addr} {G G' : Hp} {M M' : DSt} {H H' : Hp}
theorem Le.at_ {n : Nat} {a : Addr} (l : Le κ G κ' G') (h : κ[n]? = some a) : κ'[n]? = some a := by
  obtain ⟨t, rfl⟩ := l.pre
  have := (List.getElem?_eq_some_iff.mp h).1
  rw [List.getElem?_append_left this]
  exact h
theorem InsG.mono (e : Ex G G') {a : Addr} {c : String} {kvs : List (Str × V)} (h : InsG K G a c kvs) : InsG K G' a c kvs := let ⟨C, dx, h1, h2⟩ := h; ⟨C, dx, e _ _ h1, h2⟩
theorem FvR.mono (l : Le κ G κ' G') : ∀ {u : V} {x : Fv}, FvR K κ G u x → FvR K κ' G' u x
  | _, .d _, h => Rv.mono l.ex h
  | _, .c _, ⟨a, e, h⟩ => ⟨a, e, l.at_ h⟩
theorem FvsR.mono (l : Le κ G κ' G') {kvs : List (Str × V)} {ns : List Str} {fs : List Fv} (h : FvsR K κ G kvs ns fs) : FvsR K κ' G' kvs ns fs := by
  induction h with
  | nil => exact .nil
  | cons a _ ih => exact .cons (a.mono l) ih
theorem GvR.mono (l : Le κ G κ' G') : ∀ {u : V} {x : Gv}, GvR K κ G u x → GvR K κ' G' u x
  | _, .f _, h => FvR.mono l h
  | _, .k _ _ _, ⟨a, kvs, e, h, r⟩ => ⟨a, kvs, e, h.mono l.ex, r.mono l⟩
theorem GvsR.mono (l : Le κ G κ' G') {kvs : List (Str × V)} {ns : List Str} {fs : List Gv} (h : GvsR K κ G kvs ns fs) : GvsR K κ' G' kvs ns fs := by
  induction h with
  | nil => exact .nil
  | cons a _ ih => exact .cons (a.mono l) ih
theorem Rx.mono (l : Le κ G κ' G') : ∀ {u : V} {x : Dv}, Rx K κ G u x → Rx K κ' G' u x
  | _, .d _, h => Rv.mono l.ex h
  | _, .c _, ⟨a, e, h⟩ => ⟨a, e, l.at_ h⟩
  | _, .r _, ⟨a, xs, e, h, r⟩ => ⟨a, xs, e, Evl.ex_l l.ex h, r.mono l.ex⟩
  | _, .o _ _ _, ⟨a, kvs, e, h, r⟩ => ⟨a, kvs, e, h.mono l.ex, r.mono l⟩
  | _, .k _ _, ⟨p, od, o, e, h, r⟩ => ⟨p, od, o, e, l.ex _ _ h, r.mono l.ex⟩
section back
variable {G0 : Hp}
theorem pre_same {n : Nat} {a0 a : Addr} (hp : κ <+: κ') (h0 : κ[n]? = some a0) (h : κ'[n]? = some a) : κ[n]? = some a := by
  obtain ⟨t, rfl⟩ := hp
  have := (List.getElem?_eq_some_iff.mp h0).1
  rw [List.getElem?_append_left this] at h
  exact h
theorem FvR.back (hp : κ <+: κ') : ∀ {x : Fv} {u0 u : V}, FvR K κ G0 u0 x → FvR K κ' G u x → FvR K κ G u x
  | .d _, _, _, _, h => h
  | .c _, _, _, ⟨_, _, e0⟩, ⟨a, e, h⟩ => ⟨a, e, pre_same hp e0 h⟩
theorem FvsR.back (hp : κ <+: κ') : ∀ {kvs0 kvs : List (Str × V)} {ns : List Str} {fs : List Fv}, FvsR K κ G0 kvs0 ns fs → FvsR K κ' G kvs ns fs → FvsR K κ G kvs ns fs
  | _, _, _, _, .nil, .nil => .nil
  | _, _, _, _, .cons a0 r0, .cons a r => .cons (a0.back hp a) (FvsR.back hp r0 r)
theorem GvR.back (hp : κ <+: κ') : ∀ {x : Gv} {u0 u : V}, GvR K κ G0 u0 x → GvR K κ' G u x → GvR K κ G u x
  | .f _, _, _, h0, h => FvR.back hp h0 h
  | .k _ _ _, _, _, ⟨_, _, _, _, r0⟩, ⟨a, kvs, e, h, r⟩ => ⟨a, kvs, e, h, FvsR.back hp r0 r⟩
theorem GvsR.back (hp : κ <+: κ') : ∀ {kvs0 kvs : List (Str × V)} {ns : List Str} {fs : List Gv}, GvsR K κ G0 kvs0 ns fs → GvsR K κ' G kvs ns fs → GvsR K κ G kvs ns fs
  | _, _, _, _, .nil, .nil => .nil
  | _, _, _, _, .cons a0 r0, .cons a r => .cons (GvR.back hp a0 a) (GvsR.back hp r0 r)
end back
theorem Rxs.mono (l : Le κ G κ' G') : ∀ {us : List V} {xs : List Dv}, Rxs K κ G us xs → Rxs K κ' G' us xs
  | _, _, .nil => .nil
  | _, _, .cons h r => .cons (h.mono l) (r.mono l)
theorem Rxs.length : ∀ {us : List V} {xs : List Dv}, Rxs K κ G us xs → us.length = xs.length
  | _, _, .nil => rfl
  | _, _, .cons _ r => by simp [r.length]
theorem Se.mono {σ : L2.St} {ρ : DEnv} (l : Le κ G κ' G') (h : Se K κ G σ ρ) : Se K κ' G' σ ρ := ⟨h.len, fun i x e => let ⟨v, a, b⟩ := h.at_ i x e; ⟨v, a, b.mono l⟩⟩
theorem Se.set {σ : L2.St} {ρ : DEnv} {u : V} {x : Dv} (h : Se K κ G σ ρ) (r : Rx K κ G u x) (i : Nat) : Se K κ G (σ.set i (some u)) (ρ.set i (some x)) := by
  refine ⟨by simp [h.len], fun j y e => ?_⟩
  by_cases hj : i = j
  · subst hj
    by_cases hi : i < ρ.length
    · rw [List.getElem?_set_self hi] at e
      cases e
      exact ⟨u, List.getElem?_set_self (by rw [h.len]; exact hi), r⟩
    · rw [List.getElem?_eq_none (by simpa using hi)] at e
      cases e
  · rw [List.getElem?_set_ne hj] at e
    obtain ⟨v, a, b⟩ := h.at_ j y e
    exact ⟨v, by rw [List.getElem?_set_ne hj]; exact a, b⟩
theorem Se.unset {σ : L2.St} {ρ : DEnv} (h : Se K κ G σ ρ) (i : Nat) : Se K κ G σ (ρ.set i none) := by
  refine ⟨by simp [h.len], fun j y e => ?_⟩
  by_cases hj : i = j
  · subst hj
    by_cases hi : i < ρ.length
    · rw [List.getElem?_set_self hi] at e
      cases e
    · rw [List.getElem?_eq_none (by simpa using hi)] at e
      cases e
  · rw [List.getElem?_set_ne hj] at e
    exact h.at_ j y e
theorem Se.wipe {σ : L2.St} {ρ : DEnv} (h : Se K κ G σ ρ) : ∀ vs : List Nat, Se K κ G σ (wipeD ρ vs)
  | [] => h
  | v :: vs => (h.wipe vs).unset v
/-- both sides forgotten -/
theorem Se.wipe2 {σ : L2.St} {ρ : DEnv} (h : Se K κ G σ ρ) : ∀ vs : List Nat, Se K κ G (L2.wipe σ vs) (wipeD ρ vs)
  | [] => h
  | v :: vs => by
    have h1 := h.wipe2 vs
    refine ⟨by simp [L2.wipe, wipeD, h1.len], fun j y e => ?_⟩
    unfold wipeD at e
    by_cases hj : v = j
    · subst hj
      by_cases hi : v < (wipeD ρ vs).length
      · rw [List.getElem?_set_self hi] at e
        cases e
      · rw [List.getElem?_eq_none (by simpa using hi)] at e
        cases e
    · rw [List.getElem?_set_ne hj] at e
      obtain ⟨v', a, b⟩ := h1.at_ j y e
      exact ⟨v', by unfold L2.wipe; rw [List.getElem?_set_ne hj]; exact a, b⟩
/-- the list that a value is -/
theorem cell_at (S : Sm K F κ G M H) {n : Nat} {ds : List D} {a : Addr} (h : (M[n]?).join = some ds) (ha : κ[n]? = some a) : ∃ xs, G a = none ∧ F.f a = none ∧ H a = some (.lst xs) ∧ Rvs K G xs ds := by
  cases e : M[n]? with
  | none => rw [e] at h; cases h
  | some o =>
    rw [e] at h
    cases o with
    | none => cases h
    | some ds' =>
      cases h
      obtain ⟨a', xs, e1, e2, e4, e5⟩ := S.cel n _ e
      rw [ha] at e1
      cases e1
      exact ⟨xs, e2, S.fk a (List.mem_of_getElem? ha), e4, e5⟩
theorem lw_at (S : Sm K F κ G M H) {u : V} {x : Dv} {ds : List D} (r : Rx K κ G u x) (h : lw M x = some ds) : ∃ a xs, u = .ref a ∧ H a = some (.lst xs) ∧ Rvs K G xs ds := by
  cases x with
  | d y =>
    cases y <;> simp only [lw] at h <;> try (cases h)
    cases r with
    | lst e1 e2 => exact ⟨_, _, rfl, S.ex _ _ e1, e2⟩
  | c n =>
    obtain ⟨a, rfl, ha⟩ := r
    obtain ⟨xs, _, _, e3, e4⟩ := cell_at S h ha
    exact ⟨a, xs, rfl, e3, e4⟩
  | r ys => cases h
  | o c ns gs => cases h
  | k b T => cases h
theorem lv_at (S : Sm K F κ G M H) {u : V} {x : Dv} {ds : List D} (r : Rx K κ G u x) (h : lv M x = some ds) : ∃ a xs, u = .ref a ∧ SqL K H a xs ∧ Rvs K G xs ds := by
  cases x with
  | d y =>
    cases y <;> simp only [lv] at h <;> try (cases h)
    cases r with
    | lst e1 e2 => exact ⟨_, _, rfl, .of (S.ex _ _ e1), e2⟩
  | c n =>
    obtain ⟨a, rfl, ha⟩ := r
    obtain ⟨xs, _, _, e3, e4⟩ := cell_at S h ha
    exact ⟨a, xs, rfl, .of e3, e4⟩
  | r ys =>
    cases h
    obtain ⟨a, xs, e, q, p⟩ := r
    exact ⟨a, xs, e, Evl.ex_l S.ex q, p⟩
  | o c ns gs => cases h
  | k b T => cases h
theorem sv_at (S : Sm K F κ G M H) {u : V} {x : Dv} {ds : List D} (r : Rx K κ G u x) (h : sv M x = some ds) : ∃ a xs, u = .ref a ∧ (SqL K H a xs ∨ SqT K H a xs) ∧ Rvs K G xs ds := by
  have other : lv M x = some ds → ∃ a xs, u = .ref a ∧ (SqL K H a xs ∨ SqT K H a xs) ∧ Rvs K G xs ds := fun h => by
    obtain ⟨a, xs, e, q, p⟩ := lv_at S r h
    exact ⟨a, xs, e, .inl q, p⟩
  cases x with
  | d y =>
    cases y with
    | tup zs =>
      simp only [sv] at h
      cases h
      cases r with
      | tup e1 e2 => exact ⟨_, _, rfl, .inr (Evl.ex_t S.ex e1), e2⟩
    | _ => exact other h
  | c n => exact other h
  | r ys => exact other h
  | o c ns gs => exact other h
  | k b T => exact other h
/-! ### the store's steps -/
theorem Sm.zn (S : Sm K F κ G M H) {n : Nat} {ds : List D} {a : Addr} (h : (M[n]?).join = some ds) (ha : κ[n]? = some a) : F.z a = none := by
  cases e : M[n]? with
  | none => rw [e] at h; cases h
  | some o =>
    rw [e] at h
    cases o with
    | none => cases h
    | some ds' => exact S.zk n a ds' ha e
theorem Sm.fresh (S : Sm K F κ G M H) {p : Addr} (hp : H p = none) : G p = none ∧ F.f p = none ∧ p ∉ κ :=
  ⟨Evl.fresh_back S.ex hp, Evl.fresh_back S.fx hp, fun h => by obtain ⟨o, e⟩ := S.th p h; rw [hp] at e; cases e⟩
theorem Sm.freshZ (S : Sm K F κ G M H) {p : Addr} (hp : H p = none) : F.z p = none := Evl.fresh_back S.zx hp
theorem upd_some {H : Hp} {p : Addr} {o : HO} {a : Addr} {u : HO} (h : H p = none) (e : H a = some u) : upd H p o a = some u := by
  rw [upd_ne (ne_of_none e h)]
  exact e
theorem Sm.newG (S : Sm K F κ G M H) {p : Addr} (o : HO) (hp : H p = none) : Sm K F κ (upd G p o) M (upd H p o) := by
  obtain ⟨g, f, _⟩ := S.fresh hp
  have z := S.freshZ hp
  refine ⟨fun a u e => ?_, fun a u e => upd_some hp (S.fx a u e), fun a u e => upd_some hp (S.zx a u e), fun a u e => by rw [upd_ne (ne_of_none e f)]; exact S.dj a u e, fun a u e => by rw [upd_ne (ne_of_none e z)]; exact S.zj a u e, S.fd, S.fk, S.zk, S.len, S.nd, fun a h => let ⟨u, e⟩ := S.th a h; ⟨u, upd_some hp e⟩, fun n ds e => ?_⟩
  · by_cases ha : a = p
    · subst ha
      rw [upd_same] at e ⊢
      exact e
    · rw [upd_ne ha] at e ⊢
      exact S.ex a u e
  · obtain ⟨a, xs, e1, e2, e4, e5⟩ := S.cel n ds e
    refine ⟨a, xs, e1, ?_, upd_some hp e4, e5.mono (Ex.new g)⟩
    rw [upd_ne (ne_of_none e4 hp)]
    exact e2
theorem Le.newG {p : Addr} {o : HO} (h : G p = none) : Le κ G κ (upd G p o) := ⟨List.prefix_refl _, Ex.new h⟩
/-- the last cell of a longer list -/
theorem at_last {α : Type} {l : List α} {x y : α} {n m : Nat} (hl : l.length = m) (h : (l ++ [x])[n]? = some y) : (n < m ∧ l[n]? = some y) ∨ (n = m ∧ x = y) := by
  by_cases hn : n < l.length
  · rw [List.getElem?_append_left hn] at h
    exact .inl ⟨by omega, h⟩
  · rw [List.getElem?_append_right (by omega)] at h
    cases q : n - l.length with
    | zero => rw [q] at h; simp at h; exact .inr ⟨by omega, h⟩
    | succ k => rw [q] at h; simp at h
theorem last_at {α : Type} {l : List α} {x : α} {m : Nat} (hl : l.length = m) : (l ++ [x])[m]? = some x := by
  subst hl
  simp
/-- one cell more, at p: a list, or (none) dead -/
theorem Sm.cell (S : Sm K F κ G M H) {p : Addr} {o : Option (List D)} (nk : p ∉ κ) (g : G p = none) (f : F.f p = none) (z : F.z p = none) {xs : List V} (hp : H p = some (.lst xs)) (r : ∀ ds, o = some ds → Rvs K G xs ds) : Sm K F (κ ++ [p]) G (M ++ [o]) H := by
  refine ⟨S.ex, S.fx, S.zx, S.dj, S.zj, S.fd, fun a h => ?_, fun n a ds h1 h2 => ?_, by simp [S.len], ?_, fun a h => ?_, fun n es e => ?_⟩
  · rcases List.mem_append.mp h with h | h
    · exact S.fk a h
    · simp at h
      subst h
      exact f
  · rcases at_last S.len h1 with ⟨l1, h1⟩ | ⟨l1, h1⟩
    · rcases at_last rfl h2 with ⟨_, h2⟩ | ⟨l2, h2⟩
      · exact S.zk n a ds h1 h2
      · omega
    · subst h1
      exact z
  · rw [List.nodup_append]
    exact ⟨S.nd, by simp, fun a ha b hb e => by simp at hb; subst hb; subst e; exact nk ha⟩
  · rcases List.mem_append.mp h with h | h
    · exact S.th a h
    · simp at h
      subst h
      exact ⟨_, hp⟩
  · rcases at_last rfl e with ⟨l1, e⟩ | ⟨l1, e⟩
    · obtain ⟨a, ys, e1, e2⟩ := S.cel n es e
      exact ⟨a, ys, by rw [List.getElem?_append_left (by rw [S.len]; exact l1)]; exact e1, e2⟩
    · exact ⟨p, xs, by rw [l1]; exact last_at S.len, g, hp, r es e⟩
/-- a new object -/
theorem Sm.laid (S : Sm K F κ G M H) {p : Addr} (o : HO) (hp : H p = none) : Sm K F κ G M (upd H p o) := by
  refine ⟨fun a u e => upd_some hp (S.ex a u e), fun a u e => upd_some hp (S.fx a u e), fun a u e => upd_some hp (S.zx a u e), S.dj, S.zj, S.fd, S.fk, S.zk, S.len, S.nd, fun a h => let ⟨u, e⟩ := S.th a h; ⟨u, upd_some hp e⟩, fun n ds e => ?_⟩
  obtain ⟨a, xs, e1, e2, e4, e5⟩ := S.cel n ds e
  exact ⟨a, xs, e1, e2, upd_some hp e4, e5⟩
theorem Sm.newC (S : Sm K F κ G M H) {p : Addr} {xs : List V} {ds : List D} (hp : H p = none) (r : Rvs K G xs ds) : Sm K F (κ ++ [p]) G (M ++ [some ds]) (upd H p (.lst xs)) := by
  obtain ⟨g, f, nk⟩ := S.fresh hp
  exact (S.laid (.lst xs) hp).cell nk g f (S.freshZ hp) upd_same fun es e => by cases e; exact r
theorem Le.newC {p : Addr} : Le κ G (κ ++ [p]) G := ⟨List.prefix_append _ _, Ex.refl _⟩
/-- a new list, as data or as a cell -/
theorem Sm.new (S : Sm K F κ G M H) {c : Bool} {p : Addr} {xs : List V} {ds : List D} {z : Dv} (hp : H p = none) (r : Rvs K G xs ds) (h : mkL c ds M = some (z, M')) :
    ∃ κ' G', Le κ G κ' G' ∧ Sm K F κ' G' M' (upd H p (.lst xs)) ∧ Rx K κ' G' (.ref p) z := by
  obtain ⟨g, f, nk⟩ := S.fresh hp
  cases c with
  | true =>
    cases h
    refine ⟨κ ++ [p], G, Le.newC, S.newC hp r, p, rfl, ?_⟩
    rw [List.getElem?_append_right (by rw [S.len]; exact Nat.le_refl _), S.len, Nat.sub_self]
    rfl
  | false =>
    cases h
    exact ⟨κ, upd G p (.lst xs), Le.newG g, S.newG _ hp, .lst upd_same (r.mono (Ex.new g))⟩
theorem Sm.put (S : Sm K F κ G M H) {n : Nat} {a : Addr} {ys : List V} {ds es : List D} (h : (M[n]?).join = some ds) (ha : κ[n]? = some a) (r : Rvs K G ys es) : Sm K F κ G (setC M n es) (upd H a (.lst ys)) := by
  obtain ⟨xs, e1, e2, e3, e4⟩ := cell_at S h ha
  have ez := S.zn h ha
  have hn : n < M.length := by
    rw [← S.len]
    exact (List.getElem?_eq_some_iff.mp ha).1
  refine ⟨Ex.mut S.ex e1, Ex.mut S.fx e2, Ex.mut S.zx ez, S.dj, S.zj, S.fd, S.fk, fun m b fs h1 h2 => ?_, by simp [setC, S.len], S.nd, fun b hb => ?_, fun m fs e => ?_⟩
  · unfold setC at h2
    by_cases hm : n = m
    · subst hm
      rw [ha] at h1
      cases h1
      exact ez
    · rw [List.getElem?_set_ne hm] at h2
      exact S.zk m b fs h1 h2
  · by_cases z : b = a
    · subst z
      exact ⟨_, upd_same⟩
    · obtain ⟨q, hq⟩ := S.th b hb
      exact ⟨q, by rw [upd_ne z]; exact hq⟩
  · unfold setC at e
    by_cases hm : n = m
    · subst hm
      rw [List.getElem?_set_self hn] at e
      cases e
      exact ⟨a, ys, ha, e1, upd_same, r⟩
    · rw [List.getElem?_set_ne hm] at e
      obtain ⟨b, zs, q1, q2, q4, q5⟩ := S.cel m fs e
      have nb : b ≠ a := fun z => by
        subst z
        obtain ⟨l1, g1⟩ := List.getElem?_eq_some_iff.mp ha
        obtain ⟨l2, g2⟩ := List.getElem?_eq_some_iff.mp q1
        exact hm ((List.getElem_inj S.nd).mp (g1.trans g2.symm))
      exact ⟨b, zs, q1, q2, by rw [upd_ne nb]; exact q4, q5⟩
theorem take_at {α : Type} {l : List α} {b n : Nat} {x : α} (h : (l.take b)[n]? = some x) : n < b ∧ l[n]? = some x := by
  rw [List.getElem?_take] at h
  split at h
  · exact ⟨by assumption, h⟩
  · cases h
theorem Sm.take (S : Sm K F κ G M H) (b : Nat) : Sm K F (κ.take b) G (M.take b) H := by
  refine ⟨S.ex, S.fx, S.zx, S.dj, S.zj, S.fd, fun a h => S.fk a (List.mem_of_mem_take h), fun n a ds h1 h2 => S.zk n a ds (take_at h1).2 (take_at h2).2, by simp [S.len], S.nd.sublist (List.take_sublist _ _), fun a h => S.th a (List.mem_of_mem_take h), fun n ds e => ?_⟩
  obtain ⟨hn, e⟩ := take_at e
  obtain ⟨a, xs, e1, e2⟩ := S.cel n ds e
  exact ⟨a, xs, by rw [List.getElem?_take, if_pos hn]; exact e1, e2⟩
/-- a cell is data from now on -/
theorem Sm.freeze (S : Sm K F κ G M H) {n : Nat} {a : Addr} {ds : List D} (h : (M[n]?).join = some ds) (ha : κ[n]? = some a) :
    ∃ G', Ex G G' ∧ Sm K F κ G' (M.set n none) H ∧ Rv K G' (.ref a) (.lst ds) := by
  obtain ⟨xs, e1, e2, e3, e4⟩ := cell_at S h ha
  have ez := S.zn h ha
  have hn : n < M.length := by
    rw [← S.len]
    exact (List.getElem?_eq_some_iff.mp ha).1
  refine ⟨upd G a (.lst xs), Ex.new e1, ⟨fun b u e => ?_, S.fx, S.zx, fun b u e => by rw [upd_ne (ne_of_none e e2)]; exact S.dj b u e, fun b u e => by rw [upd_ne (ne_of_none e ez)]; exact S.zj b u e, S.fd, S.fk, fun m b fs h1 h2 => ?_, by simp [S.len], S.nd, S.th, fun m fs e => ?_⟩, .lst upd_same (e4.mono (Ex.new e1))⟩
  · by_cases z : b = a
    · subst z
      rw [upd_same] at e
      cases e
      exact e3
    · rw [upd_ne z] at e
      exact S.ex b u e
  · by_cases hm : n = m
    · subst hm
      rw [List.getElem?_set_self hn] at h2
      cases h2
    · rw [List.getElem?_set_ne hm] at h2
      exact S.zk m b fs h1 h2
  · by_cases hm : n = m
    · subst hm
      rw [List.getElem?_set_self hn] at e
      cases e
    · rw [List.getElem?_set_ne hm] at e
      obtain ⟨b, zs, q1, q2, q4, q5⟩ := S.cel m fs e
      have nb : b ≠ a := fun z => by
        subst z
        obtain ⟨l1, g1⟩ := List.getElem?_eq_some_iff.mp ha
        obtain ⟨l2, g2⟩ := List.getElem?_eq_some_iff.mp q1
        exact hm ((List.getElem_inj S.nd).mp (g1.trans g2.symm))
      exact ⟨b, zs, q1, by rw [upd_ne nb]; exact q2, q4, q5.mono (Ex.new e1)⟩
/-! ### a list that is being made stands by itself -/
theorem Sm.frame (S : Sm K F κ G M H) {p : Addr} (hp : H p = none) (xs : List V) : Sm K (F.up p (.lst xs)) κ G M (upd H p (.lst xs)) := by
  obtain ⟨g, f, nk⟩ := S.fresh hp
  have z := S.freshZ hp
  have S1 := S.laid (.lst xs) hp
  refine ⟨S1.ex, fun a u e => ?_, S1.zx, fun a u e => ?_, S1.zj, fun a u e => ?_, fun a h => ?_, S1.zk, S1.len, S1.nd, S1.th, S1.cel⟩
  · show upd H p (.lst xs) a = some u
    by_cases ha : a = p
    · subst ha
      exact e.symm ▸ (show upd H a (.lst xs) a = upd F.f a (.lst xs) a by rw [upd_same, upd_same])
    · rw [upd_ne ha]
      exact S.fx a u (by rw [← upd_ne (H := F.f) ha]; exact e)
  · by_cases ha : a = p
    · subst ha
      exact g
    · exact S.dj a u (by rw [← upd_ne (H := F.f) ha]; exact e)
  · by_cases ha : a = p
    · subst ha
      exact z
    · exact S.fd a u (by rw [← upd_ne (H := F.f) ha]; exact e)
  · show upd F.f p (.lst xs) a = none
    rw [upd_ne (show a ≠ p from fun z => nk (z ▸ h))]
    exact S.fk a h
/-- it grows -/
theorem Sm.grow {p : Addr} {xs : List V} (S : Sm K (F.up p (.lst xs)) κ G M H) (ys : List V) : Sm K (F.up p (.lst ys)) κ G M (upd H p (.lst ys)) := by
  have up1 : (F.up p (.lst xs)).f p = some (.lst xs) := upd_same
  have np : ∀ a ∈ κ, a ≠ p := fun a h z => by
    have q := S.fk a h
    rw [z, up1] at q
    cases q
  have gp : G p = none := S.dj p _ up1
  have zp : F.z p = none := S.fd p _ up1
  have back : ∀ a u, a ≠ p → (F.up p (.lst ys)).f a = some u → (F.up p (.lst xs)).f a = some u := fun a u h e => by
    show upd F.f p (.lst xs) a = some u
    rw [upd_ne h, ← upd_ne (H := F.f) (o := .lst ys) h]
    exact e
  refine ⟨fun a u e => ?_, fun a u e => ?_, fun a u e => ?_, fun a u e => ?_, S.zj, fun a u e => ?_, fun a h => ?_, S.zk, S.len, S.nd, fun a h => let ⟨u, e⟩ := S.th a h; ⟨u, by rw [upd_ne (np a h)]; exact e⟩, fun n ds e => ?_⟩
  · rw [upd_ne (ne_of_none e gp)]
    exact S.ex a u e
  · by_cases ha : a = p
    · subst ha
      rw [upd_same]
      exact (show (F.up a (.lst ys)).f a = some (.lst ys) from upd_same).symm.trans e
    · rw [upd_ne ha]
      exact S.fx a u (back a u ha e)
  · rw [upd_ne (ne_of_none e zp)]
    exact S.zx a u e
  · by_cases ha : a = p
    · subst ha
      exact gp
    · exact S.dj a u (back a u ha e)
  · by_cases ha : a = p
    · subst ha
      exact zp
    · exact S.fd a u (back a u ha e)
  · have q := S.fk a h
    show upd F.f p (.lst ys) a = none
    rw [upd_ne (np a h)]
    rw [show (F.up p (.lst xs)).f a = F.f a from upd_ne (np a h)] at q
    exact q
  · obtain ⟨a, xs, e1, e2, e4, e5⟩ := S.cel n ds e
    exact ⟨a, xs, e1, e2, by rw [upd_ne (np a (List.mem_of_getElem? e1))]; exact e4, e5⟩
/-- it is made -/
theorem Sm.unframe {p : Addr} {o : HO} (S : Sm K (F.up p o) κ G M H) (hF : F.f p = none) : Sm K F κ G M H ∧ p ∉ κ ∧ G p = none ∧ F.z p = none ∧ H p = some o := by
  have up1 : (F.up p o).f p = some o := upd_same
  have np : ∀ a ∈ κ, a ≠ p := fun a h z => by
    have q := S.fk a h
    rw [z, up1] at q
    cases q
  have fw : ∀ a u, F.f a = some u → (F.up p o).f a = some u := fun a u e => by
    show upd F.f p o a = some u
    rw [upd_ne (ne_of_none e hF)]
    exact e
  refine ⟨⟨S.ex, fun a u e => S.fx a u (fw a u e), S.zx, fun a u e => S.dj a u (fw a u e), S.zj, fun a u e => S.fd a u (fw a u e), fun a h => ?_, S.zk, S.len, S.nd, S.th, S.cel⟩, fun h => np p h rfl, S.dj p _ up1, S.fd p _ up1, S.fx p _ up1⟩
  have q := S.fk a h
  rw [show (F.up p o).f a = F.f a from upd_ne (np a h)] at q
  exact q
/-- what stands is data from now on -/
theorem Sm.asG (S : Sm K F κ G M H) {p : Addr} {o : HO} (hp : H p = some o) (nk : p ∉ κ) (g : G p = none) (f : F.f p = none) (z : F.z p = none) : Sm K F κ (upd G p o) M H := by
  refine ⟨fun a u e => ?_, S.fx, S.zx, fun a u e => by rw [upd_ne (ne_of_none e f)]; exact S.dj a u e, fun a u e => by rw [upd_ne (ne_of_none e z)]; exact S.zj a u e, S.fd, S.fk, S.zk, S.len, S.nd, S.th, fun n ds e => ?_⟩
  · by_cases ha : a = p
    · subst ha
      rw [upd_same] at e
      cases e
      exact hp
    · rw [upd_ne ha] at e
      exact S.ex a u e
  · obtain ⟨a, xs, e1, e2, e4, e5⟩ := S.cel n ds e
    exact ⟨a, xs, e1, by rw [upd_ne (show a ≠ p from fun z => nk (z ▸ List.mem_of_getElem? e1))]; exact e2, e4, e5.mono (Ex.new g)⟩
theorem Sm.made {c : Bool} {p : Addr} {xs : List V} {ds : List D} {z : Dv} (S : Sm K (F.up p (.lst xs)) κ G M H) (hF : F.f p = none) (r : Rvs K G xs ds) (h : mkL c ds M = some (z, M')) :
    ∃ κ' G', Le κ G κ' G' ∧ Sm K F κ' G' M' H ∧ Rx K κ' G' (.ref p) z := by
  obtain ⟨S1, nk, gp, zp, hp⟩ := S.unframe hF
  cases c with
  | false =>
    cases h
    exact ⟨κ, upd G p (.lst xs), Le.newG gp, S1.asG hp nk gp hF zp, .lst upd_same (r.mono (Ex.new gp))⟩
  | true =>
    cases h
    exact ⟨κ ++ [p], G, Le.newC, S1.cell nk gp hF zp hp fun es e => (by cases e; exact r), p, rfl, last_at S1.len⟩
end
end Rw
end PRwSim
section PRwSimE
set_option Elab.async false
set_option linter.all false
set_option maxRecDepth 100000
set_option maxHeartbeats 2000000
namespace Rw
open PySem L2 PySem.Spec PyProof.Rows
open Evl (Ex)

/-- behind an expression -/
abbrev PV (K : PySem.W.Frag) (F : Fz) (κ : List Addr) (G : Hp) (Q : VK) (v : Dv) (M' : DSt) : Prop := ∀ κ' G' u H', Le κ G κ' G' → Sm K F κ' G' M' H' → Rx K κ' G' u v → Q u H'
structure SimE (K : PySem.W.Frag) (t : TE) (e : DE) : Prop where
  run : ∀ {F κ G σ ρ M H Q v M'}, Sm K F κ G M H → Se K κ G σ ρ → e ρ M = some (v, M') → PV K F κ G Q v M' → t σ H Q
structure SimT (K : PySem.W.Frag) (t : TT) (e : DT) : Prop where
  run : ∀ {F κ G σ ρ M H b M'} {Q : Bool → Hp → Prop}, Sm K F κ G M H → Se K κ G σ ρ → e ρ M = some (b, M') → (∀ κ' G' H', Le κ G κ' G' → Sm K F κ' G' M' H' → Q b H') → t σ H Q
structure SimA (K : PySem.W.Frag) (t : TA) (e : DA) : Prop where
  run : ∀ {F κ G σ ρ M H vs M'} {Q : List V → Hp → Prop}, Sm K F κ G M H → Se K κ G σ ρ → e ρ M = some (vs, M') → (∀ κ' G' us H', Le κ G κ' G' → Sm K F κ' G' M' H' → Rxs K κ' G' us vs → Q us H') → t σ H Q
def SimR2 (K : PySem.W.Frag) (r : R2) (f : O2) : Prop := ∀ {F κ G M H Q x y z M' u v}, Sm K F κ G M H → Rx K κ G u x → Rx K κ G v y → f x y M = some (z, M') → PV K F κ G Q z M' → r u v H Q
def SimR1 (K : PySem.W.Frag) (r : V → Hp → VK → Prop) (f : O1) : Prop := ∀ {F κ G M H Q x z M' u}, Sm K F κ G M H → Rx K κ G u x → f x M = some (z, M') → PV K F κ G Q z M' → r u H Q
def SimRA (K : PySem.W.Frag) (r : List V → Hp → VK → Prop) (f : OA) : Prop := ∀ {F κ G M H Q xs z M' us}, Sm K F κ G M H → Rxs K κ G us xs → f xs M = some (z, M') → PV K F κ G Q z M' → r us H Q
def SimRM (K : PySem.W.Frag) (T : String) (r : V → List V → Hp → VK → Prop) (f : Dv → List Dv → DSt → Option (Dv × DSt)) : Prop := ∀ {F κ G M H Q x xs z M' u us}, Sm K F κ G M H → Rx K κ G u x → Rxs K κ G us xs → f x xs M = some (z, M') → PV K F κ G Q z M' → r u us H Q
section
variable {K : PySem.W.Frag}
theorem PV.weak {F : Fz} {κ κ1 : List Addr} {G G1 : Hp} {Q : VK} {v : Dv} {M' : DSt} (l : Le κ G κ1 G1) (k : PV K F κ G Q v M') : PV K F κ1 G1 Q v M' := fun κ' G' u H' l' S r => k κ' G' u H' (l.trans l') S r
theorem PV.here {F : Fz} {κ : List Addr} {G : Hp} {Q : VK} {v : Dv} {M' : DSt} {H : Hp} {u : V} (k : PV K F κ G Q v M') (S : Sm K F κ G M' H) (r : Rx K κ G u v) : Q u H := k κ G u H (Le.refl _ _) S r

/-! ### names, constants, operators -/
theorem sim_var (i : Nat) : SimE K (tVar i) (eVar i) := ⟨fun {F κ G σ ρ M H Q v M'} S E h k => by
  unfold eVar at h
  split at h
  · rename_i x e
    cases h
    obtain ⟨u, hu, r⟩ := E.at_ i _ e
    exact ⟨u, hu, k.here S r⟩
  · cases h⟩
theorem sim_c {v : V} {d : D} (hd : ∀ G, Rv K G v d) : SimE K (tC v) (eC d) := ⟨fun {F κ G σ ρ M H Q x M'} S E h k => by
  cases h
  exact k.here S (hd G)⟩
theorem sim_op {r : R2} {f : O2} {ta tb : TE} {a b : DE} (hr : SimR2 K r f) (ha : SimE K ta a) (hb : SimE K tb b) : SimE K (tOp r ta tb) (e2 f a b) := ⟨fun {F κ G σ ρ M H Q z M'} S E h k => by
  unfold e2 at h
  split at h
  · rename_i x M1 e
    split at h
    · rename_i y M2 e2
      refine ha.run S E e fun κ1 G1 u H1 l1 S1 r1 => hb.run S1 (E.mono l1) e2 fun κ2 G2 v H2 l2 S2 r2 => ?_
      exact hr S2 (r1.mono l2) r2 h (k.weak (l1.trans l2))
    · cases h
  · cases h⟩
theorem sim_un {r : V → Hp → VK → Prop} {f : O1} {ta : TE} {a : DE} (hr : SimR1 K r f) (ha : SimE K ta a) : SimE K (tUn r ta) (e1 f a) := ⟨fun {F κ G σ ρ M H Q z M'} S E h k => by
  unfold e1 at h
  split at h
  · rename_i x M1 e
    exact ha.run S E e fun κ1 G1 u H1 l1 S1 r1 => hr S1 r1 h (k.weak l1)
  · cases h⟩
theorem sim_nil : SimA K tNil aNil := ⟨fun {F κ G σ ρ M H vs M' Q} S E h k => by
  cases h
  exact k κ G [] H (Le.refl _ _) S .nil⟩
theorem sim_cons {ta : TE} {a : DE} {tr : TA} {as : DA} (ha : SimE K ta a) (hr : SimA K tr as) : SimA K (tCons ta tr) (aCons a as) := ⟨fun {F κ G σ ρ M H vs M' Q} S E h k => by
  unfold aCons at h
  split at h
  · rename_i x M1 e
    split at h
    · rename_i xs M2 e2
      cases h
      exact ha.run S E e fun κ1 G1 u H1 l1 S1 r1 => hr.run S1 (E.mono l1) e2 fun κ2 G2 us H2 l2 S2 r2 => k κ2 G2 (u :: us) H2 (l1.trans l2) S2 (.cons (r1.mono l2) r2)
    · cases h
  · cases h⟩
theorem sim_cb {r : List V → Hp → VK → Prop} {f : OA} {ta : TA} {a : DA} (hr : SimRA K r f) (ha : SimA K ta a) : SimE K (tCB r ta) (eA f a) := ⟨fun {F κ G σ ρ M H Q z M'} S E h k => by
  unfold eA at h
  split at h
  · rename_i xs M1 e
    exact ha.run S E e fun κ1 G1 us H1 l1 S1 r1 => hr S1 r1 h (k.weak l1)
  · cases h⟩
theorem sim_chain {r r' : R2} {f g : O2} {ta tb tc : TE} {a b c : DE} (hr : SimR2 K r f) (hr' : SimR2 K r' g) (ha : SimE K ta a) (hb : SimE K tb b) (hc : SimE K tc c) : SimE K (tChain r r' ta tb tc) (eChain f g a b c) := ⟨fun {F κ G σ ρ M H Q z M'} S E h k => by
  unfold eChain at h
  split at h
  · rename_i x M1 e
    split at h
    · rename_i y M2 e2
      refine ha.run S E e fun κ1 G1 u H1 l1 S1 r1 => hb.run S1 (E.mono l1) e2 fun κ2 G2 v H2 l2 S2 r2 => ?_
      split at h
      · rename_i M3 e3
        split at h
        · rename_i zz M4 e4
          refine hr S2 (r1.mono l2) r2 e3 fun κ3 G3 w H3 l3 S3 r3 => ⟨true, ?_, ?_⟩
          · cases r3; rfl
          · show (if true = true then _ else _)
            rw [if_pos rfl]
            exact hc.run S3 (((E.mono l1).mono l2).mono l3) e4 fun κ4 G4 w4 H4 l4 S4 r4 => hr' S4 ((r2.mono l3).mono l4) r4 h (k.weak (((l1.trans l2).trans l3).trans l4))
        · cases h
      · rename_i M3 e3
        cases h
        refine hr S2 (r1.mono l2) r2 e3 fun κ3 G3 w H3 l3 S3 r3 => ⟨false, ?_, ?_⟩
        · cases r3; rfl
        · show (if false = true then _ else _)
          rw [if_neg Bool.false_ne_true]
          exact k κ3 G3 (.bl false) H3 ((l1.trans l2).trans l3) S3 (Rv.bl false)
      · cases h
    · cases h
  · cases h⟩

/-! ### tests -/
theorem sim_tB {ta : TE} {a : DE} (ha : SimE K ta a) : SimT K (tB ta) (tVal a) := ⟨fun {F κ G σ ρ M H b M' Q} S E h k => by
  unfold tVal at h
  split at h
  · rename_i c M1 e
    cases h
    refine ha.run S E e fun κ1 G1 u H1 l1 S1 r1 => ⟨b, ?_, k κ1 G1 H1 l1 S1⟩
    cases r1; rfl
  · cases h⟩
theorem sim_tTest {ta : TE} {a : DE} (ha : SimE K ta a) : SimT K (tTest ta) (tVal a) := ⟨fun {F κ G σ ρ M H b M' Q} S E h k => (sim_tB ha).run S E h k⟩
theorem sim_and {t u : TT} {a b : DT} (ha : SimT K t a) (hb : SimT K u b) : SimT K (L2.tAnd t u) (Rw.tAnd a b) := ⟨fun {F κ G σ ρ M H c M' Q} S E h k => by
  unfold Rw.tAnd at h
  split at h
  · rename_i M1 e
    refine ha.run S E e fun κ1 G1 H1 l1 S1 => ?_
    show (if true = true then _ else _)
    rw [if_pos rfl]
    exact hb.run S1 (E.mono l1) h fun κ2 G2 H2 l2 S2 => k κ2 G2 H2 (l1.trans l2) S2
  · rename_i M1 e
    cases h
    refine ha.run S E e fun κ1 G1 H1 l1 S1 => ?_
    show (if false = true then _ else _)
    rw [if_neg Bool.false_ne_true]
    exact k κ1 G1 H1 l1 S1
  · cases h⟩
theorem sim_or {t u : TT} {a b : DT} (ha : SimT K t a) (hb : SimT K u b) : SimT K (L2.tOr t u) (Rw.tOr a b) := ⟨fun {F κ G σ ρ M H c M' Q} S E h k => by
  unfold Rw.tOr at h
  split at h
  · rename_i M1 e
    cases h
    refine ha.run S E e fun κ1 G1 H1 l1 S1 => ?_
    show (if true = true then _ else _)
    rw [if_pos rfl]
    exact k κ1 G1 H1 l1 S1
  · rename_i M1 e
    refine ha.run S E e fun κ1 G1 H1 l1 S1 => ?_
    show (if false = true then _ else _)
    rw [if_neg Bool.false_ne_true]
    exact hb.run S1 (E.mono l1) h fun κ2 G2 H2 l2 S2 => k κ2 G2 H2 (l1.trans l2) S2
  · cases h⟩
theorem sim_not {t : TT} {a : DT} (ha : SimT K t a) : SimT K (L2.tNot t) (Rw.tNot a) := ⟨fun {F κ G σ ρ M H c M' Q} S E h k => by
  unfold Rw.tNot at h
  split at h
  · rename_i b M1 e
    cases h
    exact ha.run S E e k
  · cases h⟩
theorem sim_ifE {t : TT} {c : DT} {ta tb : TE} {a b : DE} (hc : SimT K t c) (ha : SimE K ta a) (hb : SimE K tb b) : SimE K (tIf t ta tb) (eIf c a b) := ⟨fun {F κ G σ ρ M H Q z M'} S E h k => by
  unfold eIf at h
  split at h
  · rename_i M1 e
    refine hc.run S E e fun κ1 G1 H1 l1 S1 => ?_
    show (if true = true then _ else _)
    rw [if_pos rfl]
    exact ha.run S1 (E.mono l1) h (k.weak l1)
  · rename_i M1 e
    refine hc.run S E e fun κ1 G1 H1 l1 S1 => ?_
    show (if false = true then _ else _)
    rw [if_neg Bool.false_ne_true]
    exact hb.run S1 (E.mono l1) h (k.weak l1)
  · cases h⟩
theorem sim_andV {ta tb : TE} {a b : DE} (ha : SimE K ta a) (hb : SimE K tb b) : SimE K (tAndV ta tb) (eAnd a b) := ⟨fun {F κ G σ ρ M H Q z M'} S E h k => by
  unfold eAnd at h
  split at h
  · rename_i M1 e
    refine ha.run S E e fun κ1 G1 u H1 l1 S1 r1 => ⟨true, by cases r1; rfl, ?_⟩
    rw [if_pos rfl]
    exact hb.run S1 (E.mono l1) h (k.weak l1)
  · rename_i M1 e
    cases h
    refine ha.run S E e fun κ1 G1 u H1 l1 S1 r1 => ⟨false, by cases r1; rfl, ?_⟩
    rw [if_neg Bool.false_ne_true]
    exact k κ1 G1 _ H1 l1 S1 (Rv.bl false)
  · cases h⟩
theorem sim_orV {ta tb : TE} {a b : DE} (ha : SimE K ta a) (hb : SimE K tb b) : SimE K (tOrV ta tb) (eOr a b) := ⟨fun {F κ G σ ρ M H Q z M'} S E h k => by
  unfold eOr at h
  split at h
  · rename_i M1 e
    cases h
    refine ha.run S E e fun κ1 G1 u H1 l1 S1 r1 => ⟨true, by cases r1; rfl, ?_⟩
    rw [if_pos rfl]
    exact k κ1 G1 _ H1 l1 S1 (Rv.bl true)
  · rename_i M1 e
    refine ha.run S E e fun κ1 G1 u H1 l1 S1 r1 => ⟨false, by cases r1; rfl, ?_⟩
    rw [if_neg Bool.false_ne_true]
    exact hb.run S1 (E.mono l1) h (k.weak l1)
  · cases h⟩
theorem sim_notV {ta : TE} {a : DE} (ha : SimE K ta a) : SimE K (tNotV ta) (eNot a) := ⟨fun {F κ G σ ρ M H Q z M'} S E h k => by
  unfold eNot at h
  split at h
  · rename_i b M1 e
    cases h
    refine ha.run S E e fun κ1 G1 u H1 l1 S1 r1 => ⟨b, by cases r1; rfl, k κ1 G1 _ H1 l1 S1 (Rv.bl _)⟩
  · cases h⟩

/-! ### operators on values -/
theorem rx_int {κ : List Addr} {G : Hp} {u : V} {i : Int} (r : Rx K κ G u (.d (.int i))) : u = .int i := by cases r; rfl
theorem rx_str {κ : List Addr} {G : Hp} {u : V} {i : Str} (r : Rx K κ G u (.d (.str i))) : u = .str i := by cases r; rfl
theorem rx_bl {κ : List Addr} {G : Hp} {u : V} {i : Bool} (r : Rx K κ G u (.d (.bl i))) : u = .bl i := by cases r; rfl
/-- what an int operation gives: an int or a truth -/
theorem sr_I0 {g : Int → Int → V} {f : Int → Int → D} (hg : ∀ i j G, Rv K G (g i j) (f i j)) : SimR2 K (rI0 g) (oI f) := fun {F κ G M H Q x y z M' u v} S rx ry h k => by
  unfold oI at h
  split at h
  · cases h
    exact ⟨_, _, rx_int rx, rx_int ry, k.here S (hg _ _ _)⟩
  · cases h
theorem sr_I {C : Int → Int → Prop} {p : Int → Int → Prop} {g : Int → Int → V} {f : Int → Int → D} (hc : ∀ i j, p i j → C i j) (hg : ∀ i j G, p i j → Rv K G (g i j) (f i j)) : SimR2 K (rI C g) (oIg p f) := fun {F κ G M H Q x y z M' u v} S rx ry h k => by
  unfold oIg at h
  split at h
  · obtain ⟨hp, h⟩ := grd_some h
    cases h
    exact ⟨_, _, rx_int rx, rx_int ry, hc _ _ hp, k.here S (hg _ _ _ hp)⟩
  · cases h
theorem sr_sub : SimR2 K (rI0 fun i j => .int (i - j)) oSub := sr_I0 fun _ _ _ => .int _
theorem sr_lt : SimR2 K (rI0 fun i j => .bl (decide (i < j))) oLt := sr_I0 fun _ _ _ => .bl _
theorem sr_le : SimR2 K (rI0 fun i j => .bl (decide (i ≤ j))) oLe := sr_I0 fun _ _ _ => .bl _
theorem sr_gt : SimR2 K (rI0 fun i j => .bl (decide (j < i))) oGt := sr_I0 fun _ _ _ => .bl _
theorem sr_ge : SimR2 K (rI0 fun i j => .bl (decide (j ≤ i))) oGe := sr_I0 fun _ _ _ => .bl _
def CMulR (i j : Int) : Prop := IntMulOk i j
theorem op_mulR {X : Cx} : OpR X (binaryOp .Mult) (rI CMulR fun i j => .int (i * j)) := opI fun _ _ _ _ _ _ _ hc q => mul_int q hc
theorem mulOk_ok {i j : Int} (h : mulOk i j) : CMulR i j := by
  rcases h with h | h | ⟨h1, h2⟩
  · exact (show CMul i j from .inl h).ok
  · exact (show CMul i j from .inr h).ok
  · unfold CMulR
    have b : ∀ x : Int, Builtin.Int.intBits x ≤ x.natAbs.log2 + 1 := fun x => by
      unfold Builtin.Int.intBits
      split <;> omega
    have e1 := b i
    have e2 := b j
    unfold iLn at h1 h2
    have e : bitsLine = 134217728 := by decide
    unfold IntMulOk
    intro z
    rw [Bool.and_eq_true] at z
    have z2 := z.2
    unfold Builtin.Int.intTooBig at z2
    have z3 := of_decide_eq_true z2
    rw [e] at z3
    omega
theorem sr_mul : SimR2 K (rI CMulR fun i j => .int (i * j)) oMul := sr_I (fun _ _ h => mulOk_ok h) fun _ _ _ _ => .int _
def CDivR (_ j : Int) : Prop := divOk j
theorem op_fdivR {X : Cx} : OpR X (binaryOp .FloorDiv) (rI CDivR fun i j => .int (i.fdiv j)) := opI fun i j _ _ _ _ _ hc q => floordiv_int hc.1 q (.inl (PyProof.noPylong_of_log2 hc.2))
theorem sr_div : SimR2 K (rI CDivR fun i j => .int (i.fdiv j)) oDiv := sr_I (fun _ _ h => h) fun _ _ _ _ => .int _
theorem sr_mod : SimR2 K (rI (fun _ j => j ≠ 0) fun i j => .int (i.fmod j)) oMod := sr_I (fun _ _ h => h) fun _ _ _ _ => .int _
theorem sr_pow : SimR2 K (rI CPow fun i j => .int (i ^ j.toNat)) oPow := sr_I (fun _ _ h => h) fun _ _ _ _ => .int _
theorem sr_neg : SimR1 K (rU fun i => .int (-i)) oNeg := fun {F κ G M H Q x z M' u} S rx h k => by
  unfold oNeg at h
  split at h
  · cases h
    exact ⟨_, rx_int rx, k.here S (Rv.int _)⟩
  · cases h
theorem sz_big {n : Nat} (h : n ≤ big) : n ≤ sizeLine := Nat.le_trans h (by decide)
theorem sz_big1 {n : Nat} (h : n < big) : n < sizeLine := Nat.lt_of_lt_of_le h (by decide)
/-- a + b: ints, texts, lists -/
def rAddS1 : R2 := fun x y H Q => ∃ i j, x = .str i ∧ y = .str j ∧ i.length + j.length ≤ sizeLine ∧ Q (.str (i ++ j)) H
def rAdd3 (K : PySem.W.Frag) : R2 := fun x y H Q => rI0 (fun i j => .int (i + j)) x y H Q ∨ (rAddS1 x y H Q ∨ (rCatT K x y H Q ∨ rCat x y H Q))
theorem op_add3 {X : Cx} : OpR X (binaryOp .Add) (rAdd3 X.K) := op_add.or (op_add_str.or (op_catT.or op_cat))
theorem sr_add (c : Bool) : SimR2 K (rAdd3 K) (oAdd c) := fun {F κ G M H Q x y z M' u v} S rx ry h k => by
  unfold oAdd at h
  split at h
  · cases h
    exact .inl ⟨_, _, rx_int rx, rx_int ry, k.here S (Rv.int _)⟩
  · obtain ⟨hp, h⟩ := grd_some h
    cases h
    exact .inr (.inl ⟨_, _, rx_str rx, rx_str ry, sz_big hp, k.here S (Rv.str _)⟩)
  · rename_i xs ys
    obtain ⟨⟨n1, n2, hp⟩, h⟩ := grd_some h
    cases h
    cases rx with
    | tup sx vx =>
      rename_i a us
      cases ry with
      | tup sy vy =>
        rename_i b vs
        refine .inr (.inr (.inl ⟨a, b, us, vs, rfl, rfl, Evl.ex_t S.ex sx, Evl.ex_t S.ex sy, ?_, sz_big (by rw [vx.length, vy.length]; exact hp), fun e => ?_, fun _ p hp => ?_⟩))
        · intro e
          subst e
          cases vx
          exact n1 rfl
        · subst e
          cases vy
          exact absurd rfl n2
        · obtain ⟨g, f, nk⟩ := S.fresh hp
          exact k κ (upd G p (.tup (us ++ vs))) _ _ (Le.newG g) (S.newG _ hp) (.tup (.of upd_same) ((vx.append vy).mono (Ex.new g)))
  · split at h
    · rename_i xs ys e1 e2
      obtain ⟨hp, h⟩ := grd_some h
      obtain ⟨a, us, rfl, ha, ra⟩ := lw_at S rx e1
      obtain ⟨b, vs, rfl, hb, rb⟩ := lw_at S ry e2
      refine .inr (.inr (.inr ⟨a, b, us, vs, rfl, rfl, ha, hb, sz_big (by rw [ra.length, rb.length]; exact hp), fun p hp => ?_⟩))
      obtain ⟨κ', G', l, S', r⟩ := S.new hp (ra.append rb) h
      exact k κ' G' _ _ l S' r
    · cases h
theorem sr_rep (c : Bool) : SimR2 K rRep (oRep c) := fun {F κ G M H Q x y z M' u v} S rx ry h k => by
  unfold oRep at h
  split at h
  · rename_i xs kk e1
    obtain ⟨⟨h1, h2, h3⟩, h⟩ := grd_some h
    obtain ⟨a, us, rfl, ha, ra⟩ := lw_at S rx e1
    refine ⟨a, kk, us, rfl, rx_int ry, ha, by omega, by omega, sz_big (by rw [ra.length]; exact h3), fun p hp => ?_⟩
    obtain ⟨κ', G', l, S', r⟩ := S.new hp (ra.rep kk.toNat) h
    exact k κ' G' _ _ l S' r
  · cases h
/-! ### == -/
mutual
def D.toPy : D → PyData
  | .non => .none
  | .bl b => .bool b
  | .int i => .int i
  | .str s => .str s
  | .ty _ => .none
  | .lst xs => .list (D.toPys xs)
  | .tup xs => .tuple (D.toPys xs)
def D.toPys : List D → List PyData
  | [] => []
  | x :: xs => x.toPy :: D.toPys xs
end
end
end Rw
end PRwSimE
section PRwSimF
set_option Elab.async false
set_option linter.all false
set_option maxRecDepth 100000
set_option maxHeartbeats 2000000
namespace Rw
open PySem L2 PySem.Spec PyProof.Rows
open Evl (Ex)
section
variable {K : PySem.W.Frag}
/-! ### == -/
theorem dp_all {G H : Hp} {n : Nat} (ih : ∀ (d : D) (v : V), Rv K G v d → d.shp n = true → Dp K H v d.toPy) : ∀ {vs : List V} {ds : List D}, Rvs K G vs ds → ds.all (D.shp n) = true → DpAll K H vs (D.toPys ds)
  | _, _, .nil, _ => .nil
  | _, _, .cons h r, hs => by
    simp only [List.all_cons, Bool.and_eq_true] at hs
    exact .cons (ih _ _ h hs.1) (dp_all ih r hs.2)
theorem dp_of {G H : Hp} (e : Ex G H) : ∀ (n : Nat) (d : D) (v : V), Rv K G v d → d.shp n = true → Dp K H v d.toPy
  | 0, d, v, h, hs => by
    cases h with
    | non => exact .non
    | bl b => exact .bl b
    | int i => exact .int i
    | str x => exact .str x
    | ty n _ => cases hs
    | exc h c o => cases hs
    | lst h r => cases hs
    | tup h r => cases hs
  | n + 1, d, v, h, hs => by
    cases h with
    | non => exact .non
    | bl b => exact .bl b
    | int i => exact .int i
    | str x => exact .str x
    | ty n _ => cases hs
    | exc h c o => cases hs
    | lst h r => exact .lst (.of (e _ _ h)) (dp_all (fun d v => dp_of e n d v) r hs)
    | tup h r => exact .tup (Evl.ex_t e h) (dp_all (fun d v => dp_of e n d v) r hs)
theorem shp_lay_all {n : Nat} (ih : ∀ d : D, d.shp n = true → d.toPy.canLay0 = true ∧ d.toPy.depth ≤ n) : ∀ ds : List D, ds.all (D.shp n) = true → PyData.canLayAll0 (D.toPys ds) = true ∧ PyData.depthAll (D.toPys ds) ≤ n
  | [], _ => ⟨rfl, Nat.zero_le _⟩
  | d :: ds, hs => by
    simp only [List.all_cons, Bool.and_eq_true] at hs
    obtain ⟨a, b⟩ := ih d hs.1
    obtain ⟨c, e⟩ := shp_lay_all ih ds hs.2
    refine ⟨?_, ?_⟩
    · simp only [D.toPys, PyData.canLayAll0, a, c, Bool.and_self]
    · simp only [D.toPys, PyData.depthAll]
      omega
theorem shp_lay : ∀ (n : Nat) (d : D), d.shp n = true → d.toPy.canLay0 = true ∧ d.toPy.depth ≤ n
  | n, .non, _ => ⟨rfl, by simp [D.toPy, PyData.depth]⟩
  | n, .bl _, _ => ⟨rfl, by simp [D.toPy, PyData.depth]⟩
  | n, .int _, _ => ⟨rfl, by simp [D.toPy, PyData.depth]⟩
  | n, .str s, h => ⟨by
      have h' : strFine s = true := by cases n <;> exact h
      simp only [D.toPy, PyData.canLay0]
      exact h', by simp [D.toPy, PyData.depth]⟩
  | n, .ty _, h => by cases n <;> cases h
  | 0, .lst _, h => by cases h
  | 0, .tup _, h => by cases h
  | n + 1, .lst ds, h => by
    obtain ⟨a, b⟩ := shp_lay_all (fun d => shp_lay n d) ds h
    exact ⟨by simp only [D.toPy, PyData.canLay0]; exact a, by simp only [D.toPy, PyData.depth]; omega⟩
  | n + 1, .tup ds, h => by
    obtain ⟨a, b⟩ := shp_lay_all (fun d => shp_lay n d) ds h
    exact ⟨by simp only [D.toPy, PyData.canLay0]; exact a, by simp only [D.toPy, PyData.depth]; omega⟩
theorem shaped_of {n : Nat} {d : D} (h : d.shp n = true) (hn : n ≤ 64) : SeqAt.shaped d.toPy = true := by
  obtain ⟨a, b⟩ := shp_lay n d h
  unfold SeqAt.shaped
  rw [a, decide_eq_true (Nat.le_trans b hn)]
  rfl
theorem eqvs_of {n : Nat} (ih : ∀ a b : D, a.shp n = true → b.shp n = true → PyData.eqv a.toPy b.toPy = D.eqv a b) : ∀ (as bs : List D), as.all (D.shp n) = true → bs.all (D.shp n) = true → PyData.eqvAll (D.toPys as) (D.toPys bs) = D.eqvs as bs
  | [], [], _, _ => rfl
  | [], _ :: _, _, _ => rfl
  | _ :: _, [], _, _ => rfl
  | a :: as, b :: bs, h1, h2 => by
    simp only [List.all_cons, Bool.and_eq_true] at h1 h2
    simp only [D.toPys, PyData.eqvAll, D.eqvs]
    rw [ih a b h1.1 h2.1, eqvs_of ih as bs h1.2 h2.2]
theorem eqv_of : ∀ (n : Nat) (a b : D), a.shp n = true → b.shp n = true → PyData.eqv a.toPy b.toPy = D.eqv a b
  | 0, a, b, h1, h2 => by
    cases a <;> cases b <;> simp [D.shp] at h1 h2 <;> simp only [D.toPy, PyData.eqv, D.eqv]
  | n + 1, a, b, h1, h2 => by
    cases a <;> cases b <;> first
      | (simp only [D.shp] at h1 h2; simp only [D.toPy, PyData.eqv, D.eqv]; exact eqvs_of (fun a b => eqv_of n a b) _ _ h1 h2)
      | (simp [D.shp] at h1 h2; done)
      | (simp only [D.toPy, PyData.eqv, D.eqv]; done)
theorem dp_dv {F : Fz} {κ : List Addr} {G : Hp} {M : DSt} {H : Hp} (S : Sm K F κ G M H) {u : V} {x : Dv} {d : D} (r : Rx K κ G u x) (h : dv M x = some d) {n : Nat} (hs : d.shp (n + 1) = true) : Dp K H u d.toPy := by
  cases x with
  | d y =>
    cases h
    exact dp_of S.ex _ _ _ r hs
  | c m =>
    obtain ⟨a, rfl, ha⟩ := r
    simp only [dv] at h
    cases e : (M[m]?).join with
    | none => rw [e] at h; cases h
    | some ds =>
      rw [e] at h
      cases h
      obtain ⟨xs, _, _, e3, e4⟩ := cell_at S e ha
      exact .lst (.of e3) (dp_all (fun d v => dp_of S.ex n d v) e4 hs)
  | o _ _ _ => cases h
  | k _ _ => cases h
  | r ys =>
    cases h
    obtain ⟨a, xs, rfl, q, p⟩ := r
    exact .lst (Evl.ex_l S.ex q) (dp_all (fun d v => dp_of S.ex n d v) p hs)
theorem sr_eq : SimR2 K (rEqD K) oEq := fun {F κ G M H Q x y z M' u v} S rx ry h k => by
  unfold oEq at h
  split at h
  · rename_i a b e1 e2
    obtain ⟨⟨h1, h2⟩, h⟩ := grd_some h
    cases h
    refine ⟨a.toPy, b.toPy, dp_dv S rx e1 h1, dp_dv S ry e2 h2, shaped_of h1 (by decide), shaped_of h2 (by decide), ?_⟩
    rw [eqv_of 9 a b h1 h2]
    exact k.here S (Rv.bl _)
  · cases h
theorem sr_ne : SimR2 K (rNeD K) oNe := fun {F κ G M H Q x y z M' u v} S rx ry h k => by
  unfold oNe at h
  split at h
  · rename_i a b e1 e2
    obtain ⟨⟨h1, h2⟩, h⟩ := grd_some h
    cases h
    refine ⟨a.toPy, b.toPy, dp_dv S rx e1 h1, dp_dv S ry e2 h2, shaped_of h1 (by decide), shaped_of h2 (by decide), ?_⟩
    rw [eqv_of 9 a b h1 h2]
    exact k.here S (Rv.bl _)
  · cases h
/-! ### is None, in -/
theorem isNon_of {κ : List Addr} {G : Hp} {u : V} {x : Dv} (r : Rx K κ G u x) : decide (u = .non) = isNon x := by
  cases x with
  | d y => cases r <;> simp [isNon]
  | c n => obtain ⟨a, rfl, _⟩ := r; simp [isNon]
  | r xs => obtain ⟨a, _, rfl, _⟩ := r; simp [isNon]
  | o _ _ _ => obtain ⟨a, _, rfl, _⟩ := r; simp [isNon]
  | k _ _ => obtain ⟨a, _, _, rfl, _⟩ := r; simp [isNon]
theorem sim_isN {ta : TE} {a : DE} (ha : SimE K ta a) : SimE K (tOp (fun x y H Q => y = .non ∧ Q (.bl (decide (x = .non))) H) ta (tC .non)) (e1 oIsN a) := ⟨fun {F κ G σ ρ M H Q z M'} S E h k => by
  unfold e1 at h
  split at h
  · rename_i x M1 e
    cases h
    refine ha.run S E e fun κ1 G1 u H1 l1 S1 r1 => ⟨rfl, ?_⟩
    rw [isNon_of r1]
    exact k κ1 G1 _ H1 l1 S1 (Rv.bl _)
  · cases h⟩
theorem sim_notN {ta : TE} {a : DE} (ha : SimE K ta a) : SimE K (tOp (fun x y H Q => y = .non ∧ Q (.bl (!decide (x = .non))) H) ta (tC .non)) (e1 oNotN a) := ⟨fun {F κ G σ ρ M H Q z M'} S E h k => by
  unfold e1 at h
  split at h
  · rename_i x M1 e
    cases h
    refine ha.run S E e fun κ1 G1 u H1 l1 S1 r1 => ⟨rfl, ?_⟩
    rw [isNon_of r1]
    exact k κ1 G1 _ H1 l1 S1 (Rv.bl _)
  · cases h⟩
theorem flat_of {G : Hp} {u : V} {x : D} (r : Rv K G u x) (h : x.flat = true) : flatV u = true := by
  cases r <;> first | rfl | cases h
theorem flats_of {G : Hp} : ∀ {us : List V} {xs : List D}, Rvs K G us xs → xs.all D.flat = true → us.all flatV = true
  | _, _, .nil, _ => rfl
  | _, _, .cons a r, h => by
    simp only [List.all_cons, Bool.and_eq_true] at h ⊢
    exact ⟨flat_of a h.1, flats_of r h.2⟩
theorem eqV_of {G : Hp} {u v : V} {x y : D} (r : Rv K G u x) (q : Rv K G v y) (h : x.flat = true) (h' : y.flat = true) : eqV u v = D.eqv x y := by
  cases r <;> first | (cases h; done) | (cases q <;> first | (cases h'; done) | rfl | simp only [eqV, D.eqv])
theorem inV_of {G : Hp} {v : V} {y : D} (q : Rv K G v y) (h' : y.flat = true) : ∀ {us : List V} {xs : List D}, Rvs K G us xs → xs.all D.flat = true → inV v us = xs.any fun b => D.eqv b y
  | _, _, .nil, _ => rfl
  | _, _, .cons a r, h => by
    simp only [List.all_cons, Bool.and_eq_true] at h
    have ih := inV_of q h' r h.2
    unfold inV at ih ⊢
    simp only [List.any_cons, eqV_of a q h.1 h', ih]
theorem sr_in (neg : Bool) : SimR2 K (rIn K neg) (oIn neg) := fun {F κ G M H Q x y z M' u v} S rx ry h k => by
  unfold oIn at h
  split at h
  · rename_i a ys e
    obtain ⟨⟨h1, h2⟩, h⟩ := grd_some h
    cases h
    obtain ⟨p, xs, rfl, hs, r⟩ := sv_at S ry e
    refine ⟨p, xs, rfl, hs, flat_of rx h1, flats_of r h2, ?_⟩
    rw [inV_of rx h1 r h2]
    refine k.here S ?_
    cases neg
    · rw [Bool.false_xor]; exact Rv.bl _
    · rw [Bool.true_xor]; exact Rv.bl _
  · cases h
/-! ### places and slices -/
theorem ixD_eq (n : Nat) (i : Int) : ixD n i = ixN n i := rfl
theorem sr_ix : SimR2 K (rIx K) oIx := fun {F κ G M H Q x y z M' u v} S rx ry h k => by
  unfold oIx at h
  split at h
  · rename_i xs i e
    split at h
    · rename_i j ej
      split at h
      · rename_i w ew
        cases h
        obtain ⟨p, us, rfl, hs, r⟩ := sv_at S rx e
        obtain ⟨w', hw, rw'⟩ := r.get ew
        have ha : atI us i = some w' := by
          unfold atI
          rw [r.length, ← ixD_eq, ej]
          exact hw
        rcases hs with hs | hs
        · exact .inl ⟨p, us, i, w', rfl, rx_int ry, hs, ha, k.here S rw'⟩
        · exact .inr (.inl ⟨p, us, i, w', rfl, rx_int ry, hs, ha, k.here S rw'⟩)
      · cases h
    · cases h
  · rename_i i e
    split at h
    · rename_i s
      obtain ⟨hp, h⟩ := grd_some h
      split at h
      · rename_i j ej
        split at h
        · rename_i w ew
          cases h
          refine .inr (.inr ⟨s, i, w, rx_str rx, rx_int ry, sz_big hp, ?_, k.here S (Rv.str _)⟩)
          unfold atI
          rw [← ixD_eq, ej]
          exact ew
        · cases h
      · cases h
    · cases h
  · cases h
theorem sIx_eq (n d : Nat) (o : Option Int) : sIxD n d o = HT.sIx n d o := by cases o <;> rfl
theorem Rvs.cut {G : Hp} {us : List V} {xs : List D} (r : Rvs K G us xs) (lo hi : Option Int) : Rvs K G (cutV us lo hi) (cutD xs lo hi) := by
  unfold cutV cutD
  rw [← r.length, sIx_eq, sIx_eq]
  exact (r.drop _).take _
structure SimO (K : PySem.W.Frag) (t : TO) (e : DO) : Prop where
  run : ∀ {F κ G σ ρ M H o M'} {Q : Option Int → Hp → Prop}, Sm K F κ G M H → Se K κ G σ ρ → e ρ M = some (o, M') → (∀ κ' G' H', Le κ G κ' G' → Sm K F κ' G' M' H' → Q o H') → t σ H Q
theorem sim_pn : SimO K tNoPart pNone := ⟨fun {F κ G σ ρ M H o M' Q} S E h k => by
  cases h
  exact k κ G H (Le.refl _ _) S⟩
theorem sim_ps {ta : TE} {a : DE} (ha : SimE K ta a) : SimO K (tPart ta) (pSome a) := ⟨fun {F κ G σ ρ M H o M' Q} S E h k => by
  unfold pSome at h
  split at h
  · rename_i i M1 e
    cases h
    exact ha.run S E e fun κ1 G1 u H1 l1 S1 r1 => ⟨i, rx_int r1, k κ1 G1 H1 l1 S1⟩
  · cases h⟩
def SimSl (K : PySem.W.Frag) (r : V → Option Int → Option Int → Hp → VK → Prop) (f : Dv → Option Int → Option Int → DSt → Option (Dv × DSt)) : Prop := ∀ {F κ G M H Q x lo hi z M' u}, Sm K F κ G M H → Rx K κ G u x → f x lo hi M = some (z, M') → PV K F κ G Q z M' → r u lo hi H Q
theorem sim_sl {r : V → Option Int → Option Int → Hp → VK → Prop} {f : Dv → Option Int → Option Int → DSt → Option (Dv × DSt)} {ta : TE} {a : DE} {tl th : TO} {lo hi : DO} (hr : SimSl K r f) (ha : SimE K ta a) (hl : SimO K tl lo) (hh : SimO K th hi) : SimE K (tSl r ta tl th) (eSl f a lo hi) := ⟨fun {F κ G σ ρ M H Q z M'} S E h k => by
  unfold eSl at h
  split at h
  · rename_i x M1 e
    split at h
    · rename_i l M2 e2
      split at h
      · rename_i hh' M3 e3
        refine ha.run S E e fun κ1 G1 u H1 l1 S1 r1 => hl.run S1 (E.mono l1) e2 fun κ2 G2 H2 l2 S2 => hh.run S2 ((E.mono l1).mono l2) e3 fun κ3 G3 H3 l3 S3 => ?_
        exact hr S3 ((r1.mono l2).mono l3) h (k.weak ((l1.trans l2).trans l3))
      · cases h
    · cases h
  · cases h⟩
theorem ss_list (c : Bool) : SimSl K (rSlL K) (slL c) := fun {F κ G M H Q x lo hi z M' u} S rx h k => by
  unfold slL at h
  split at h
  · rename_i xs e
    obtain ⟨a, us, rfl, hs, r⟩ := lv_at S rx e
    refine ⟨a, us, rfl, hs, fun p hp => ?_⟩
    obtain ⟨κ', G', l, S', r'⟩ := S.new hp (r.cut lo hi) h
    exact k κ' G' _ _ l S' r'
  · cases h
theorem cut_whole {xs : List D} {lo hi : Option Int} (h : HT.sIx xs.length 0 lo = 0 ∧ HT.sIx xs.length xs.length hi = xs.length) : cutD xs lo hi = xs := by
  unfold cutD
  rw [sIx_eq, sIx_eq, h.1, h.2]
  simp
theorem ss_tup : SimSl K (rSlA K) slT := fun {F κ G M H Q x lo hi z M' u} S rx h k => by
  unfold slT at h
  split at h
  · rename_i xs
    cases h
    cases rx with
    | tup hs r =>
      rename_i a us
      refine ⟨a, us, rfl, Evl.ex_t S.ex hs, fun w => ?_, fun _ p hp => ?_⟩
      · rw [r.length] at w
        have e := cut_whole w
        exact k.here S (by rw [e]; exact Rv.tup hs r)
      · have g := (S.fresh hp).1
        exact k κ (upd G p (.tup (cutV us lo hi))) _ _ (Le.newG g) (S.newG _ hp) (Rv.tup (.of upd_same) ((r.cut lo hi).mono (Ex.new g)))
  · cases h
/-! ### displays -/
theorem allD_of {κ : List Addr} {G : Hp} : ∀ {us : List V} {vs : List Dv} {xs : List D}, Rxs K κ G us vs → allD vs = some xs → Rvs K G us xs
  | _, _, _, .nil, h => by cases h; exact .nil
  | _, _, xs, .cons r rs, h => by
    rename_i u us v vs
    cases v with
    | d x =>
      simp only [allD] at h
      cases e : allD vs with
      | none => rw [e] at h; cases h
      | some ys =>
        rw [e] at h
        cases h
        exact .cons r (allD_of rs e)
    | c n => cases h
    | r n => cases h
    | o _ _ _ => cases h
    | k _ _ => cases h
theorem sim_tup {ta : TA} {a : DA} (ha : SimA K ta a) : SimE K (tTup ta) (eTup a) := ⟨fun {F κ G σ ρ M H Q z M'} S E h k => by
  unfold eTup eA at h
  split at h
  · rename_i vs M1 e
    dsimp only at h
    split at h
    · rename_i xs ex
      obtain ⟨hp, h⟩ := grd_some h
      cases h
      refine ha.run S E e fun κ1 G1 us H1 l1 S1 r1 => ?_
      have r := allD_of r1 ex
      refine ⟨sz_big (by rw [r.length]; exact hp), fun p hp => ?_⟩
      have g := (S1.fresh hp).1
      exact k κ1 (upd G1 p (.tup us)) _ _ (l1.trans (Le.newG g)) (S1.newG _ hp) (Rv.tup (.of upd_same) (r.mono (Ex.new g)))
    · cases h
  · cases h⟩
theorem sim_lst (c : Bool) {ta : TA} {a : DA} (ha : SimA K ta a) : SimE K (tLst ta) (eLst c a) := ⟨fun {F κ G σ ρ M H Q z M'} S E h k => by
  unfold eLst eA at h
  split at h
  · rename_i vs M1 e
    dsimp only at h
    split at h
    · rename_i xs ex
      obtain ⟨hp, h⟩ := grd_some h
      refine ha.run S E e fun κ1 G1 us H1 l1 S1 r1 => ?_
      have r := allD_of r1 ex
      refine ⟨sz_big (by rw [r.length]; exact hp), fun p hp => ?_⟩
      obtain ⟨κ', G', l, S', r'⟩ := S1.new hp r h
      exact k κ' G' _ _ (l1.trans l) S' r'
    · cases h
  · cases h⟩
/-- a list that was just made is data -/
theorem sim_frz {ta : TE} {a : DE} (ha : SimE K ta a) : SimE K ta (eFrz a) := ⟨fun {F κ G σ ρ M H Q z M'} S E h k => by
  unfold eFrz at h
  split at h
  · rename_i p e
    obtain ⟨v, M1⟩ := p
    unfold frz at h
    split at h
    · rename_i y M2 ep
      cases ep
      cases h
      exact ha.run S E e k
    · rename_i n M2 ep
      cases ep
      split at h
      · rename_i hn
        obtain ⟨h1, h2⟩ := hn
        split at h
        · rename_i xs ex
          cases h
          refine ha.run S E e fun κ1 G1 u H1 l1 S1 r1 => ?_
          obtain ⟨b, rfl, hb⟩ := r1
          obtain ⟨G2, l2, S2, r2⟩ := S1.freeze ex hb
          have S3 := S2.take M.length
          have e3 : (M1.set n none).take M.length = M1.take M.length := by
            rw [List.take_set_of_le (by omega)]
          rw [e3] at S3
          have e4 : κ1.take M.length = κ := by
            obtain ⟨t, rfl⟩ := l1.pre
            rw [← S.len, List.take_left]
          rw [e4] at S3
          exact k κ G2 _ H1 ⟨List.prefix_refl _, l1.ex.trans l2⟩ S3 r2
        · cases h
      · cases h
    · cases h
  · cases h⟩
theorem sim_frzC {ta : TE} {a : DE} (ha : SimE K ta a) : SimE K ta (eFrzC a) := ⟨fun {F κ G σ ρ M H Q z M'} S E h k => by
  unfold eFrzC at h
  split at h
  · rename_i n M1 e
    split at h
    · rename_i xs ex
      cases h
      refine ha.run S E e fun κ1 G1 u H1 l1 S1 r1 => ?_
      obtain ⟨b, rfl, hb⟩ := r1
      obtain ⟨G2, l2, S2, r2⟩ := S1.freeze ex hb
      exact k κ1 G2 _ H1 ⟨l1.pre, l1.ex.trans l2⟩ S2 r2
    · cases h
  · cases h⟩
end
end Rw
end PRwSimF
section PRwSimG
set_option Elab.async false
set_option linter.all false
set_option maxRecDepth 100000
set_option maxHeartbeats 2000000
namespace Rw
open PySem L2 PySem.Spec PyProof.Rows
open Evl (Ex)
section
variable {K : PySem.W.Frag}
/-! ### built-ins -/
theorem rxs1 {κ : List Addr} {G : Hp} {us : List V} {x : Dv} (r : Rxs K κ G us [x]) : ∃ u, us = [u] ∧ Rx K κ G u x := by
  cases r with
  | cons a r => cases r; exact ⟨_, rfl, a⟩
theorem rxs2 {κ : List Addr} {G : Hp} {us : List V} {x y : Dv} (r : Rxs K κ G us [x, y]) : ∃ u v, us = [u, v] ∧ Rx K κ G u x ∧ Rx K κ G v y := by
  cases r with
  | cons a r =>
    obtain ⟨v, rfl, b⟩ := rxs1 r
    exact ⟨_, v, rfl, a, b⟩
theorem rxs0 {κ : List Addr} {G : Hp} {us : List V} (r : Rxs K κ G us []) : us = [] := by cases r; rfl
def rAbs : List V → Hp → VK → Prop := fun xs H Q => ∃ i, xs = [.int i] ∧ Q (.int (if i < 0 then -i else i)) H
theorem sa_abs : SimRA K rAbs oAbs := fun {F κ G M H Q xs z M' us} S r h k => by
  unfold oAbs at h
  split at h
  · cases h
    obtain ⟨u, rfl, a⟩ := rxs1 r
    exact ⟨_, by rw [rx_int a], k.here S (Rv.int _)⟩
  · cases h
def rMax2 : List V → Hp → VK → Prop := fun xs H Q => ∃ i j, xs = [.int i, .int j] ∧ Q (.int (if j > i then j else i)) H
def rMin2 : List V → Hp → VK → Prop := fun xs H Q => ∃ i j, xs = [.int i, .int j] ∧ Q (.int (if j < i then j else i)) H
theorem sa_max2 : SimRA K rMax2 oMax2 := fun {F κ G M H Q xs z M' us} S r h k => by
  unfold oMax2 at h
  split at h
  · cases h
    obtain ⟨u, v, rfl, a, b⟩ := rxs2 r
    exact ⟨_, _, by rw [rx_int a, rx_int b], k.here S (Rv.int _)⟩
  · cases h
theorem sa_min2 : SimRA K rMin2 oMin2 := fun {F κ G M H Q xs z M' us} S r h k => by
  unfold oMin2 at h
  split at h
  · cases h
    obtain ⟨u, v, rfl, a, b⟩ := rxs2 r
    exact ⟨_, _, by rw [rx_int a, rx_int b], k.here S (Rv.int _)⟩
  · cases h
def rLen (K : PySem.W.Frag) : List V → Hp → VK → Prop := fun xs H Q => ∃ x n, xs = [x] ∧ LenV K x H n ∧ Q (.int n) H
theorem sa_len : SimRA K (rLen K) oLen := fun {F κ G M H Q xs z M' us} S r h k => by
  unfold oLen at h
  split at h
  · obtain ⟨hp, h⟩ := grd_some h
    cases h
    obtain ⟨u, rfl, a⟩ := rxs1 r
    obtain rfl := rx_str a
    exact ⟨_, _, rfl, ⟨sz_big hp, rfl⟩, k.here S (Rv.int _)⟩
  · split at h
    · rename_i xs e
      cases h
      obtain ⟨u, rfl, a⟩ := rxs1 r
      obtain ⟨p, vs, rfl, hs, rr⟩ := sv_at S a e
      refine ⟨_, vs.length, rfl, ?_, ?_⟩
      · rcases hs with hs | hs
        · exact .inl ⟨vs, hs, rfl⟩
        · exact .inr ⟨vs, hs, rfl⟩
      · rw [rr.length]
        exact k.here S (Rv.int _)
    · cases h
  · cases h
theorem sa_sum : SimRA K (rSum K) oSum := fun {F κ G M H Q xs z M' us} S r h k => by
  unfold oSum at h
  split at h
  · split at h
    · rename_i xs e
      split at h
      · rename_i ns en
        cases h
        obtain ⟨u, rfl, a⟩ := rxs1 r
        obtain ⟨p, vs, rfl, hs, rr⟩ := lv_at S a e
        rw [rr.ints_of en] at hs
        exact ⟨p, ns, rfl, hs, k.here S (Rv.int _)⟩
      · cases h
    · cases h
  · cases h
theorem sa_all : SimRA K (rAll K) oAll := fun {F κ G M H Q xs z M' us} S r h k => by
  unfold oAll at h
  split at h
  · split at h
    · rename_i xs e
      split at h
      · rename_i ns en
        cases h
        obtain ⟨u, rfl, a⟩ := rxs1 r
        obtain ⟨p, vs, rfl, hs, rr⟩ := lv_at S a e
        rw [rr.bls_of en] at hs
        exact ⟨p, ns, rfl, hs, k.here S (Rv.bl _)⟩
      · cases h
    · cases h
  · cases h
theorem sa_any : SimRA K (rAny K) oAny := fun {F κ G M H Q xs z M' us} S r h k => by
  unfold oAny at h
  split at h
  · split at h
    · rename_i xs e
      split at h
      · rename_i ns en
        cases h
        obtain ⟨u, rfl, a⟩ := rxs1 r
        obtain ⟨p, vs, rfl, hs, rr⟩ := lv_at S a e
        rw [rr.bls_of en] at hs
        exact ⟨p, ns, rfl, hs, k.here S (Rv.bl _)⟩
      · cases h
    · cases h
  · cases h
def rInt1 : List V → Hp → VK → Prop := fun xs H Q => (∃ i, xs = [.int i] ∧ Q (.int i) H) ∨ ∃ k, xs = [.bl k] ∧ Q (.int (if k then 1 else 0)) H
theorem sa_int : SimRA K rInt1 oInt := fun {F κ G M H Q xs z M' us} S r h k => by
  unfold oInt at h
  split at h
  · cases h
    obtain ⟨u, rfl, a⟩ := rxs1 r
    exact .inl ⟨_, by rw [rx_int a], k.here S (Rv.int _)⟩
  · cases h
    obtain ⟨u, rfl, a⟩ := rxs1 r
    exact .inr ⟨_, by rw [rx_bl a], k.here S (Rv.int _)⟩
  · cases h
def rListOf (K : PySem.W.Frag) : List V → Hp → VK → Prop := fun xs H Q => ∃ p ys, xs = [.ref p] ∧ (SqL K H p ys ∨ SqT K H p ys) ∧ ∀ l, H l = none → Q (.ref l) (upd H l (.lst ys))
theorem sa_list (c : Bool) : SimRA K (rListOf K) (oList c) := fun {F κ G M H Q xs z M' us} S r h k => by
  unfold oList at h
  split at h
  · split at h
    · rename_i xs e
      obtain ⟨u, rfl, a⟩ := rxs1 r
      obtain ⟨p, vs, rfl, hs, rr⟩ := sv_at S a e
      refine ⟨p, vs, rfl, hs, fun l hl => ?_⟩
      obtain ⟨κ', G', l', S', r'⟩ := S.new hl rr h
      exact k κ' G' _ _ l' S' r'
    · cases h
  · cases h
theorem rng_rvs {G : Hp} (a : Int) (n : Nat) : Rvs K G ((List.range n).map fun (i : Nat) => V.int (a + (i : Nat))) (rng a n) := by
  have h := Rvs.of_ints (K := K) (G := G) ((List.range n).map fun (i : Nat) => a + (i : Int))
  rw [List.map_map, List.map_map] at h
  exact h
theorem sim_listR1 (c : Bool) {ta : TE} {a : DE} (ha : SimE K ta a) : SimE K (tLstRg (tRg1 ta)) (eA (oListR1 c) (aCons a aNil)) := ⟨fun {F κ G σ ρ M H Q z M'} S E h k => by
  unfold eA aCons aNil at h
  cases e : a ρ M with
  | none => simp only [e] at h; cases h
  | some p =>
    obtain ⟨x, M1⟩ := p
    simp only [e] at h
    unfold oListR1 at h
    split at h
    · rename_i vs j ej
      cases ej
      obtain ⟨hp, h⟩ := grd_some h
      refine ha.run S E e fun κ1 G1 u H1 l1 S1 r1 => ⟨j, rx_int r1, ?_⟩
      refine ⟨⟨by omega, by omega, by omega, by omega, by omega⟩, fun q hq => ?_⟩
      have rr := rng_rvs (K := K) (G := G1) 0 j.toNat
      have e0 : rgV 0 j = (List.range j.toNat).map fun (i : Nat) => V.int (0 + (i : Nat)) := by unfold rgV; rw [Int.sub_zero]
      rw [e0]
      obtain ⟨κ', G', l', S', r'⟩ := S1.new hq rr h
      exact k κ' G' _ _ (l1.trans l') S' r'
    · cases h⟩
theorem sim_listR2 (c : Bool) {ta tb : TE} {a b : DE} (ha : SimE K ta a) (hb : SimE K tb b) : SimE K (tLstRg (tRg2 ta tb)) (eA (oListR2 c) (aCons a (aCons b aNil))) := ⟨fun {F κ G σ ρ M H Q z M'} S E h k => by
  simp only [eA, aCons, aNil] at h
  cases e : a ρ M with
  | none => simp only [e] at h; cases h
  | some p =>
    obtain ⟨x, M1⟩ := p
    simp only [e] at h
    cases e2 : b ρ M1 with
    | none => simp only [e2] at h; cases h
    | some p =>
      obtain ⟨y, M2⟩ := p
      simp only [e2] at h
      unfold oListR2 at h
      split at h
      · rename_i vs i j ej
        cases ej
        obtain ⟨hp, h⟩ := grd_some h
        refine ha.run S E e fun κ1 G1 u H1 l1 S1 r1 => hb.run S1 (E.mono l1) e2 fun κ2 G2 v H2 l2 S2 r2 => ⟨i, j, rx_int r1, rx_int r2, ?_⟩
        refine ⟨⟨by omega, by omega, by omega, by omega, by omega⟩, fun q hq => ?_⟩
        have rr := rng_rvs (K := K) (G := G2) i (j - i).toNat
        obtain ⟨κ', G', l', S', r'⟩ := S2.new hq rr h
        exact k κ' G' _ _ ((l1.trans l2).trans l') S' r'
      · cases h⟩
/-! ### isinstance, sorted, [::-1] -/
def okTy (T : String) : Bool := T == "bool" || T == "int" || T == "str" || T == "list" || T == "tuple"
theorem kit_names : ∀ t ∈ ["NoneType", "bool", "int", "str", "list", "tuple"], ∀ T ∈ ["bool", "int", "str", "list", "tuple"], kitB t T = some (subTy t T) := by decide +kernel
theorem tyx_of {F : Fz} {κ : List Addr} {G : Hp} {M : DSt} {H : Hp} (S : Sm K F κ G M H) {u : V} {x : Dv} {d : D} (r : Rx K κ G u x) (h : dv M x = some d) (hn : ∀ n, d ≠ .ty n) : TyX K H u (.type d.tyN) ∧ d.tyN ∈ ["NoneType", "bool", "int", "str", "list", "tuple"] := by
  cases x with
  | d y =>
    cases h
    cases r with
    | non => exact ⟨.base .non, by simp [D.tyN]⟩
    | bl b => exact ⟨.base (.bl b), by simp [D.tyN]⟩
    | int i => exact ⟨.base (.int i), by simp [D.tyN]⟩
    | str s => exact ⟨.base (.str s), by simp [D.tyN]⟩
    | ty n _ => exact absurd rfl (hn n)
    | exc h c o => exact absurd rfl (hn _)
    | lst h r => exact ⟨.base (.lst (S.ex _ _ h)), by simp [D.tyN]⟩
    | tup h r =>
      refine ⟨?_, by simp [D.tyN]⟩
      rcases h with (h | ⟨o, h⟩) | ⟨o, its, n, hk, hc, _⟩
      · exact .base (.tup (S.ex _ _ h))
      · exact .fTuple (S.ex _ _ h)
      · exact .kTuple hk hc
  | c m =>
    obtain ⟨a, rfl, ha⟩ := r
    simp only [dv] at h
    cases e : (M[m]?).join with
    | none => rw [e] at h; cases h
    | some ds =>
      rw [e] at h
      cases h
      obtain ⟨xs, _, _, e3, e4⟩ := cell_at S e ha
      exact ⟨.base (.lst e3), by simp [D.tyN]⟩
  | o _ _ _ => cases h
  | k _ _ => cases h
  | r ys =>
    cases h
    obtain ⟨a, xs, rfl, q, p⟩ := r
    refine ⟨?_, by simp [D.tyN]⟩
    rcases Evl.ex_l S.ex q with (h | ⟨o, h⟩) | ⟨o, its, n, hk, hc, _⟩
    · exact .base (.lst h)
    · exact .base (.frz h)
    · exact .kList hk hc
theorem sa_isi (T : String) (hT : T ∈ ["bool", "int", "str", "list", "tuple"]) : SimRA K (rIsi K) (oIsi T) := fun {F κ G M H Q xs z M' us} S r h k => by
  unfold oIsi at h
  split at h
  · rename_i vs v n
    split at h
    · rename_i en
      subst en
      split at h
      · cases h
      · rename_i x nt e
        cases h
        obtain ⟨u, c, rfl, a, b⟩ := rxs2 r
        cases b with
        | exc h1 h2 h3 => exact absurd hT h3
        | ty =>
          obtain ⟨t1, t2⟩ := tyx_of S a e nt
          exact ⟨u, .ty n, _, _, _, rfl, .ty n, t1, kit_ty (kit_names _ t2 n hT), k.here S (Rv.bl _)⟩
      · cases h
    · cases h
  · cases h
theorem sorted_one {ns ms : List Int} (h1 : ms.Perm ns) (h2 : ms.Pairwise (· ≤ ·)) : ms = ns.mergeSort (fun a b => decide (a ≤ b)) := by
  have h3 := List.pairwise_mergeSort (le := fun (a b : Int) => decide (a ≤ b)) (fun a b c => by simp; omega) (fun a b => by simp; omega) ns
  have h4 := List.mergeSort_perm ns (fun a b => decide (a ≤ b))
  refine List.Perm.eq_of_pairwise (le := fun (a b : Int) => a ≤ b) (fun a b _ _ h1 h2 => Int.le_antisymm h1 h2) h2 (h3.imp (by simp)) (h1.trans h4.symm)
theorem sa_sorted (c : Bool) : SimRA K (rSortedI K) (oSorted c) := fun {F κ G M H Q xs z M' us} S r h k => by
  unfold oSorted at h
  split at h
  · split at h
    · rename_i xs e
      split at h
      · rename_i ns en
        obtain ⟨u, rfl, a⟩ := rxs1 r
        obtain ⟨p, vs, rfl, hs, rr⟩ := lv_at S a e
        rw [rr.ints_of en] at hs
        refine ⟨p, ns, rfl, hs, fun ms q h1 h2 hq => ?_⟩
        rw [sorted_one h1 h2]
        obtain ⟨κ', G', l', S', r'⟩ := S.new hq (Rvs.of_ints _) h
        exact k κ' G' _ _ l' S' r'
      · cases h
    · cases h
  · cases h
theorem Rvs.reverse {G : Hp} : ∀ {us : List V} {xs : List D}, Rvs K G us xs → Rvs K G us.reverse xs.reverse
  | _, _, .nil => .nil
  | _, _, .cons h r => by
    rw [List.reverse_cons, List.reverse_cons]
    exact (Rvs.reverse r).append (.cons h .nil)
theorem sim_rev (c : Bool) {ta : TE} {a : DE} (ha : SimE K ta a) : SimE K (tRevL K ta) (e1 (oRev c) a) := ⟨fun {F κ G σ ρ M H Q z M'} S E h k => by
  unfold e1 at h
  split at h
  · rename_i x M1 e
    unfold oRev at h
    split at h
    · rename_i xs ex
      refine ha.run S E e fun κ1 G1 u H1 l1 S1 r1 => ?_
      obtain ⟨p, vs, rfl, hs, rr⟩ := lv_at S1 r1 ex
      refine ⟨p, vs, rfl, hs, fun q hq => ?_⟩
      obtain ⟨κ', G', l', S', r'⟩ := S1.new hq rr.reverse h
      exact k κ' G' _ _ (l1.trans l') S' r'
    · cases h
  · cases h⟩
/-! ### methods of lists -/
theorem sim_bm {r : V → List V → Hp → VK → Prop} {f : Dv → List Dv → DSt → Option (Dv × DSt)} {to : TE} {o : DE} {ta : TA} {a : DA} (hr : SimRM K "list" r f) (hl : ∀ v as M z, f v as M = some z → ∃ n, v = .c n) (ho : SimE K to o) (ha : SimA K ta a) : SimE K (tBM K "list" r to ta) (eM f o a) := ⟨fun {F κ G σ ρ M H Q z M'} S E h k => by
  unfold eM at h
  split at h
  · rename_i x M1 e
    split at h
    · rename_i xs M2 e2
      obtain ⟨n, rfl⟩ := hl _ _ _ _ h
      refine ho.run S E e fun κ1 G1 u H1 l1 S1 r1 => ⟨?_, ?_⟩
      · obtain ⟨b, rfl, hb⟩ := r1
        obtain ⟨q, hq⟩ := S1.th b (List.mem_of_getElem? hb)
        exact .inl ⟨rfl, q, .of hq⟩
      · exact ha.run S1 (E.mono l1) e2 fun κ2 G2 us H2 l2 S2 r2 => hr S2 (r1.mono l2) r2 h (k.weak (l1.trans l2))
    · cases h
  · cases h⟩
theorem sim_bm0 {r : V → List V → Hp → VK → Prop} {f : Dv → List Dv → DSt → Option (Dv × DSt)} {to : TE} {o : DE} (hr : SimRM K "list" r f) (hl : ∀ v as M z, f v as M = some z → ∃ n, v = .c n) (ho : SimE K to o) : SimE K (tBM0 K "list" r to) (eM f o aNil) := ⟨fun {F κ G σ ρ M H Q z M'} S E h k => by
  have h2 := (sim_bm hr hl ho (sim_nil (K := K))).run S E h k
  exact h2⟩
theorem sm_append : SimRM K "list" rAppend mAppend := fun {F κ G M H Q x xs z M' u us} S r rs h k => by
  unfold mAppend at h
  split at h
  · rename_i n y
    split at h
    · rename_i ys e
      obtain ⟨hp, h⟩ := grd_some h
      cases h
      obtain ⟨a, rfl, ha⟩ := r
      obtain ⟨v, rfl, rv⟩ := rxs1 rs
      obtain ⟨vs, _, _, e3, e4⟩ := cell_at S e ha
      refine ⟨a, vs, v, rfl, rfl, e3, sz_big1 (by rw [e4.length]; exact hp), ?_⟩
      exact k κ G _ _ (Le.refl _ _) (S.put e ha (e4.append (.cons rv .nil))) Rv.non
    · cases h
  · cases h
theorem lm_append : ∀ v as M z, mAppend v as M = some z → ∃ n, v = .c n := fun v as M z h => by
  unfold mAppend at h
  split at h
  · exact ⟨_, rfl⟩
  · cases h
theorem sm_clear : SimRM K "list" rClear mClear := fun {F κ G M H Q x xs z M' u us} S r rs h k => by
  unfold mClear at h
  split at h
  · rename_i n
    split at h
    · rename_i ys e
      cases h
      obtain ⟨a, rfl, ha⟩ := r
      obtain ⟨vs, _, _, e3, e4⟩ := cell_at S e ha
      refine ⟨a, vs, rfl, rxs0 rs, e3, ?_⟩
      exact k κ G _ _ (Le.refl _ _) (S.put e ha .nil) Rv.non
    · cases h
  · cases h
theorem lm_clear : ∀ v as M z, mClear v as M = some z → ∃ n, v = .c n := fun v as M z h => by
  unfold mClear at h
  split at h
  · exact ⟨_, rfl⟩
  · cases h
def rPops : V → List V → Hp → VK → Prop := fun x vs H Q => rPop x vs H Q ∨ rPopAt x vs H Q
theorem mt_pops {X : Cx} : MtM X "list.pop" rPops := fun pins s σ H x vs v us Q I rx rv h => by
  rcases h with h | h
  · exact mt_pop pins s σ H x vs v us Q I rx rv h
  · exact mt_popAt pins s σ H x vs v us Q I rx rv h
theorem sm_pop : SimRM K "list" rPops mPop := fun {F κ G M H Q x xs z M' u us} S r rs h k => by
  unfold mPop at h
  split at h
  · rename_i n
    split at h
    · rename_i ys e
      split at h
      · rename_i y ey
        cases h
        obtain ⟨a, rfl, ha⟩ := r
        obtain ⟨vs, _, _, e3, e4⟩ := cell_at S e ha
        obtain ⟨w, hw, rw'⟩ := e4.get ey
        refine .inl ⟨a, vs, w, rfl, rxs0 rs, e3, by rw [e4.length]; exact hw, ?_⟩
        exact k κ G _ _ (Le.refl _ _) (S.put e ha e4.dropLast) rw'
      · cases h
    · cases h
  · rename_i n i
    split at h
    · rename_i ys e
      split at h
      · rename_i j ej
        split at h
        · rename_i y ey
          obtain ⟨hi, h⟩ := grd_some h
          cases h
          obtain ⟨a, rfl, ha⟩ := r
          obtain ⟨v, rfl, rv⟩ := rxs1 rs
          obtain rfl := rx_int rv
          obtain ⟨vs, _, _, e3, e4⟩ := cell_at S e ha
          obtain ⟨w, hw, rw'⟩ := e4.get ey
          obtain ⟨q1, q2, q3, q4⟩ := ixN_seq ej
          refine .inr ⟨a, vs, i, j, w, rfl, rfl, e3, by omega, by omega, by rw [e4.length]; exact q1, hw, ?_⟩
          exact k κ G _ _ (Le.refl _ _) (S.put e ha (e4.eraseIdx j)) rw'
        · cases h
      · cases h
    · cases h
  · cases h
end
end Rw
end PRwSimG
section PRwSimS
set_option Elab.async false
set_option linter.all false
set_option maxRecDepth 100000
set_option maxHeartbeats 2000000
namespace Rw
open PySem L2 PySem.Spec PyProof.Rows
open Evl (Ex)
section
variable {K : PySem.W.Frag}
/-! ### targets -/
theorem wipe_get (σ : L2.St) : ∀ (vs : List Nat) (j : Nat), (L2.wipe σ vs)[j]? = if j ∈ vs then (σ[j]?).map fun _ => none else σ[j]?
  | [], j => by simp [L2.wipe]
  | v :: vs, j => by
    unfold L2.wipe
    by_cases hj : v = j
    · subst hj
      by_cases hl : v < σ.length
      · rw [List.getElem?_set_self (by rw [wipe_length]; exact hl), if_pos (by simp), List.getElem?_eq_getElem hl]
        rfl
      · rw [List.getElem?_eq_none (by rw [List.length_set, wipe_length]; omega), if_pos (by simp), List.getElem?_eq_none (by omega)]
        rfl
    · rw [List.getElem?_set_ne hj, wipe_get σ vs j]
      by_cases hm : j ∈ vs
      · rw [if_pos hm, if_pos (List.mem_cons_of_mem _ hm)]
      · rw [if_neg hm, if_neg (by simp only [List.mem_cons, not_or]; exact ⟨fun e => hj e.symm, hm⟩)]
theorem wipe_length_ite {o : Option (Option V)} {p : Prop} [Decidable p] : (if p then (if p then o.map fun _ => none else o).map fun _ => none else (if p then o.map fun _ => none else o)) = if p then o.map (fun _ => none) else o := by
  split <;> simp [Function.comp_def]
theorem wipe_set {σ : L2.St} {i : Nat} {o : Option V} {vs : List Nat} (h : i ∈ vs) : L2.wipe (σ.set i o) vs = L2.wipe σ vs := by
  apply List.ext_getElem?
  intro j
  rw [wipe_get, wipe_get]
  by_cases hj : j ∈ vs
  · rw [if_pos hj, if_pos hj]
    by_cases e : i = j
    · subst e
      by_cases hl : i < σ.length
      · rw [List.getElem?_set_self hl, List.getElem?_eq_getElem hl]
        rfl
      · rw [List.getElem?_eq_none (by simpa using hl), List.getElem?_eq_none (by simpa using hl)]
    · rw [List.getElem?_set_ne e]
  · rw [if_neg hj, if_neg hj, List.getElem?_set_ne (fun (e : i = j) => hj (e ▸ h))]

mutual
def Tgt.tg (K : PySem.W.Frag) : Tgt → TG
  | .name i => gName i
  | .tup ts => fun v σ H Q => gTup K ts.length (Tgt.tgs K ts) v σ H Q ∨ gUnl K ts.length (Tgt.tgs K ts) v σ H Q
def Tgt.tgs (K : PySem.W.Frag) : List Tgt → TGs
  | [] => gNil
  | t :: ts => gCons (t.tg K) (Tgt.tgs K ts)
end
mutual
theorem put_ok {F : Fz} {κ : List Addr} {G : Hp} {M : DSt} {H : Hp} (S : Sm K F κ G M H) : ∀ (t : Tgt) {u : V} {x : Dv} {σ : L2.St} {ρ ρ' : DEnv} {Q : L2.St → Hp → Prop}, Rx K κ G u x → Se K κ G σ ρ → t.put x ρ = some ρ' → (∀ σ', Se K κ G σ' ρ' → (∀ vs : List Nat, (∀ i ∈ t.slots, i ∈ vs) → L2.wipe σ' vs = L2.wipe σ vs) → Q σ' H) → t.tg K u σ H Q
  | .name i, u, x, σ, ρ, ρ', Q, r, E, h, k => by
    simp only [Tgt.put] at h
    cases h
    refine k _ (E.set r i) fun vs hv => ?_
    exact wipe_set (hv i (by simp [Tgt.slots]))
  | .tup ts, u, x, σ, ρ, ρ', Q, r, E, h, k => by
    cases x with
    | d y =>
      cases y with
      | tup xs =>
        simp only [Tgt.put] at h
        split at h
        · rename_i hl
          cases r with
          | tup hs rs =>
            rename_i a us
            exact .inl ⟨a, us, rfl, Evl.ex_t S.ex hs, by rw [rs.length]; exact hl, puts_ok S ts rs E h fun σ' E' w => k σ' E' fun vs hv => w vs (by simpa only [Tgt.slots] using hv)⟩
        · cases h
      | lst xs =>
        simp only [Tgt.put] at h
        split at h
        · rename_i hl
          cases r with
          | lst hs rs =>
            rename_i a us
            exact .inr ⟨a, us, rfl, .of (S.ex _ _ hs), by rw [rs.length]; exact hl, puts_ok S ts rs E h fun σ' E' w => k σ' E' fun vs hv => w vs (by simpa only [Tgt.slots] using hv)⟩
        · cases h
      | _ => simp [Tgt.put] at h
    | c n => simp [Tgt.put] at h
    | r n => simp [Tgt.put] at h
    | o _ _ _ => simp [Tgt.put] at h
    | k _ _ => simp [Tgt.put] at h
theorem puts_ok {F : Fz} {κ : List Addr} {G : Hp} {M : DSt} {H : Hp} (S : Sm K F κ G M H) : ∀ (ts : List Tgt) {us : List V} {xs : List D} {σ : L2.St} {ρ ρ' : DEnv} {Q : L2.St → Hp → Prop}, Rvs K G us xs → Se K κ G σ ρ → Tgt.puts ts xs ρ = some ρ' → (∀ σ', Se K κ G σ' ρ' → (∀ vs : List Nat, (∀ i ∈ Tgt.slotss ts, i ∈ vs) → L2.wipe σ' vs = L2.wipe σ vs) → Q σ' H) → Tgt.tgs K ts us σ H Q
  | [], _, _, σ, ρ, ρ', Q, .nil, E, h, k => by
    simp only [Tgt.puts] at h
    cases h
    exact ⟨rfl, k σ E fun _ _ => rfl⟩
  | [], _, _, σ, ρ, ρ', Q, .cons r rs, E, h, k => by simp [Tgt.puts] at h
  | t :: ts, _, _, σ, ρ, ρ', Q, .nil, E, h, k => by simp [Tgt.puts] at h
  | t :: ts, _, _, σ, ρ, ρ', Q, .cons r rs, E, h, k => by
    rename_i v vs d ds
    simp only [Tgt.puts] at h
    split at h
    · rename_i ρ1 e
      refine ⟨v, vs, rfl, put_ok S t (x := .d d) r E e fun σ1 E1 w1 => puts_ok S ts rs E1 h fun σ2 E2 w2 => k σ2 E2 fun ws hw => ?_⟩
      rw [w2 ws fun i hi => hw i (by simp only [Tgt.slotss]; exact List.mem_append_right _ hi), w1 ws fun i hi => hw i (by simp only [Tgt.slotss]; exact List.mem_append_left _ hi)]
    · cases h
end
/-! ### what is walked -/
structure SimI (K : PySem.W.Frag) (wi : TI) (it : DI) : Prop where
  run : ∀ {F κ G σ ρ M H xs src M'} {R : It → Hp → Prop}, Sm K F κ G M H → Se K κ G σ ρ → it ρ M = some (xs, src, M') →
    (∀ κ1 G1 H1 J (Gd : Hp → Prop) Y, Le κ G κ1 G1 → Sm K F κ1 G1 M' H1 → Walk J xs.length Gd Y →
      (∀ F2 κ2 G2 M2 H2, Le κ1 G1 κ2 G2 → Sm K F2 κ2 G2 M2 H2 → stand src M' M2 → Gd H2) →
      (∀ i F2 κ2 G2 M2 H2 x H3, i < xs.length → Le κ1 G1 κ2 G2 → Sm K F2 κ2 G2 M2 H2 → stand src M' M2 → Y i H2 x H3 → ∃ G3 d, Ex G2 G3 ∧ Sm K F2 κ2 G3 M2 H3 ∧ xs[i]? = some d ∧ Rv K G3 x d) → R J H1) → wi σ H R
/-- a value that is a list stands as long as its cell stands -/
theorem lv_stand {F2 : Fz} {κ κ2 : List Addr} {G G2 : Hp} {M M2 : DSt} {H2 : Hp} {x : Dv} {a : Addr} {xs : List D} (l : Le κ G κ2 G2) (S2 : Sm K F2 κ2 G2 M2 H2) (r : Rx K κ G (.ref a) x) (h : lv M x = some xs) (st : stand (cellsOf x) M M2) : ∃ us, SqL K H2 a us ∧ Rvs K G2 us xs := by
  have r2 := r.mono l
  have h2 : lv M2 x = some xs := by
    cases x with
    | d y => cases y <;> exact h
    | c n =>
      have e := st n (by simp [cellsOf])
      simp only [lv] at h ⊢
      rw [e]
      exact h
    | r ys => exact h
    | o _ _ _ => exact h
    | k _ _ => exact h
  obtain ⟨b, us, e, q, p⟩ := lv_at S2 r2 h2
  cases e
  exact ⟨us, q, p⟩
theorem sim_iL {ta : TE} {a : DE} (ha : SimE K ta a) : SimI K (iList K ta) (iL a) := ⟨fun {F κ G σ ρ M H xs src M' R} S E h k => by
  unfold iL at h
  split at h
  · rename_i x M1 e
    split at h
    · rename_i ys ey
      cases h
      refine ha.run S E e fun κ1 G1 u H1 l1 S1 r1 => ?_
      obtain ⟨b, us, rfl, q, p⟩ := lv_at S1 r1 ey
      refine ⟨b, rfl, ⟨us, q⟩, ?_⟩
      refine k κ1 G1 H1 (Itl K b) (fun H => ∃ us G, SqL K H b us ∧ Rvs K G us xs) (fun i H x H' => H' = H ∧ ∀ us, SqL K H b us → us[i]? = some x) l1 S1 ⟨fun i H hi ⟨us, G, q, p⟩ => ?_, fun H ⟨us, G, q, p⟩ => ⟨us, q, by rw [p.length]; exact Nat.le_refl _⟩, fun i H x H' hi _ y => y⟩ (fun F2 κ2 G2 M2 H2 l2 S2 st => ?_) fun i F2 κ2 G2 M2 H2 x H3 hi l2 S2 st y => ?_
      · have hl : i < us.length := by rw [p.length]; exact hi
        exact ⟨us, us[i], q, by simp [hl]⟩
      · obtain ⟨us2, q2, p2⟩ := lv_stand l2 S2 r1 ey st
        exact ⟨us2, G2, q2, p2⟩
      · obtain ⟨us2, q2, p2⟩ := lv_stand l2 S2 r1 ey st
        obtain ⟨rfl, y⟩ := y
        obtain ⟨d, hd, rd⟩ := p2.get' (y us2 q2)
        exact ⟨G2, d, Ex.refl _, S2, hd, rd⟩
    · cases h
  · cases h⟩
theorem sim_iT {ta : TE} {a : DE} (ha : SimE K ta a) : SimI K (iTup K ta) (iT a) := ⟨fun {F κ G σ ρ M H xs src M' R} S E h k => by
  unfold iT at h
  split at h
  · rename_i ys M1 e
    cases h
    refine ha.run S E e fun κ1 G1 u H1 l1 S1 r1 => ?_
    cases r1 with
    | tup hs rs =>
      rename_i b us
      refine ⟨b, rfl, ⟨us, Evl.ex_t S1.ex hs⟩, ?_⟩
      refine k κ1 G1 H1 (Itt K b) (fun H => SqT K H b us) (YAt us) l1 S1 ?_ (fun F2 κ2 G2 M2 H2 l2 S2 st => ?_) fun i F2 κ2 G2 M2 H2 x H3 hi l2 S2 st y => ?_
      · rw [← rs.length]
        exact walk_tup
      · exact Evl.ex_t S2.ex (Evl.ex_t l2.ex hs)
      · obtain ⟨rfl, y⟩ := y
        obtain ⟨d, hd, rd⟩ := (rs.mono l2.ex).get' y
        exact ⟨G2, d, Ex.refl _, S2, hd, rd⟩
  · cases h⟩
theorem rng_length (a : Int) (n : Nat) : (rng a n).length = n := by unfold rng; simp
theorem rng_get {a : Int} {n i : Nat} (h : i < n) : (rng a n)[i]? = some (.int (a + (i : Int))) := by unfold rng; simp [h]
theorem sim_iR1 {ta : TA} {a : DA} (ha : SimA K ta a) : SimI K (iRng1 ta) (iR1 a) := ⟨fun {F κ G σ ρ M H xs src M' R} S E h k => by
  unfold iR1 at h
  split at h
  · rename_i j M1 e
    obtain ⟨hp, h⟩ := grd_some h
    cases h
    refine ha.run S E e fun κ1 G1 us H1 l1 S1 r1 => ?_
    obtain ⟨u, rfl, ru⟩ := rxs1 r1
    obtain rfl := rx_int ru
    refine ⟨j, rfl, hp.1, hp.2, ?_⟩
    refine k κ1 G1 H1 (Itr 0 j.toNat) (fun _ => True) (YFn fun i => .int (0 + (i : Nat))) l1 S1 (by rw [rng_length]; exact walk_range) (fun _ _ _ _ _ _ _ _ => trivial) fun i F2 κ2 G2 M2 H2 x H3 hi l2 S2 st y => ?_
    obtain ⟨rfl, rfl⟩ := y
    rw [rng_length] at hi
    exact ⟨G2, _, Ex.refl _, S2, rng_get hi, .int _⟩
  · cases h⟩
theorem sim_iR2 {ta : TA} {a : DA} (ha : SimA K ta a) : SimI K (iRng2 ta) (iR2 a) := ⟨fun {F κ G σ ρ M H xs src M' R} S E h k => by
  unfold iR2 at h
  split at h
  · rename_i lo j M1 e
    obtain ⟨hp, h⟩ := grd_some h
    cases h
    refine ha.run S E e fun κ1 G1 us H1 l1 S1 r1 => ?_
    obtain ⟨u, v, rfl, ru, rv⟩ := rxs2 r1
    obtain rfl := rx_int ru
    obtain rfl := rx_int rv
    refine ⟨lo, j, rfl, hp, ?_⟩
    refine k κ1 G1 H1 (Itr lo (j - lo).toNat) (fun _ => True) (YFn fun i => .int (lo + (i : Nat))) l1 S1 (by rw [rng_length]; exact walk_range) (fun _ _ _ _ _ _ _ _ => trivial) fun i F2 κ2 G2 M2 H2 x H3 hi l2 S2 st y => ?_
    obtain ⟨rfl, rfl⟩ := y
    rw [rng_length] at hi
    exact ⟨G2, _, Ex.refl _, S2, rng_get hi, .int _⟩
  · cases h⟩
/-- a new pair -/
theorem pair_new {F2 : Fz} {κ2 : List Addr} {G2 : Hp} {M2 : DSt} {H2 : Hp} {T : Addr} {x y : V} {d e : D} (S2 : Sm K F2 κ2 G2 M2 H2) (hT : H2 T = none) (r1 : Rv K G2 x d) (r2 : Rv K G2 y e) : Ex G2 (upd G2 T (.tup [x, y])) ∧ Sm K F2 κ2 (upd G2 T (.tup [x, y])) M2 (upd H2 T (.tup [x, y])) ∧ Rv K (upd G2 T (.tup [x, y])) (.ref T) (.tup [d, e]) := by
  have g := (S2.fresh hT).1
  exact ⟨Ex.new g, S2.newG _ hT, .tup (.of upd_same) (.cons (r1.mono (Ex.new g)) (.cons (r2.mono (Ex.new g)) .nil))⟩
theorem enumD_length : ∀ (k : Nat) (xs : List D), (enumD k xs).length = xs.length
  | _, [] => rfl
  | k, x :: xs => by simp [enumD, enumD_length (k + 1) xs]
theorem enumD_get : ∀ (k : Nat) (xs : List D) (i : Nat) (d : D), xs[i]? = some d → (enumD k xs)[i]? = some (.tup [.int ((k + i : Nat) : Int), d])
  | _, [], _, _, h => by simp at h
  | k, x :: xs, 0, d, h => by simp at h; subst h; simp [enumD]
  | k, x :: xs, i + 1, d, h => by
    have := enumD_get (k + 1) xs i d (by simpa using h)
    simp only [enumD, List.getElem?_cons_succ, this]
    congr 4
    omega
theorem sim_iEn {ta : TA} {a : DA} (ha : SimA K ta a) : SimI K (iEnum K ta) (iEn a) := ⟨fun {F κ G σ ρ M H xs src M' R} S E h k => by
  unfold iEn at h
  split at h
  · rename_i x M1 e
    split at h
    · rename_i ys ey
      cases h
      refine ha.run S E e fun κ1 G1 us H1 l1 S1 rs => ?_
      obtain ⟨u, rfl, r1⟩ := rxs1 rs
      obtain ⟨b, us, rfl, q, p⟩ := lv_at S1 r1 ey
      refine ⟨b, us, rfl, q, ?_⟩
      refine k κ1 G1 H1 (Ite K b) (fun H => ∃ us G, SqL K H b us ∧ Rvs K G us ys) (fun i H v H' => ∃ T x, v = .ref T ∧ H T = none ∧ H' = upd H T (.tup [.int (i : Nat), x]) ∧ ∀ us, SqL K H b us → us[i]? = some x) l1 S1 ⟨fun i H hi ⟨us, G, q, p⟩ => ?_, fun H ⟨us, G, q, p⟩ => ⟨us, q, by rw [p.length, enumD_length]; exact Nat.le_refl _⟩, fun i H x H' hi _ y => y⟩ (fun F2 κ2 G2 M2 H2 l2 S2 st => ?_) fun i F2 κ2 G2 M2 H2 x H3 hi l2 S2 st y => ?_
      · have hl : i < us.length := by rw [p.length]; rw [enumD_length] at hi; exact hi
        exact ⟨us, us[i], q, by simp [hl]⟩
      · obtain ⟨us2, q2, p2⟩ := lv_stand l2 S2 r1 ey st
        exact ⟨us2, G2, q2, p2⟩
      · obtain ⟨us2, q2, p2⟩ := lv_stand l2 S2 r1 ey st
        obtain ⟨T, w, rfl, hT, rfl, y⟩ := y
        obtain ⟨d, hd, rd⟩ := p2.get' (y us2 q2)
        obtain ⟨e1, e2, e3⟩ := pair_new S2 hT (Rv.int ((i : Nat) : Int)) rd
        refine ⟨_, _, e1, e2, enumD_get 0 ys i d hd, ?_⟩
        rw [Nat.zero_add]
        exact e3
    · cases h
  · cases h⟩
theorem zipD_length : ∀ (xs ys : List D), (zipD xs ys).length = min xs.length ys.length
  | [], _ => by simp [zipD]
  | _ :: _, [] => by simp [zipD]
  | x :: xs, y :: ys => by simp only [zipD, List.length_cons, zipD_length xs ys]; omega
theorem zipD_get : ∀ (xs ys : List D) (i : Nat) (d e : D), xs[i]? = some d → ys[i]? = some e → (zipD xs ys)[i]? = some (.tup [d, e])
  | [], _, _, _, _, h, _ => by simp at h
  | _ :: _, [], _, _, _, _, h => by simp at h
  | x :: xs, y :: ys, 0, d, e, h, h' => by simp at h h'; subst h; subst h'; simp [zipD]
  | x :: xs, y :: ys, i + 1, d, e, h, h' => by
    simp only [zipD, List.getElem?_cons_succ]
    exact zipD_get xs ys i d e (by simpa using h) (by simpa using h')
theorem sim_iZ {ta : TA} {a : DA} (ha : SimA K ta a) : SimI K (iZip K ta) (iZ a) := ⟨fun {F κ G σ ρ M H xs src M' R} S E h k => by
  unfold iZ at h
  split at h
  · rename_i x z M1 e
    split at h
    · rename_i ys zs ey ez
      cases h
      refine ha.run S E e fun κ1 G1 us H1 l1 S1 rs => ?_
      obtain ⟨u, v, rfl, r1, r2⟩ := rxs2 rs
      obtain ⟨b, us, rfl, q, p⟩ := lv_at S1 r1 ey
      obtain ⟨c, vs, rfl, q', p'⟩ := lv_at S1 r2 ez
      refine ⟨b, c, us, vs, rfl, q, q', ?_⟩
      have stL : ∀ {M2 : DSt}, stand (cellsOf x ++ cellsOf z) M' M2 → stand (cellsOf x) M' M2 := fun st n hn => st n (List.mem_append_left _ hn)
      have stR : ∀ {M2 : DSt}, stand (cellsOf x ++ cellsOf z) M' M2 → stand (cellsOf z) M' M2 := fun st n hn => st n (List.mem_append_right _ hn)
      refine k κ1 G1 H1 (Itz K b c) (fun H => ∃ us vs G, SqL K H b us ∧ SqL K H c vs ∧ Rvs K G us ys ∧ Rvs K G vs zs) (fun i H v H' => ∃ T x y, v = .ref T ∧ H T = none ∧ H' = upd H T (.tup [x, y]) ∧ (∀ us, SqL K H b us → us[i]? = some x) ∧ ∀ vs, SqL K H c vs → vs[i]? = some y) l1 S1 ⟨fun i H hi ⟨us, vs, G, q, q', p, p'⟩ => ?_, fun H ⟨us, vs, G, q, q', p, p'⟩ => ⟨us, vs, q, q', by rw [p.length, p'.length, zipD_length]; omega⟩, fun i H x H' hi _ y => y⟩ (fun F2 κ2 G2 M2 H2 l2 S2 st => ?_) fun i F2 κ2 G2 M2 H2 x H3 hi l2 S2 st y => ?_
      · rw [zipD_length] at hi
        have hl : i < us.length := by rw [p.length]; omega
        have hl' : i < vs.length := by rw [p'.length]; omega
        exact ⟨us, vs, us[i], vs[i], q, q', by simp [hl], by simp [hl']⟩
      · obtain ⟨us2, q2, p2⟩ := lv_stand l2 S2 r1 ey (stL st)
        obtain ⟨vs2, q3, p3⟩ := lv_stand l2 S2 r2 ez (stR st)
        exact ⟨us2, vs2, G2, q2, q3, p2, p3⟩
      · obtain ⟨us2, q2, p2⟩ := lv_stand l2 S2 r1 ey (stL st)
        obtain ⟨vs2, q3, p3⟩ := lv_stand l2 S2 r2 ez (stR st)
        obtain ⟨T, w, w', rfl, hT, rfl, y, y'⟩ := y
        obtain ⟨d, hd, rd⟩ := p2.get' (y us2 q2)
        obtain ⟨d', hd', rd'⟩ := p3.get' (y' vs2 q3)
        obtain ⟨e1, e2, e3⟩ := pair_new S2 hT rd rd'
        exact ⟨_, _, e1, e2, zipD_get ys zs i d d' hd hd', e3⟩
    · cases h
  · cases h⟩
/-! ### comprehensions -/
/-- the loop of a comprehension, from its reading -/
theorem compL_run {tg : Tgt} {t : DT} {el : DE} {tt : TT} {te : TE} {src : List Nat} {own : List Nat} {xs : List D} {F : Fz} {σ : L2.St} {ρ : DEnv} {κ1 : List Addr} {G1 : Hp} {M' : DSt} {H1 : Hp} {Dl : Addr} {J : It} {Gd : Hp → Prop} {Y : Nat → Hp → V → Hp → Prop} {Q : VK} {c : Bool} {z : Dv} {ys : List D} {M2 Mz : DSt}
    (ht : SimT K tt t) (he : SimE K te el) (hown : ∀ i ∈ tg.slots, i ∈ own) (E : Se K κ1 G1 σ ρ) (S1 : Sm K F κ1 G1 M' H1) (W : Walk J xs.length Gd Y)
    (hG : ∀ F2 κ2 G2 M2 H2, Le κ1 G1 κ2 G2 → Sm K F2 κ2 G2 M2 H2 → stand src M' M2 → Gd H2)
    (hY : ∀ i F2 κ2 G2 M2 H2 x H3, i < xs.length → Le κ1 G1 κ2 G2 → Sm K F2 κ2 G2 M2 H2 → stand src M' M2 → Y i H2 x H3 → ∃ G3 d, Ex G2 G3 ∧ Sm K F2 κ2 G3 M2 H3 ∧ xs[i]? = some d ∧ Rv K G3 x d)
    (hD : H1 Dl = none) (hl : compL (stand src M') (compStep tg t el (wipeD ρ own)) xs M' = some (ys, M2)) (hz : xs.length ≤ big) (hm : mkL c ys M2 = some (z, Mz)) (k : PV K F κ1 G1 Q z Mz) :
    ∃ W : Nat → Nat → Hp → Prop, (∃ m, W 0 m (upd H1 Dl (.lst []))) ∧ ∀ i m H, W i m H →
      (J.stop i H ∧ Q (.ref Dl) H) ∨ (J.go i H ∧ ∃ Nx : Hp → Prop, (∀ H', Nx H' → ∃ m', m' < m ∧ W (i + 1) m' H') ∧ ∀ x H', J.yld i H x H' → tg.tg K x (L2.wipe σ own) H' fun σ2 H2 => L2.wipe σ2 own = L2.wipe σ own ∧ tt σ2 H2 fun b H3 =>
        if b = true then te σ2 H3 fun y H4 => ∃ acc, H4 Dl = some (.lst acc) ∧ acc.length < sizeLine ∧ Nx (upd H4 Dl (.lst (acc ++ [y]))) else Nx H3) := by
  have f0 := S1.fresh hD
  refine lc_it W (fun i H => ∃ κ2 G2 M3 acc as zs, Le κ1 G1 κ2 G2 ∧ Sm K (F.up Dl (.lst acc)) κ2 G2 M3 H ∧ Rvs K G2 acc as ∧ acc.length ≤ i ∧ i ≤ xs.length ∧ compL (stand src M') (compStep tg t el (wipeD ρ own)) (xs.drop i) M3 = some (zs, M2) ∧ ys = as ++ zs) ?_ ?_ ?_ ?_
  · exact ⟨κ1, G1, M', [], [], ys, Le.refl _ _, S1.frame hD [], .nil, Nat.zero_le _, Nat.zero_le _, hl, rfl⟩
  · rintro i H hi ⟨κ2, G2, M3, acc, as, zs, l2, S2, ra, la, _, h2, e2⟩
    refine hG _ κ2 G2 M3 H l2 S2 ?_
    cases hx : xs.drop i with
    | nil => rw [hx] at h2; unfold compL at h2; exact (grd_some h2).1
    | cons y r => rw [hx] at h2; unfold compL at h2; exact (grd_some h2).1
  · rintro i x H H' hi ⟨κ2, G2, M3, acc, as, zs, l2, S2, ra, la, _, h2, e2⟩ hy
    have hx : xs.drop i = xs[i] :: xs.drop (i + 1) := List.drop_eq_getElem_cons hi
    rw [hx] at h2
    unfold compL at h2
    obtain ⟨st, h2⟩ := grd_some h2
    obtain ⟨G3, d, x3, S3, ed, rd⟩ := hY i _ κ2 G2 M3 H x H' hi l2 S2 st hy
    have ed2 : xs[i] = d := by
      rw [List.getElem?_eq_getElem hi] at ed
      exact Option.some.inj ed
    rw [ed2] at h2
    have l3 : Le κ1 G1 κ2 G3 := l2.trans ⟨List.prefix_refl _, x3⟩
    cases es : compStep tg t el (wipeD ρ own) d M3 with
    | none => simp only [es] at h2; cases h2
    | some q =>
      obtain ⟨o, M5⟩ := q
      simp only [es] at h2
      cases ec : compL (stand src M') (compStep tg t el (wipeD ρ own)) (xs.drop (i + 1)) M5 with
      | none => simp only [ec] at h2; cases h2
      | some q =>
        obtain ⟨zs', M6⟩ := q
        simp only [ec] at h2
        unfold compStep at es
        cases ep : tg.put (.d d) (wipeD ρ own) with
        | none => simp only [ep] at es; cases es
        | some ρ1 =>
          simp only [ep] at es
          refine put_ok S3 tg (x := .d d) rd ((E.mono l3).wipe2 own) ep fun σ2 E2 w2 => ⟨?_, ?_⟩
          · rw [w2 own hown]
            apply List.ext_getElem?
            intro j
            rw [wipe_get, wipe_get, wipe_length_ite]
          · cases et : t ρ1 M3 with
            | none => simp only [et] at es; cases es
            | some p =>
              obtain ⟨b, M4⟩ := p
              simp only [et] at es
              refine ht.run S3 E2 et fun κ4 G4 H4 l4 S4 => ?_
              cases b with
              | false =>
                simp only at es
                cases es
                cases h2
                rw [if_neg Bool.false_ne_true]
                exact ⟨κ4, G4, _, acc, as, _, l3.trans l4, S4, (ra.mono x3).mono l4.ex, by omega, by omega, ec, e2⟩
              | true =>
                simp only at es
                rw [if_pos rfl]
                cases ee : el ρ1 M4 with
                | none => simp only [ee] at es; cases es
                | some q =>
                  obtain ⟨v, M7⟩ := q
                  simp only [ee] at es
                  cases v with
                  | c n => simp only at es; cases es
                  | r n => simp only at es; cases es
                  | o _ _ _ => simp only at es; cases es
                  | k _ _ => simp only at es; cases es
                  | d y =>
                    simp only at es
                    cases es
                    cases h2
                    refine he.run S4 (E2.mono l4) ee fun κ5 G5 u H5 l5 S5 r5 => ?_
                    have ra5 : Rvs K G5 acc as := ((ra.mono x3).mono l4.ex).mono l5.ex
                    refine ⟨acc, S5.fx Dl _ upd_same, sz_big1 (by omega), κ5, G5, _, acc ++ [u], as ++ [y], zs', (l3.trans l4).trans l5, S5.grow _, ra5.append (.cons r5 .nil), by simp; omega, by omega, ec, ?_⟩
                    rw [e2]
                    simp
  · rintro H ⟨κ2, G2, M3, acc, as, zs, l2, S2, ra, la, _, h2, e2⟩
    rw [List.drop_length] at h2
    unfold compL at h2
    obtain ⟨st, h2⟩ := grd_some h2
    cases h2
    rw [List.append_nil] at e2
    subst e2
    obtain ⟨κ', G', l', S', r'⟩ := S2.made f0.2.1 ra hm
    exact k κ' G' _ _ (l2.trans l') S' r'
theorem sim_lc {c : Bool} {wi : TI} {it : DI} {tg : Tgt} {tt : TT} {t : DT} {te : TE} {el : DE} {own : List Nat} (hi : SimI K wi it) (ht : SimT K tt t) (he : SimE K te el) (hown : ∀ i ∈ tg.slots, i ∈ own) : SimE K (tLc wi (tg.tg K) tt te own) (eComp c it tg t el own) := ⟨fun {F κ G σ ρ M H Q z Mz} S E h k => by
  unfold eComp at h
  split at h
  · rename_i xs src M' e
    obtain ⟨hz, h⟩ := grd_some h
    split at h
    · rename_i ys M2 hl
      refine hi.run S E e fun κ1 G1 H1 J Gd Y l1 S1 W hG hY => fun Dl hD => ?_
      exact compL_run ht he hown (E.mono l1) S1 W hG hY hD hl hz h (k.weak l1)
    · cases h
  · cases h⟩
end
end Rw
end PRwSimS
section PRwSimD
set_option Elab.async false
set_option linter.all false
set_option maxRecDepth 100000
set_option maxHeartbeats 2000000
namespace Rw
open PySem L2 PySem.Spec PyProof.Rows
open Evl (Ex)
/-- behind a statement -/
def PO' (K : PySem.W.Frag) (F : Fz) (κ : List Addr) (G : Hp) (D : Ends) : Out → Prop
  | .nx ρ M => ∀ κ' G' σ' H', Le κ G κ' G' → Sm K F κ' G' M H' → Se K κ' G' σ' ρ → D.nx σ' H'
  | .rt v M => ∀ κ' G' u H', Le κ G κ' G' → Sm K F κ' G' M H' → Rx K κ' G' u v → D.rt u H'
  | .bk ρ M => ∀ κ' G' σ' H', Le κ G κ' G' → Sm K F κ' G' M H' → Se K κ' G' σ' ρ → D.bk σ' H'
  | .ct ρ M => ∀ κ' G' σ' H', Le κ G κ' G' → Sm K F κ' G' M H' → Se K κ' G' σ' ρ → D.ct σ' H'
structure SimS (K : PySem.W.Frag) (t : TS) (s : DS) : Prop where
  run : ∀ {F κ G σ ρ M H D o}, Sm K F κ G M H → Se K κ G σ ρ → s ρ M = some o → PO' K F κ G D o → t D σ H
section
variable {K : PySem.W.Frag}
theorem PO'.weak {F : Fz} {κ κ1 : List Addr} {G G1 : Hp} {D : Ends} {o : Out} (l : Le κ G κ1 G1) (k : PO' K F κ G D o) : PO' K F κ1 G1 D o := by
  cases o <;> exact fun κ' G' u H' l' S r => k κ' G' u H' (l.trans l') S r
theorem ss_pass : SimS K tNext dPass := ⟨fun {F κ G σ ρ M H D o} S E h k => by
  cases h
  exact k κ G σ H (Le.refl _ _) S E⟩
theorem ss_seq {t u : TS} {a b : DS} (ha : SimS K t a) (hb : SimS K u b) : SimS K (tSeq t u) (dSeq a b) := ⟨fun {F κ G σ ρ M H D o} S E h k => by
  unfold dSeq at h
  split at h
  · rename_i ρ1 M1 e
    exact ha.run (D := { D with nx := u D }) S E e fun κ1 G1 σ1 H1 l1 S1 E1 => hb.run S1 E1 h (k.weak l1)
  · rename_i q e
    refine ha.run (D := { D with nx := u D }) S E h ?_
    cases o with
    | nx ρ1 M1 => exact absurd h (e ρ1 M1)
    | rt v M1 => exact k
    | bk ρ1 M1 => exact k
    | ct ρ1 M1 => exact k⟩
theorem ss_asg {te : TE} {a : DE} {tg : Tgt} (ha : SimE K te a) : SimS K (tAsg te (tg.tg K)) (dAsg tg a) := ⟨fun {F κ G σ ρ M H D o} S E h k => by
  unfold dAsg at h
  split at h
  · rename_i v M1 e
    split at h
    · rename_i ρ1 e2
      cases h
      exact ha.run S E e fun κ1 G1 u H1 l1 S1 r1 => put_ok S1 tg r1 (E.mono l1) e2 fun σ2 E2 _ => k κ1 G1 σ2 H1 l1 S1 E2
    · cases h
  · cases h⟩
theorem ss_par {ta tb : TE} {a b : DE} {i j : Nat} (ha : SimE K ta a) (hb : SimE K tb b) : SimS K (tPar i j (tCons ta (tCons tb tNil))) (dPar i j a b) := ⟨fun {F κ G σ ρ M H D o} S E h k => by
  unfold dPar at h
  split at h
  · rename_i x M1 e
    split at h
    · rename_i y M2 e2
      cases h
      refine ha.run S E e fun κ1 G1 u H1 l1 S1 r1 => hb.run S1 (E.mono l1) e2 fun κ2 G2 v H2 l2 S2 r2 => ⟨u, v, rfl, ?_⟩
      exact k κ2 G2 _ H2 (l1.trans l2) S2 ((((E.mono l1).mono l2).set (r1.mono l2) i).set r2 j)
    · cases h
  · cases h⟩
/-- in place -/
def SimIp (K : PySem.W.Frag) (r : TIp) (f : O2) : Prop := ∀ {F κ G M H Q x y z M' u v}, Sm K F κ G M H → Rx K κ G u x → Rx K κ G v y → f x y M = some (z, M') → PV K F κ G Q z M' → r u v H Q
theorem ip_addI : SimIp K (ipI fun i j => i + j) (oI fun i j => .int (i + j)) := fun {F κ G M H Q x y z M' u v} S rx ry h k => by
  unfold oI at h
  split at h
  · cases h
    exact ⟨_, _, rx_int rx, rx_int ry, k.here S (Rv.int _)⟩
  · cases h
theorem ip_subI : SimIp K (ipI fun i j => i - j) (oI fun i j => .int (i - j)) := fun {F κ G M H Q x y z M' u v} S rx ry h k => by
  unfold oI at h
  split at h
  · cases h
    exact ⟨_, _, rx_int rx, rx_int ry, k.here S (Rv.int _)⟩
  · cases h
theorem ss_aug {te : TE} {a : DE} {i : Nat} {r : TIp} {f : O2} (hr : SimIp K r f) (ha : SimE K te a) : SimS K (tAug i te r) (dAug i f a) := ⟨fun {F κ G σ ρ M H D o} S E h k => by
  unfold dAug at h
  split at h
  · rename_i x ex
    split at h
    · rename_i y M1 e
      split at h
      · rename_i z M2 e2
        cases h
        obtain ⟨u, hu, ru⟩ := E.at_ i x ex
        refine ⟨u, hu, ha.run S E e fun κ1 G1 v H1 l1 S1 r1 => hr S1 (ru.mono l1) r1 e2 fun κ2 G2 w H2 l2 S2 r2 => ?_⟩
        exact k κ2 G2 _ H2 (l1.trans l2) S2 (((E.mono l1).mono l2).set r2 i)
      · cases h
    · cases h
  · cases h⟩
theorem ss_put {to ti te : TE} {o i e : DE} (ho : SimE K to o) (hi : SimE K ti i) (he : SimE K te e) : SimS K (tAsg te (gSub to ti rSetL)) (dPut o i e) := ⟨fun {F κ G σ ρ M H D oo} S E h k => by
  unfold dPut at h
  split at h
  · rename_i x M1 e1
    split at h
    · rename_i n M2 e2
      split at h
      · rename_i kk M3 e3
        split at h
        · rename_i xs ex
          split at h
          · rename_i j ej
            cases h
            refine he.run S E e1 fun κ1 G1 u H1 l1 S1 r1 => ho.run S1 (E.mono l1) e2 fun κ2 G2 v H2 l2 S2 r2 => hi.run S2 ((E.mono l1).mono l2) e3 fun κ3 G3 w H3 l3 S3 r3 => ?_
            obtain ⟨a, rfl, ha⟩ := r2.mono l3
            obtain ⟨us, _, _, q3, q4⟩ := cell_at S3 ex ha
            refine ⟨a, us, kk, j, rfl, rx_int r3, q3, by rw [q4.length, ← ixD_eq]; exact ej, ?_⟩
            exact k κ3 G3 σ _ ((l1.trans l2).trans l3) (S3.put ex ha (q4.set ((Rv.mono l2.ex r1).mono l3.ex) j)) (((E.mono l1).mono l2).mono l3)
          · cases h
        · cases h
      · cases h
    · cases h
  · cases h⟩
theorem ss_expr {te : TE} {a : DE} (ha : SimE K te a) : SimS K (tDrop te) (dExpr a) := ⟨fun {F κ G σ ρ M H D o} S E h k => by
  unfold dExpr at h
  split at h
  · rename_i v M1 e
    cases h
    exact ha.run S E e fun κ1 G1 u H1 l1 S1 r1 => k κ1 G1 σ H1 l1 S1 (E.mono l1)
  · cases h⟩
theorem ss_ret {te : TE} {a : DE} (ha : SimE K te a) : SimS K (tRet te) (dRet a) := ⟨fun {F κ G σ ρ M H D o} S E h k => by
  unfold dRet at h
  split at h
  · rename_i v M1 e
    cases h
    exact ha.run S E e k
  · cases h⟩
theorem ss_retN : SimS K tRetN dRetN := ⟨fun {F κ G σ ρ M H D o} S E h k => by
  cases h
  exact k κ G _ H (Le.refl _ _) S Rv.non⟩
theorem ss_if {tc : TT} {c : DT} {t u : TS} {a b : DS} (hc : SimT K tc c) (ha : SimS K t a) (hb : SimS K u b) : SimS K (tIfS tc t u) (dIf c a b) := ⟨fun {F κ G σ ρ M H D o} S E h k => by
  unfold dIf at h
  split at h
  · rename_i M1 e
    refine hc.run S E e fun κ1 G1 H1 l1 S1 => ?_
    show (if true = true then _ else _)
    rw [if_pos rfl]
    exact ha.run S1 (E.mono l1) h (k.weak l1)
  · rename_i M1 e
    refine hc.run S E e fun κ1 G1 H1 l1 S1 => ?_
    show (if false = true then _ else _)
    rw [if_neg Bool.false_ne_true]
    exact hb.run S1 (E.mono l1) h (k.weak l1)
  · cases h⟩
theorem ss_break : SimS K tBreak dBreak := ⟨fun {F κ G σ ρ M H D o} S E h k => by
  cases h
  exact k κ G σ H (Le.refl _ _) S E⟩
theorem ss_cont : SimS K tCont dCont := ⟨fun {F κ G σ ρ M H D o} S E h k => by
  cases h
  exact k κ G σ H (Le.refl _ _) S E⟩
theorem ss_never : SimS K tNever dNever := ⟨fun {F κ G σ ρ M H D o} S E h k => by cases h⟩
/-- slots forgotten -/
theorem ss_wipe {t : TS} {a : DS} (vs : List Nat) (ha : SimS K t a) : SimS K t (dWipe vs a) := ⟨fun {F κ G σ ρ M H D o} S E h k => by
  unfold dWipe at h
  split at h
  · rename_i q e
    cases h
    refine ha.run S E e ?_
    cases q with
    | nx ρ1 M1 => exact fun κ' G' σ' H' l S' E' => k κ' G' σ' H' l S' (E'.wipe vs)
    | bk ρ1 M1 => exact fun κ' G' σ' H' l S' E' => k κ' G' σ' H' l S' (E'.wipe vs)
    | ct ρ1 M1 => exact fun κ' G' σ' H' l S' E' => k κ' G' σ' H' l S' (E'.wipe vs)
    | rt v M1 => exact k
  · cases h⟩
theorem ss_for {wi : TI} {it : DI} {tg : Tgt} {tb : TS} {s : DS} (hi : SimI K wi it) (hs : SimS K tb s) : SimS K (tFor wi (tg.tg K) tb) (dFor it tg s) := ⟨fun {F κ G σ ρ M H D o} S E h k => by
  unfold dFor at h
  split at h
  · rename_i xs src M' e
    refine hi.run S E e fun κ1 G1 H1 J Gd Y l1 S1 W hG hY => ?_
    refine for_it W (fun i σ H => ∃ κ2 G2 ρ2 M3, Le κ1 G1 κ2 G2 ∧ Sm K F κ2 G2 M3 H ∧ Se K κ2 G2 σ ρ2 ∧ i ≤ xs.length ∧ forL (stand src M') (forStep tg s) (xs.drop i) ρ2 M3 = some o) ?_ ?_ ?_ ?_
    · exact ⟨κ1, G1, ρ, M', Le.refl _ _, S1, E.mono l1, Nat.zero_le _, h⟩
    · rintro i σ H hi ⟨κ2, G2, ρ2, M3, l2, S2, E2, _, h2⟩
      refine hG F κ2 G2 M3 H l2 S2 ?_
      cases hx : xs.drop i with
      | nil => rw [hx] at h2; unfold forL at h2; exact (grd_some h2).1
      | cons y r => rw [hx] at h2; unfold forL at h2; exact (grd_some h2).1
    · rintro i x σ H H' hi ⟨κ2, G2, ρ2, M3, l2, S2, E2, _, h2⟩ hy
      have hx : xs.drop i = xs[i] :: xs.drop (i + 1) := List.drop_eq_getElem_cons hi
      rw [hx] at h2
      unfold forL at h2
      obtain ⟨st, h2⟩ := grd_some h2
      obtain ⟨G3, d, x3, S3, ed, rd⟩ := hY i F κ2 G2 M3 H x H' hi l2 S2 st hy
      have ed2 : xs[i] = d := by
        rw [List.getElem?_eq_getElem hi] at ed
        exact Option.some.inj ed
      rw [ed2] at h2
      have l3 : Le κ1 G1 κ2 G3 := l2.trans ⟨List.prefix_refl _, x3⟩
      cases es : forStep tg s d ρ2 M3 with
      | none => simp only [es] at h2; cases h2
      | some q =>
        simp only [es] at h2
        unfold forStep at es
        cases ep : tg.put (.d d) ρ2 with
        | none => simp only [ep] at es; cases es
        | some ρ1 =>
          simp only [ep] at es
          refine put_ok S3 tg (x := .d d) rd (E2.mono ⟨List.prefix_refl _, x3⟩) ep fun σ2 E3 _ => hs.run S3 E3 es ?_
          cases q with
          | nx ρ4 M4 => exact fun κ' G' σ' H' l S' E' => ⟨κ', G', ρ4, M4, l3.trans l, S', E', by omega, h2⟩
          | ct ρ4 M4 => exact fun κ' G' σ' H' l S' E' => ⟨κ', G', ρ4, M4, l3.trans l, S', E', by omega, h2⟩
          | bk ρ4 M4 =>
            cases h2
            exact fun κ' G' σ' H' l S' E' => k κ' G' σ' H' ((l1.trans l3).trans l) S' E'
          | rt v M4 =>
            cases h2
            exact fun κ' G' u H' l S' r => k κ' G' u H' ((l1.trans l3).trans l) S' r
    · rintro σ H ⟨κ2, G2, ρ2, M3, l2, S2, E2, _, h2⟩
      rw [List.drop_length] at h2
      unfold forL at h2
      obtain ⟨st, h2⟩ := grd_some h2
      cases h2
      exact k κ2 G2 σ H (l1.trans l2) S2 E2
  · cases h⟩
theorem ss_while {tc : TT} {c : DT} {tb : TS} {s : DS} (hc : SimT K tc c) (hs : SimS K tb s) : SimS K (tWhile tc tb) (dWhile c s) := ⟨fun {F κ G σ ρ M H D o} S E h k => by
  obtain ⟨n, hn⟩ := dWhile_some h
  refine ⟨fun m σ H => ∃ κ2 G2 ρ2 M2, Le κ G κ2 G2 ∧ Sm K F κ2 G2 M2 H ∧ Se K κ2 G2 σ ρ2 ∧ whileL c s m ρ2 M2 = some o, ⟨n, κ, G, ρ, M, Le.refl _ _, S, E, hn⟩, ?_⟩
  rintro m σ H ⟨κ2, G2, ρ2, M2, l2, S2, E2, h2⟩
  cases m with
  | zero => cases h2
  | succ m =>
    unfold whileL at h2
    cases ec : c ρ2 M2 with
    | none => simp only [ec] at h2; cases h2
    | some p =>
      obtain ⟨b, M3⟩ := p
      simp only [ec] at h2
      refine hc.run S2 E2 ec fun κ3 G3 H3 l3 S3 => ?_
      cases b with
      | false =>
        rw [if_neg Bool.false_ne_true]
        simp only at h2
        cases h2
        exact k κ3 G3 σ H3 (l2.trans l3) S3 (E2.mono l3)
      | true =>
        rw [if_pos rfl]
        simp only at h2
        cases es : s ρ2 M3 with
        | none => simp only [es] at h2; cases h2
        | some q =>
          simp only [es] at h2
          refine ⟨fun σ' H' => ∃ κ4 G4 ρ4 M4, Le κ G κ4 G4 ∧ Sm K F κ4 G4 M4 H' ∧ Se K κ4 G4 σ' ρ4 ∧ whileL c s m ρ4 M4 = some o, fun σ' H' w => ⟨m, Nat.lt_succ_self _, w⟩, hs.run S3 (E2.mono l3) es ?_⟩
          cases q with
          | nx ρ4 M4 => exact fun κ' G' σ' H' l S' E' => ⟨κ', G', ρ4, M4, (l2.trans l3).trans l, S', E', h2⟩
          | ct ρ4 M4 => exact fun κ' G' σ' H' l S' E' => ⟨κ', G', ρ4, M4, (l2.trans l3).trans l, S', E', h2⟩
          | bk ρ4 M4 =>
            cases h2
            exact fun κ' G' σ' H' l S' E' => k κ' G' σ' H' ((l2.trans l3).trans l) S' E'
          | rt v M4 =>
            cases h2
            exact fun κ' G' u H' l S' r => k κ' G' u H' ((l2.trans l3).trans l) S' r⟩

/-! ### defs -/
/-- a def's promise: it does as f -/
def spD (K : PySem.W.Frag) (f : DF) (n : Nat) : Sp := fun vs H Q _ => ∃ F κ G M as v M', Sm K F κ G M H ∧ Rxs K κ G vs as ∧ as.length = n ∧ f as M = some (v, M') ∧ PV K F κ G Q v M'
theorem sim_call {f : DF} {n : Nat} {t : TA} {as : DA} {E : XK} (ha : SimA K t as) (hn : ∀ ρ M vs M', as ρ M = some (vs, M') → vs.length = n) : SimE K (tCall (spD K f n) [] E t) (eCall f as) := ⟨fun {F κ G σ ρ M H Q z M'} S E h k => by
  unfold eCall eA at h
  split at h
  · rename_i xs M1 e
    refine ha.run S E e fun κ1 G1 us H1 l1 S1 r1 => ?_
    rw [List.append_nil]
    exact ⟨F, κ1, G1, M1, xs, z, M', S1, r1, hn _ _ _ _ e, h, k.weak l1⟩
  · cases h⟩
theorem al_nil : ∀ ρ M vs M', aNil ρ M = some (vs, M') → vs.length = 0 := fun ρ M vs M' h => by cases h; rfl
theorem al_cons {a : DE} {as : DA} {n : Nat} (h : ∀ ρ M vs M', as ρ M = some (vs, M') → vs.length = n) : ∀ ρ M vs M', aCons a as ρ M = some (vs, M') → vs.length = n + 1 := fun ρ M vs M' e => by
  unfold aCons at e
  split at e
  · split at e
    · rename_i xs M2 e2
      cases e
      simp [h _ _ _ _ e2]
    · cases e
  · cases e
theorem start_se {κ : List Addr} {G : Hp} {N : List Str} : ∀ {vs : List V} {as : List Dv}, Rxs K κ G vs as → Se K κ G (start N vs) (startD N.length as) := fun {vs as} r => by
  refine ⟨by simp [L2.start, startD, r.length], fun i x e => ?_⟩
  unfold startD at e
  by_cases hi : i < as.length
  · rw [List.getElem?_append_left (by simpa using hi)] at e
    rw [List.getElem?_map] at e
    cases ea : as[i]? with
    | none => rw [ea] at e; cases e
    | some y =>
      rw [ea] at e
      cases e
      have : ∀ {vs : List V} {as : List Dv} {i : Nat} {y : Dv}, Rxs K κ G vs as → as[i]? = some y → ∃ v, vs[i]? = some v ∧ Rx K κ G v y := by
        intro vs as i y r h
        induction r generalizing i with
        | nil => simp at h
        | cons a r ih =>
          cases i with
          | zero => simp at h; subst h; exact ⟨_, rfl, a⟩
          | succ i =>
            obtain ⟨v, h1, h2⟩ := ih (i := i) (by simpa using h)
            exact ⟨v, by simpa using h1, h2⟩
      obtain ⟨v, hv, rv⟩ := this r ea
      refine ⟨v, ?_, rv⟩
      unfold L2.start
      rw [List.getElem?_append_left (by simpa [r.length] using hi), List.getElem?_map, hv]
      rfl
  · rw [List.getElem?_append_right (by simpa using hi), List.getElem?_replicate] at e
    split at e <;> cases e
/-- behind a def -/
theorem fin_ok {F : Fz} {κ κ' : List Addr} {G G' : Hp} {M M1 M' : DSt} {H' : Hp} {Q : VK} {v z : Dv} {u : V} (hl : κ.length = M.length) (l : Le κ G κ' G') (S : Sm K F κ' G' M1 H') (r : Rx K κ' G' u v) (h : fin M.length v M1 = some (z, M')) (k : PV K F κ G Q z M') : Q u H' := by
  have e4 : κ'.take M.length = κ := by
    obtain ⟨t, rfl⟩ := l.pre
    rw [← hl, List.take_left]
  have S2 := S.take M.length
  rw [e4] at S2
  have l2 : Le κ G κ G' := ⟨List.prefix_refl _, l.ex⟩
  unfold fin at h
  split at h
  · rename_i n
    obtain ⟨a, rfl, ha⟩ := r
    split at h
    · rename_i hn
      cases h
      refine k κ G' _ H' l2 S2 ⟨a, rfl, ?_⟩
      rw [← e4, List.getElem?_take, if_pos hn]
      exact ha
    · rename_i hn
      split at h
      · rename_i xs ex
        cases h
        obtain ⟨us, q1, q2, q3, q4⟩ := cell_at S ex ha
        have na : a ∉ κ := fun hm => by
          obtain ⟨j, hj, ej⟩ := List.getElem_of_mem hm
          obtain ⟨l1, g1⟩ := List.getElem?_eq_some_iff.mp ha
          have h2 : κ'[j]? = some a := l.at_ (by rw [List.getElem?_eq_getElem hj, ej])
          obtain ⟨l3, g3⟩ := List.getElem?_eq_some_iff.mp h2
          have := (List.getElem_inj S.nd).mp (g1.trans g3.symm)
          omega
        refine k (κ ++ [a]) G' _ H' ⟨List.prefix_append _ _, l.ex⟩ (S2.cell na q1 q2 (S.zn ex ha) q3 fun es e => by cases e; exact q4) ⟨a, rfl, last_at hl⟩
      · cases h
  · cases h
  · cases h
  · rename_i hnc hno hnk
    cases h
    refine k κ G' u H' l2 S2 ?_
    cases v with
    | d x => exact r
    | c n => exact absurd rfl (hnc n)
    | r xs => exact r
    | o c ns gs => exact absurd rfl (hno c ns gs)
    | k b T => exact absurd rfl (hnk b T)

/-! ### the judgements over syntax -/
structure PD (X : Cx) (e : Expr) (d : DE) : Prop where
  ex : ∃ t, PE X e t ∧ SimE X.K t d
structure PDT (X : Cx) (e : Expr) (d : DT) : Prop where
  ex : ∃ t, PT X e t ∧ SimT X.K t d
structure PDW (X : Cx) (e : Expr) (d : DT) : Prop where
  ex : ∃ t, PW X e t ∧ SimT X.K t d
structure PDA (X : Cx) (es : List Expr) (d : DA) (n : Nat) : Prop where
  ex : ∃ t, PA X es t ∧ SimA X.K t d
  len : ∀ ρ M vs M', d ρ M = some (vs, M') → vs.length = n
structure PDI (X : Cx) (tg it : Expr) (d : DI) : Prop where
  ex : ∃ t, PI X tg it t ∧ SimI X.K t d
structure PDS (X : Cx) (s : Stmt) (d : DS) : Prop where
  ex : ∃ t, PS X s t ∧ SimS X.K t d
structure PDB (X : Cx) (s : List Stmt) (d : DS) : Prop where
  ex : ∃ t, PSs X s t ∧ SimS X.K t d
structure PDG (X : Cx) (e : Expr) (t : Tgt) : Prop where
  ex : PG X e (t.tg X.K)
structure PDGs (X : Cx) (es : List Expr) (ts : List Tgt) : Prop where
  ex : PGs X es (Tgt.tgs X.K ts)
structure PDO (X : Cx) (e : Option Expr) (d : DO) : Prop where
  ex : ∃ t, PO X e t ∧ SimO X.K t d
end
/-- THE RULE for a def that raises nothing -/
theorem fn_ok {P : Program} {w : World} {K : PySem.W.Frag} {mg : Str → Option Value} {base : Heap} {x qual : Str} {st : Stmt} {f : Addr} {fd : FuncData} {N ps : List Str} {k : Nat} {ds : DS} (F : Fun K x qual st f fd) (S : FnScope N ps (defScope st))
    (hb : ∀ (cdv : Value) (A : Around) (outer : List Env) (s : Shared) (H : Hp) (E : XK), Room k (A.deeper (envOfC qual (defScope st) s.heap.objs.size f cdv)) → PDB (cxOf CX0 P w K mg base N qual (defScope st) f cdv A outer s H E).nox (defBody st) ds) :
    FnOk P w K mg base CX0 (k + 1) f fd ps (spD K (fnD N.length ds) ps.length) := by
  refine F.ok S (fun vs H Q E h => ?_) (fun cdv A outer s H vs Q E hr h => ?_)
  · obtain ⟨F', κ, G, M, as, v, M', _, r, hl, _⟩ := h
    rw [r.length, hl]
  · obtain ⟨F', κ, G, M, as, v, M', S0, r, hl, hf, k0⟩ := h
    obtain ⟨t, ht, hs⟩ := (hb cdv A outer s H E hr).ex
    refine ⟨t, ht, ?_⟩
    unfold fnD at hf
    split at hf
    · rename_i v1 M1 e
      exact hs.run S0 (start_se r) e fun κ' G' u H' l S' r' => fin_ok S0.len l S' r' hf k0
    · rename_i ρ1 M1 e
      exact hs.run S0 (start_se r) e fun κ' G' σ' H' l S' E' => fin_ok S0.len l S' (show Rx K κ' G' V.non (.d .non) from Rv.non) hf k0
    · cases hf
end Rw
end PRwSimD
section PRwRules
set_option Elab.async false
set_option linter.all false
set_option maxRecDepth 100000
set_option maxHeartbeats 2000000
/-! RwRules: one rule a construct: syntax to the pure reading. -/
namespace Rw
open PySem L2 PySem.Spec PyProof.Rows
section
variable {X : Cx} {a b c e : Expr} {pos : Pos} {da db dc de : DE} {ta tb : DT}
/-! ### expressions -/
theorem d_var (i : Nat) {x : Str} (hN : X.N[i]? = some x := by rfl) (hv : Vis X.env.scope x := by first | exact Or.inl rfl | exact Or.inr (Or.inl rfl) | exact Or.inr (Or.inr rfl)) (hd : (x == ("__debug__" : Str)) = false := by decide)
    (hcd : (x == ("__classdict__" : Str)) = false := by decide) : PD X (.Name x pos) (eVar i) := ⟨_, pe_var hN hv hd hcd, sim_var i⟩
theorem d_int {i : Int} {j} : PD X (.Constant (.int i) j pos) (eC (.int i)) := ⟨_, pe_int, sim_c fun _ => .int i⟩
theorem d_bl {b : Bool} {j} : PD X (.Constant (.bool b) j pos) (eC (.bl b)) := ⟨_, pe_bl, sim_c fun _ => .bl b⟩
theorem d_non {j} : PD X (.Constant .none j pos) (eC .non) := ⟨_, pe_non, sim_c fun _ => .non⟩
theorem d_str {x : Str} {j} : PD X (.Constant (.str x) j pos) (eC (.str x)) := ⟨_, pe_str, sim_c fun _ => .str x⟩
/-- a module's constant -/
theorem d_glob {x : Str} {v : V} {d : D} {u : Value} (hg : Gl X x) (hm : X.mg x = some u) (r : RelV v u) (hd : ∀ G, Rv X.K G v d) (hx : (x == ("__debug__" : Str)) = false := by decide) : PD X (.Name x pos) (eC d) := ⟨_, pe_glob hg hm r hx, sim_c hd⟩
/-- a built-in class as a value -/
theorem d_ty {x : Str} {n : String} (hg : Gl X x) (hm : X.mg x = none) (hv : bootBuiltins x = some (.type n)) (hn : x ≠ "__name__" := by decide) (hd : (x == ("__debug__" : Str)) = false := by decide) (hT : n ∈ tyNs := by decide) : PD X (.Name x pos) (eC (.ty n)) := ⟨_, pe_bltn (v := .ty n) hg hm hv rfl hn hd, sim_c fun _ => .ty n hT⟩
theorem d_op {op : Operator} {r : R2} {f : O2} (ho : OpR X (binaryOp op) r) (hs : SimR2 X.K r f) (ha : PD X a da) (hb : PD X b db) : PD X (.BinOp a op b pos) (e2 f da db) := by
  obtain ⟨t, h1, h2⟩ := ha.ex
  obtain ⟨u, h3, h4⟩ := hb.ex
  exact ⟨_, pe_op ho h1 h3, sim_op hs h2 h4⟩
theorem d_add (c : Bool) (ha : PD X a da) (hb : PD X b db) : PD X (.BinOp a .Add b pos) (e2 (oAdd c) da db) := d_op op_add3 (sr_add c) ha hb
theorem d_sub (ha : PD X a da) (hb : PD X b db) : PD X (.BinOp a .Sub b pos) (e2 oSub da db) := d_op op_sub sr_sub ha hb
theorem d_mul (ha : PD X a da) (hb : PD X b db) : PD X (.BinOp a .Mult b pos) (e2 oMul da db) := d_op op_mulR sr_mul ha hb
theorem d_rep (c : Bool) (ha : PD X a da) (hb : PD X b db) : PD X (.BinOp a .Mult b pos) (e2 (oRep c) da db) := d_op op_rep (sr_rep c) ha hb
theorem d_div (ha : PD X a da) (hb : PD X b db) : PD X (.BinOp a .FloorDiv b pos) (e2 oDiv da db) := d_op op_fdivR sr_div ha hb
theorem d_mod (ha : PD X a da) (hb : PD X b db) : PD X (.BinOp a .Mod b pos) (e2 oMod da db) := d_op op_modN sr_mod ha hb
theorem d_pow (ha : PD X a da) (hb : PD X b db) : PD X (.BinOp a .Pow b pos) (e2 oPow da db) := d_op op_pow sr_pow ha hb
theorem d_neg (ha : PD X a da) : PD X (.UnaryOp .USub a pos) (e1 oNeg da) := by
  obtain ⟨t, h1, h2⟩ := ha.ex
  exact ⟨_, pe_un un_neg h1, sim_un sr_neg h2⟩
/-! comparisons -/
structure CmpR (X : Cx) (op : CmpOp) (f : O2) : Prop where
  ex : ∃ r, OpR X (compareOp op) r ∧ SimR2 X.K r f
theorem k_lt : CmpR X .Lt oLt := ⟨_, op_lt, sr_lt⟩
theorem k_le : CmpR X .LtE oLe := ⟨_, op_le, sr_le⟩
theorem k_gt : CmpR X .Gt oGt := ⟨_, op_gt, sr_gt⟩
theorem k_ge : CmpR X .GtE oGe := ⟨_, op_ge, sr_ge⟩
theorem k_eq {k : Nat} (hr : Room k X.A) : CmpR X .Eq oEq := ⟨_, op_eqD hr.units, sr_eq⟩
theorem k_ne {k : Nat} (hr : Room k X.A) : CmpR X .NotEq oNe := ⟨_, op_neD hr.units, sr_ne⟩
theorem k_in : CmpR X .In (oIn false) := ⟨_, op_in_seq, sr_in false⟩
theorem k_notin : CmpR X .NotIn (oIn true) := ⟨_, op_notIn_seq, sr_in true⟩
theorem d_cmp {op : CmpOp} {f : O2} (hc : CmpR X op f) (ha : PD X a da) (hb : PD X b db) (hm : behindInMarks op b = false := by first | exact nomark _ (by decide) (by decide) | rfl) : PD X (.Compare a [op] [b] pos) (e2 f da db) := by
  obtain ⟨r, h0, h9⟩ := hc.ex
  obtain ⟨t, h1, h2⟩ := ha.ex
  obtain ⟨u, h3, h4⟩ := hb.ex
  exact ⟨_, pe_cmpR h0 h1 h3 hm, sim_op h9 h2 h4⟩
theorem t_cmp {op : CmpOp} {f : O2} (hc : CmpR X op f) (ha : PD X a da) (hb : PD X b db) (hm : behindInMarks op b = false := by first | exact nomark _ (by decide) (by decide) | rfl) : PDT X (.Compare a [op] [b] pos) (tVal (e2 f da db)) := by
  obtain ⟨r, h0, h9⟩ := hc.ex
  obtain ⟨t, h1, h2⟩ := ha.ex
  obtain ⟨u, h3, h4⟩ := hb.ex
  exact ⟨_, pt_cmpR h0 h1 h3 hm, sim_tTest (sim_op h9 h2 h4)⟩
theorem d_isN {j pos'} (ha : PD X a da) : PD X (.Compare a [.Is] [.Constant .none j pos'] pos) (e1 oIsN da) := by
  obtain ⟨t, h1, h2⟩ := ha.ex
  exact ⟨_, pe_cmpR op_isN h1 pe_non (nomark _), sim_isN h2⟩
theorem d_notN {j pos'} (ha : PD X a da) : PD X (.Compare a [.IsNot] [.Constant .none j pos'] pos) (e1 oNotN da) := by
  obtain ⟨t, h1, h2⟩ := ha.ex
  exact ⟨_, pe_cmpR op_notN h1 pe_non (nomark _), sim_notN h2⟩
theorem t_isN {j pos'} (ha : PD X a da) : PDT X (.Compare a [.Is] [.Constant .none j pos'] pos) (tVal (e1 oIsN da)) := by
  obtain ⟨t, h1, h2⟩ := ha.ex
  exact ⟨_, pt_cmpR op_isN h1 pe_non (nomark _), sim_tTest (sim_isN h2)⟩
theorem t_notN {j pos'} (ha : PD X a da) : PDT X (.Compare a [.IsNot] [.Constant .none j pos'] pos) (tVal (e1 oNotN da)) := by
  obtain ⟨t, h1, h2⟩ := ha.ex
  exact ⟨_, pt_cmpR op_notN h1 pe_non (nomark _), sim_tTest (sim_notN h2)⟩
theorem d_chain {op op' : CmpOp} {f g : O2} (hc : CmpR X op f) (hc' : CmpR X op' g) (ha : PD X a da) (hb : PD X b db) (hd : PD X c dc) (hm : lastMarks [op, op'] [b, c] = false := by rfl) :
    PD X (.Compare a [op, op'] [b, c] pos) (eChain f g da db dc) := by
  obtain ⟨r, h0, h9⟩ := hc.ex
  obtain ⟨r', h0', h9'⟩ := hc'.ex
  obtain ⟨t, h1, h2⟩ := ha.ex
  obtain ⟨u, h3, h4⟩ := hb.ex
  obtain ⟨v, h5, h6⟩ := hd.ex
  exact ⟨_, pe_chain h0 h0' h1 h3 h5 hm, sim_chain h9 h9' h2 h4 h6⟩
theorem t_chain {op op' : CmpOp} {f g : O2} (hc : CmpR X op f) (hc' : CmpR X op' g) (ha : PD X a da) (hb : PD X b db) (hd : PD X c dc) (hm : lastMarks [op, op'] [b, c] = false := by rfl) :
    PDT X (.Compare a [op, op'] [b, c] pos) (tVal (eChain f g da db dc)) := by
  obtain ⟨r, h0, h9⟩ := hc.ex
  obtain ⟨r', h0', h9'⟩ := hc'.ex
  obtain ⟨t, h1, h2⟩ := ha.ex
  obtain ⟨u, h3, h4⟩ := hb.ex
  obtain ⟨v, h5, h6⟩ := hd.ex
  exact ⟨_, pt_chain h0 h0' h1 h3 h5 hm, sim_tTest (sim_chain h9 h9' h2 h4 h6)⟩
/-! tests -/
theorem t_val (he : PD X e de) (h : ∀ whole, isTrue e X.env whole = (do let v ← whole; standAt e.pos; holding [v] (truthy v)) := by intro _; rfl) : PDT X e (tVal de) := by
  obtain ⟨t, h1, h2⟩ := he.ex
  exact ⟨_, pt_val h1 h, sim_tB h2⟩
theorem t_not (ha : PDT X a ta) : PDT X (.UnaryOp .Not a pos) (Rw.tNot ta) := by
  obtain ⟨t, h1, h2⟩ := ha.ex
  exact ⟨_, pt_not h1, sim_not h2⟩
variable {rest : List Expr}
theorem w_and1 (ha : PDT X a ta) : PDW X (.BoolOp .And [a] pos) ta := by
  obtain ⟨t, h1, h2⟩ := ha.ex
  exact ⟨_, pw_and1 h1, h2⟩
theorem w_or1 (ha : PDT X a ta) : PDW X (.BoolOp .Or [a] pos) ta := by
  obtain ⟨t, h1, h2⟩ := ha.ex
  exact ⟨_, pw_or1 h1, h2⟩
theorem w_and (ha : PDT X a ta) (hb : PDW X (.BoolOp .And (b :: rest) pos) tb) : PDW X (.BoolOp .And (a :: b :: rest) pos) (Rw.tAnd ta tb) := by
  obtain ⟨t, h1, h2⟩ := ha.ex
  obtain ⟨u, h3, h4⟩ := hb.ex
  exact ⟨_, pw_and h1 h3, sim_and h2 h4⟩
theorem w_or (ha : PDT X a ta) (hb : PDW X (.BoolOp .Or (b :: rest) pos) tb) : PDW X (.BoolOp .Or (a :: b :: rest) pos) (Rw.tOr ta tb) := by
  obtain ⟨t, h1, h2⟩ := ha.ex
  obtain ⟨u, h3, h4⟩ := hb.ex
  exact ⟨_, pw_or h1 h3, sim_or h2 h4⟩
theorem t_w (ha : PDW X a ta) : PDT X a ta := by
  obtain ⟨t, h1, h2⟩ := ha.ex
  exact ⟨_, h1.pt, h2⟩
theorem d_one {op} (ha : PD X a da) : PD X (.BoolOp op [a] pos) da := by
  obtain ⟨t, h1, h2⟩ := ha.ex
  exact ⟨_, pe_one h1, h2⟩
theorem d_and (ha : PD X a da) (hb : PD X (.BoolOp .And (b :: rest) pos) db) : PD X (.BoolOp .And (a :: b :: rest) pos) (eAnd da db) := by
  obtain ⟨t, h1, h2⟩ := ha.ex
  obtain ⟨u, h3, h4⟩ := hb.ex
  exact ⟨_, pe_and h1 h3, sim_andV h2 h4⟩
theorem d_or (ha : PD X a da) (hb : PD X (.BoolOp .Or (b :: rest) pos) db) : PD X (.BoolOp .Or (a :: b :: rest) pos) (eOr da db) := by
  obtain ⟨t, h1, h2⟩ := ha.ex
  obtain ⟨u, h3, h4⟩ := hb.ex
  exact ⟨_, pe_or h1 h3, sim_orV h2 h4⟩
theorem d_not (ha : PD X a da) : PD X (.UnaryOp .Not a pos) (eNot da) := by
  obtain ⟨t, h1, h2⟩ := ha.ex
  exact ⟨_, pe_not h1, sim_notV h2⟩
theorem d_ifE {tc : DT} (hc : PDT X c tc) (ha : PD X a da) (hb : PD X b db) : PD X (.IfExp c a b pos) (eIf tc da db) := by
  obtain ⟨t, h1, h2⟩ := hc.ex
  obtain ⟨u, h3, h4⟩ := ha.ex
  obtain ⟨v, h5, h6⟩ := hb.ex
  exact ⟨_, pe_ifExp h1 h3 h5, sim_ifE h2 h4 h6⟩
/-! arguments, displays, calls -/
variable {es : List Expr} {das : DA} {n : Nat}
theorem a_nil : PDA X [] aNil 0 := ⟨⟨_, pa_nil, sim_nil⟩, al_nil⟩
theorem a_cons (ha : PD X e de) (hr : PDA X es das n) (hs : starEach (e :: es) X.env = (false, eval e X.env) :: starEach es X.env := by rfl) : PDA X (e :: es) (aCons de das) (n + 1) := by
  obtain ⟨t, h1, h2⟩ := ha.ex
  obtain ⟨u, h3, h4⟩ := hr.ex
  exact ⟨⟨_, pa_cons h1 h3 hs, sim_cons h2 h4⟩, al_cons hr.len⟩
theorem d_tup {x1} (h : PDA X es das n) : PD X (.Tuple es x1 pos) (eTup das) := by
  obtain ⟨t, h1, h2⟩ := h.ex
  exact ⟨_, pe_tup h1, sim_tup h2⟩
theorem d_lst (c : Bool) (h : PDA X es das n) : PD X (.List es pos) (eLst c das) := by
  obtain ⟨t, h1, h2⟩ := h.ex
  exact ⟨_, pe_lst h1, sim_lst c h2⟩
theorem d_frz (h : PD X e de) : PD X e (eFrz de) := by
  obtain ⟨t, h1, h2⟩ := h.ex
  exact ⟨_, h1, sim_frz h2⟩
theorem d_frzC (h : PD X e de) : PD X e (eFrzC de) := by
  obtain ⟨t, h1, h2⟩ := h.ex
  exact ⟨_, h1, sim_frzC h2⟩
theorem d_ix (ha : PD X a da) (hb : PD X b db) (hs : PlainIx b := by exact fun _ _ => rfl) : PD X (.Subscript a b pos) (e2 oIx da db) := by
  obtain ⟨t, h1, h2⟩ := ha.ex
  obtain ⟨u, h3, h4⟩ := hb.ex
  exact ⟨_, pe_ix ix_seq h1 h3 hs, sim_op sr_ix h2 h4⟩
theorem o_none : PDO X none pNone := ⟨_, po_none, sim_pn⟩
theorem o_some (h : PD X e de) : PDO X (some e) (pSome de) := by
  obtain ⟨t, h1, h2⟩ := h.ex
  exact ⟨_, po_some h1, sim_ps h2⟩
variable {lo hi : Option Expr} {dl dh : DO} {p2 : Pos}
theorem d_slL (c : Bool) (he : PD X e de) (hl : PDO X lo dl) (hh : PDO X hi dh) : PD X (.Subscript e (.Slice lo hi none p2) pos) (eSl (slL c) de dl dh) := by
  obtain ⟨t, h1, h2⟩ := he.ex
  obtain ⟨u, h3, h4⟩ := hl.ex
  obtain ⟨v, h5, h6⟩ := hh.ex
  exact ⟨_, pe_slice sl_list h1 h3 h5, sim_sl (ss_list c) h2 h4 h6⟩
theorem d_slT (he : PD X e de) (hl : PDO X lo dl) (hh : PDO X hi dh) : PD X (.Subscript e (.Slice lo hi none p2) pos) (eSl slT de dl dh) := by
  obtain ⟨t, h1, h2⟩ := he.ex
  obtain ⟨u, h3, h4⟩ := hl.ex
  obtain ⟨v, h5, h6⟩ := hh.ex
  exact ⟨_, pe_slice sl_tupA h1 h3 h5, sim_sl ss_tup h2 h4 h6⟩
theorem d_rev (c : Bool) {k : Nat} {p1 p3 p4 : Pos} (he : PD X e de) : PD X (.Subscript e (.Slice none none (some (.UnaryOp .USub (.Constant (.int 1) k p1) p4)) p3) pos) (e1 (oRev c) de) := by
  obtain ⟨t, h1, h2⟩ := he.ex
  exact ⟨_, pe_revL h1, sim_rev c h2⟩
variable {p : Pos} {x : Str}
theorem d_call {k : Nat} {f : Addr} {fd : FuncData} {ps : List Str} {df : DF} (F : FnOk X.prog X.w X.K X.mg X.base CX0 k f fd ps (spD X.K df n)) (hr : Room k X.A) (hg : Gl X x) (hm : X.mg x = some (.ref f)) (hk : PySem.W.keepIn X.K (.ref f) = true) (hb : Binds X.K fd ps [])
    (ha : PDA X (e :: es) das n) (hdb : (x == ("__debug__" : Str)) = false := by decide) (he : starEach (e :: es) X.env = (false, eval e X.env) :: starEach es X.env := by rfl) (hpl : (backTo pos (starEach es X.env)).any (·.1) = false := by rfl) :
    PD X (.Call (.Name x p) (e :: es) [] pos) (eCall df das) := by
  obtain ⟨t, h1, h2⟩ := ha.ex
  exact ⟨_, pe_call F hr hg hm hk hb .nil pass0 h1 hdb he hpl, sim_call h2 ha.len⟩
theorem d_call0 {k : Nat} {f : Addr} {fd : FuncData} {ps : List Str} {df : DF} (F : FnOk X.prog X.w X.K X.mg X.base CX0 k f fd ps (spD X.K df 0)) (hr : Room k X.A) (hg : Gl X x) (hm : X.mg x = some (.ref f)) (hk : PySem.W.keepIn X.K (.ref f) = true) (hb : Binds X.K fd ps [])
    (hdb : (x == ("__debug__" : Str)) = false := by decide) : PD X (.Call (.Name x p) [] [] pos) (eCall df aNil) :=
  ⟨_, pe_call0 F hr hg hm hk hb .nil pass0 hdb, sim_call sim_nil al_nil⟩
/-- a built-in function -/
theorem d_bi {id : String} {r : List V → Hp → VK → Prop} {f : OA} (hc : CallR X (.builtin id) r) (hs : SimRA X.K r f) (hg : Gl X x) (hm : X.mg x = none) (hv : bootBuiltins x = some (.builtin id)) (ha : PDA X (e :: es) das n) (hn : x ≠ "__name__" := by decide) (hdb : (x == ("__debug__" : Str)) = false := by decide)
    (he : starEach (e :: es) X.env = (false, eval e X.env) :: starEach es X.env := by rfl) (hpl : (backTo pos (starEach es X.env)).any (·.1) = false := by rfl) : PD X (.Call (.Name x p) (e :: es) [] pos) (eA f das) := by
  obtain ⟨t, h1, h2⟩ := ha.ex
  exact ⟨_, pe_callB hc hg hm hv h1 hn hdb he hpl, sim_cb hs h2⟩
theorem d_bt {T : String} {r : List V → Hp → VK → Prop} {f : OA} (hc : CallR X (.type T) r) (hs : SimRA X.K r f) (hg : Gl X x) (hm : X.mg x = none) (hv : bootBuiltins x = some (.type T)) (ha : PDA X (e :: es) das n) (hn : x ≠ "__name__" := by decide) (hdb : (x == ("__debug__" : Str)) = false := by decide)
    (he : starEach (e :: es) X.env = (false, eval e X.env) :: starEach es X.env := by rfl) (hpl : (backTo pos (starEach es X.env)).any (·.1) = false := by rfl) : PD X (.Call (.Name x p) (e :: es) [] pos) (eA f das) := by
  obtain ⟨t, h1, h2⟩ := ha.ex
  exact ⟨_, pe_callTy hc hg hm hv h1 hn hdb he hpl, sim_cb hs h2⟩
theorem d_abs (hm : X.mg "abs" = none) (ha : PDA X (e :: es) das n) (hg : Gl X "abs" := by rfl) (he : starEach (e :: es) X.env = (false, eval e X.env) :: starEach es X.env := by rfl) (hpl : (backTo pos (starEach es X.env)).any (·.1) = false := by rfl) : PD X (.Call (.Name "abs" p) (e :: es) [] pos) (eA oAbs das) := d_bi (x := "abs") call_abs sa_abs hg hm (by decide +kernel) ha (he := he) (hpl := hpl)
theorem d_len (hm : X.mg "len" = none) (ha : PDA X (e :: es) das n) (hg : Gl X "len" := by rfl) (he : starEach (e :: es) X.env = (false, eval e X.env) :: starEach es X.env := by rfl) (hpl : (backTo pos (starEach es X.env)).any (·.1) = false := by rfl) : PD X (.Call (.Name "len" p) (e :: es) [] pos) (eA oLen das) := d_bi (x := "len") call_len sa_len hg hm (by decide +kernel) ha (he := he) (hpl := hpl)
theorem d_max2 (hm : X.mg "max" = none) (ha : PDA X (e :: es) das n) (hc : X.calm = true := by rfl) (hg : Gl X "max" := by rfl) (he : starEach (e :: es) X.env = (false, eval e X.env) :: starEach es X.env := by rfl) (hpl : (backTo pos (starEach es X.env)).any (·.1) = false := by rfl) : PD X (.Call (.Name "max" p) (e :: es) [] pos) (eA oMax2 das) := d_bi (x := "max") (call_max2 hc) sa_max2 hg hm (by decide +kernel) ha (he := he) (hpl := hpl)
theorem d_min2 (hm : X.mg "min" = none) (ha : PDA X (e :: es) das n) (hc : X.calm = true := by rfl) (hg : Gl X "min" := by rfl) (he : starEach (e :: es) X.env = (false, eval e X.env) :: starEach es X.env := by rfl) (hpl : (backTo pos (starEach es X.env)).any (·.1) = false := by rfl) : PD X (.Call (.Name "min" p) (e :: es) [] pos) (eA oMin2 das) := d_bi (x := "min") (call_min2 hc) sa_min2 hg hm (by decide +kernel) ha (he := he) (hpl := hpl)
theorem d_sum (hm : X.mg "sum" = none) (ha : PDA X (e :: es) das n) (hc : X.calm = true := by rfl) (hg : Gl X "sum" := by rfl) (he : starEach (e :: es) X.env = (false, eval e X.env) :: starEach es X.env := by rfl) (hpl : (backTo pos (starEach es X.env)).any (·.1) = false := by rfl) : PD X (.Call (.Name "sum" p) (e :: es) [] pos) (eA oSum das) := d_bi (x := "sum") (cr_sum hc) sa_sum hg hm (by decide +kernel) ha (he := he) (hpl := hpl)
theorem d_all (hm : X.mg "all" = none) (ha : PDA X (e :: es) das n) (hc : X.calm = true := by rfl) (hg : Gl X "all" := by rfl) (he : starEach (e :: es) X.env = (false, eval e X.env) :: starEach es X.env := by rfl) (hpl : (backTo pos (starEach es X.env)).any (·.1) = false := by rfl) : PD X (.Call (.Name "all" p) (e :: es) [] pos) (eA oAll das) := d_bi (x := "all") (cr_all hc) sa_all hg hm (by decide +kernel) ha (he := he) (hpl := hpl)
theorem d_any (hm : X.mg "any" = none) (ha : PDA X (e :: es) das n) (hc : X.calm = true := by rfl) (hg : Gl X "any" := by rfl) (he : starEach (e :: es) X.env = (false, eval e X.env) :: starEach es X.env := by rfl) (hpl : (backTo pos (starEach es X.env)).any (·.1) = false := by rfl) : PD X (.Call (.Name "any" p) (e :: es) [] pos) (eA oAny das) := d_bi (x := "any") (cr_any hc) sa_any hg hm (by decide +kernel) ha (he := he) (hpl := hpl)
theorem d_sorted (c : Bool) (hm : X.mg "sorted" = none) (ha : PDA X (e :: es) das n) (hg : Gl X "sorted" := by rfl) (he : starEach (e :: es) X.env = (false, eval e X.env) :: starEach es X.env := by rfl) (hpl : (backTo pos (starEach es X.env)).any (·.1) = false := by rfl) : PD X (.Call (.Name "sorted" p) (e :: es) [] pos) (eA (oSorted c) das) := d_bi (x := "sorted") cr_sortedI (sa_sorted c) hg hm (by decide +kernel) ha (he := he) (hpl := hpl)
theorem d_intf (hm : X.mg "int" = none) (ha : PDA X (e :: es) das n) (hg : Gl X "int" := by rfl) (he : starEach (e :: es) X.env = (false, eval e X.env) :: starEach es X.env := by rfl) (hpl : (backTo pos (starEach es X.env)).any (·.1) = false := by rfl) : PD X (.Call (.Name "int" p) (e :: es) [] pos) (eA oInt das) := d_bt (x := "int") call_int1 sa_int hg hm (by decide +kernel) ha (he := he) (hpl := hpl)
theorem d_list (c : Bool) (hm : X.mg "list" = none) (ha : PDA X (e :: es) das n) (hg : Gl X "list" := by rfl) (he : starEach (e :: es) X.env = (false, eval e X.env) :: starEach es X.env := by rfl) (hpl : (backTo pos (starEach es X.env)).any (·.1) = false := by rfl) : PD X (.Call (.Name "list" p) (e :: es) [] pos) (eA (oList c) das) := d_bt (x := "list") call_list_of (sa_list c) hg hm (by decide +kernel) ha (he := he) (hpl := hpl)
theorem d_isi (T : String) (hm : X.mg "isinstance" = none) (ha : PDA X (e :: es) das n) (hT : T ∈ ["bool", "int", "str", "list", "tuple"] := by decide) (hg : Gl X "isinstance" := by rfl) (he : starEach (e :: es) X.env = (false, eval e X.env) :: starEach es X.env := by rfl) (hpl : (backTo pos (starEach es X.env)).any (·.1) = false := by rfl) : PD X (.Call (.Name "isinstance" p) (e :: es) [] pos) (eA (oIsi T) das) := d_bi (x := "isinstance") call_isi (sa_isi T hT) hg hm (by decide +kernel) ha (he := he) (hpl := hpl)
theorem d_listR1 (c : Bool) {p' pos' : Pos} (hm : X.mg "list" = none) (hm' : X.mg "range" = none) (ha : PD X a da) (hc : X.calm = true := by rfl) (hg : Gl X "list" := by rfl) (hg' : Gl X "range" := by rfl) (na : starEach [a] X.env = (false, eval a X.env) :: starEach [] X.env := by rfl) (nb : starEach [.Call (.Name "range" p') [a] [] pos'] X.env = (false, eval (.Call (.Name "range" p') [a] [] pos') X.env) :: starEach [] X.env := by rfl) :
    PD X (.Call (.Name "list" p) [.Call (.Name "range" p') [a] [] pos'] [] pos) (eA (oListR1 c) (aCons da aNil)) := by
  obtain ⟨t, h1, h2⟩ := ha.ex
  exact ⟨_, pe_listRg hc hg hm (prg_1 hg' hm' h1 na) nb, sim_listR1 c h2⟩
theorem d_listR2 (c : Bool) {p' pos' : Pos} (hm : X.mg "list" = none) (hm' : X.mg "range" = none) (ha : PD X a da) (hb : PD X b db) (hc : X.calm = true := by rfl) (hg : Gl X "list" := by rfl) (hg' : Gl X "range" := by rfl) (na : starEach [a, b] X.env = (false, eval a X.env) :: starEach [b] X.env := by rfl) (nb : starEach [b] X.env = (false, eval b X.env) :: starEach [] X.env := by rfl) (np : (backTo pos' (starEach [b] X.env)).any (·.1) = false := by rfl)
    (nc : starEach [.Call (.Name "range" p') [a, b] [] pos'] X.env = (false, eval (.Call (.Name "range" p') [a, b] [] pos') X.env) :: starEach [] X.env := by rfl) :
    PD X (.Call (.Name "list" p) [.Call (.Name "range" p') [a, b] [] pos'] [] pos) (eA (oListR2 c) (aCons da (aCons db aNil))) := by
  obtain ⟨t, h1, h2⟩ := ha.ex
  obtain ⟨u, h3, h4⟩ := hb.ex
  exact ⟨_, pe_listRg hc hg hm (prg_2 hg' hm' h1 h3 na nb np) nc, sim_listR2 c h2 h4⟩
end
end Rw
end PRwRules
section PRwRules2
set_option Elab.async false
set_option linter.all false
set_option maxRecDepth 100000
set_option maxHeartbeats 2000000
namespace Rw
open PySem L2 PySem.Spec PyProof.Rows
section
variable {X : Cx} {a b c e : Expr} {pos : Pos} {da db dc de : DE} {ta tb : DT} {es : List Expr} {das : DA} {n : Nat} {p : Pos} {x : Str} {tg : Expr}
/-! ### targets -/
theorem g_name (i : Nat) {x : Str} (hN : X.N.Nodup) (hi : X.N[i]? = some x := by rfl) (hx : Loc X.env.scope x := by first | exact Or.inl rfl | exact Or.inr rfl) (hf : X.fn x = true ∨ X.env.scope.names.lookup x = some .local := by first | exact .inl rfl | exact .inr rfl) : PDG X (.Name x pos) (.name i) := ⟨by
  simp only [Tgt.tg]
  exact pg_name hN hi hx hf⟩
theorem g_nil : PDGs X [] [] := ⟨by simp only [Tgt.tgs]; exact pgs_nil⟩
theorem g_cons {t : Tgt} {ts : List Tgt} (h : PDG X e t) (hr : PDGs X es ts) (hs : (assignEach (e :: es) X.env).map (·.2) = assign e X.env :: (assignEach es X.env).map (·.2) := by rfl) : PDGs X (e :: es) (t :: ts) := ⟨by
  simp only [Tgt.tgs]
  exact pgs_cons h.ex hr.ex hs⟩
theorem g_tup {k : Nat} {ts : List Tgt} (h : PDGs X es ts) (hc : X.calm = true := by rfl) (hn : (assignEach es X.env).length = ts.length := by rfl) (hst : (assignEach es X.env).findIdx? (·.1) = none := by rfl) : PDG X (.Tuple es k pos) (.tup ts) := ⟨by
  simp only [Tgt.tg]
  exact ⟨fun pins s σ H v u Q I r hw => hw.elim (fun q => (pg_tup hc h.ex hn hst).run pins s σ H v u Q I r q) fun q => (pg_unl hc h.ex hn hst).run pins s σ H v u Q I r q⟩⟩
/-! ### ints or lists, lists or tuples -/
theorem sr_mulU {K : PySem.W.Frag} (c : Bool) : SimR2 K (fun x y H Q => rI CMulR (fun i j => .int (i * j)) x y H Q ∨ rRep x y H Q) (oMulU c) := fun {F κ G M H Q x y z M' u v} S rx ry h k => by
  unfold oMulU at h
  split at h
  · obtain ⟨hp, h⟩ := grd_some h
    cases h
    exact .inl ⟨_, _, rx_int rx, rx_int ry, mulOk_ok hp, k.here S (Rv.int _)⟩
  · exact .inr (sr_rep c S rx ry h k)
theorem d_mulU (c : Bool) (ha : PD X a da) (hb : PD X b db) : PD X (.BinOp a .Mult b pos) (e2 (oMulU c) da db) := d_op (op_mulR.or op_rep) (sr_mulU c) ha hb
theorem ss_slU {K : PySem.W.Frag} (c : Bool) : SimSl K (fun x lo hi H Q => rSlL K x lo hi H Q ∨ rSlA K x lo hi H Q) (slU c) := fun {F κ G M H Q x lo hi z M' u} S rx h k => by
  unfold slU at h
  split at h
  · exact .inr (ss_tup S rx (by unfold slT; exact h) k)
  · exact .inl (ss_list c S rx h k)
variable {lo hi : Option Expr} {dl dh : DO} {p2 : Pos}
theorem d_slU (c : Bool) (he : PD X e de) (hl : PDO X lo dl) (hh : PDO X hi dh) : PD X (.Subscript e (.Slice lo hi none p2) pos) (eSl (slU c) de dl dh) := by
  obtain ⟨t, h1, h2⟩ := he.ex
  obtain ⟨u, h3, h4⟩ := hl.ex
  obtain ⟨v, h5, h6⟩ := hh.ex
  exact ⟨_, pe_slice (sl_list.or sl_tupA) h1 h3 h5, sim_sl (ss_slU c) h2 h4 h6⟩
/-! ### what is walked -/
theorem i_seq (he : PD X e de) : PDI X tg e (iS de) := by
  obtain ⟨t, h1, h2⟩ := he.ex
  refine ⟨fun σ H R => iList X.K t σ H R ∨ iTup X.K t σ H R, ⟨fun pins s σ H R I h => ?_⟩, ⟨fun {F κ G σ ρ M H xs src M' R} S E h k => ?_⟩⟩
  · rcases h with h | h
    · exact (pi_list h1).run pins s σ H R I h
    · exact (pi_tup h1).run pins s σ H R I h
  · unfold iS at h
    split at h
    · rename_i ys M1 e1
      cases h
      exact .inr ((sim_iT h2).run S E (by unfold iT; rw [e1]) k)
    · rename_i y M1 _ e1
      exact .inl ((sim_iL h2).run S E (by unfold iL; rw [e1]; exact h) k)
    · cases h
theorem i_list (he : PD X e de) : PDI X tg e (iL de) := by
  obtain ⟨t, h1, h2⟩ := he.ex
  exact ⟨_, pi_list h1, sim_iL h2⟩
theorem i_tup (he : PD X e de) : PDI X tg e (iT de) := by
  obtain ⟨t, h1, h2⟩ := he.ex
  exact ⟨_, pi_tup h1, sim_iT h2⟩
theorem i_r1 (hm : X.mg "range" = none) (ha : PDA X [a] das n) (hg : Gl X "range" := by rfl) (hs : starEach [a] X.env = [(false, eval a X.env)] := by rfl) : PDI X tg (.Call (.Name "range" p) [a] [] pos) (iR1 das) := by
  obtain ⟨t, h1, h2⟩ := ha.ex
  exact ⟨_, pi_range1 hg hm h1 hs, sim_iR1 h2⟩
theorem i_r2 (hm : X.mg "range" = none) (ha : PDA X [a, b] das n) (hg : Gl X "range" := by rfl) (hs : starEach [a, b] X.env = [(false, eval a X.env), (false, eval b X.env)] := by rfl) (hs2 : starEach [b] X.env = [(false, eval b X.env)] := by rfl) : PDI X tg (.Call (.Name "range" p) [a, b] [] pos) (iR2 das) := by
  obtain ⟨t, h1, h2⟩ := ha.ex
  exact ⟨_, pi_range2 hg hm h1 hs hs2, sim_iR2 h2⟩
theorem i_en {elts : List Expr} {kk : Nat} {tpos : Pos} (hm : X.mg "enumerate" = none) (ha : PDA X [a] das n) (hg : Gl X "enumerate" := by rfl) (hs : starEach [a] X.env = [(false, eval a X.env)] := by rfl) : PDI X (.Tuple elts kk tpos) (.Call (.Name "enumerate" p) [a] [] pos) (iEn das) := by
  obtain ⟨t, h1, h2⟩ := ha.ex
  exact ⟨_, pi_enum hg hm h1 hs, sim_iEn h2⟩
theorem i_zip {elts : List Expr} {kk : Nat} {tpos : Pos} (hm : X.mg "zip" = none) (ha : PDA X [a, b] das n) (hg : Gl X "zip" := by rfl) (hs : starEach [a, b] X.env = (false, eval a X.env) :: starEach [b] X.env := by rfl) (hpl : (backTo pos (starEach [b] X.env)).any (·.1) = false := by rfl) : PDI X (.Tuple elts kk tpos) (.Call (.Name "zip" p) [a, b] [] pos) (iZ das) := by
  obtain ⟨t, h1, h2⟩ := ha.ex
  exact ⟨_, pi_zip hg hm h1 hs hpl, sim_iZ h2⟩
/-! ### comprehensions -/
theorem ts_nil : PTs X [] L2.tYes := pts_nil
theorem sim_yes {K : PySem.W.Frag} : SimT K L2.tYes Rw.tYes := ⟨fun {F κ G σ ρ M H b M' Q} S E h k => by
  cases h
  exact k κ G H (Le.refl _ _) S⟩
structure PDTs (X : Cx) (es : List Expr) (d : DT) : Prop where
  ex : ∃ t, PTs X es t ∧ SimT X.K t d
theorem c_nil : PDTs X [] Rw.tYes := ⟨_, pts_nil, sim_yes⟩
theorem c_one (h : PDT X e ta) : PDTs X [e] ta := by
  obtain ⟨t, h1, h2⟩ := h.ex
  exact ⟨_, pts_one h1, h2⟩
/-- the reading that a pure reading makes -/
def tOf (K : PySem.W.Frag) (d : DE) : TE := fun σ H Q => ∃ F κ G ρ M v M', Sm K F κ G M H ∧ Se K κ G σ ρ ∧ d ρ M = some (v, M') ∧ PV K F κ G Q v M'
def tOfT (K : PySem.W.Frag) (d : DT) : TT := fun σ H Q => ∃ F κ G ρ M b M', Sm K F κ G M H ∧ Se K κ G σ ρ ∧ d ρ M = some (b, M') ∧ ∀ κ' G' H', Le κ G κ' G' → Sm K F κ' G' M' H' → Q b H'
theorem simOf {K : PySem.W.Frag} {d : DE} : SimE K (tOf K d) d := ⟨fun {F κ G σ ρ M H Q v M'} S E h k => ⟨F, κ, G, ρ, M, v, M', S, E, h, k⟩⟩
theorem simOfT {K : PySem.W.Frag} {d : DT} : SimT K (tOfT K d) d := ⟨fun {F κ G σ ρ M H b M' Q} S E h k => ⟨F, κ, G, ρ, M, b, M', S, E, h, k⟩⟩
theorem PD.can {X : Cx} {e : Expr} {d : DE} (h : PD X e d) : PE X e (tOf X.K d) := by
  obtain ⟨t, h1, h2⟩ := h.ex
  exact ⟨fun pins s σ H Q I ⟨F, κ, G, ρ, M, v, M', S, E, hd, k⟩ => h1.run pins s σ H Q I (h2.run S E hd k)⟩
theorem PDTs.can {X : Cx} {es : List Expr} {d : DT} (h : PDTs X es d) : PTs X es (tOfT X.K d) := by
  obtain ⟨t, h1, h2⟩ := h.ex
  exact ⟨fun pins s σ H Q I ⟨F, κ, G, ρ, M, v, M', S, E, hd, k⟩ => h1.run pins s σ H Q I (h2.run S E hd k)⟩
theorem d_lc (c : Bool) {elt iter : Expr} {ifs : List Expr} {scope : Scope} (own : List (Str × Nat)) {it : DI} {tgt : Tgt} {tt : DT} {el : DE} (hN : X.N.Nodup) (hi : PDI X tg iter it) (ok : blkC X.N X.env.scope scope own = true)
    (hg : ∀ (s : Shared) (H : Hp) (C : Addr) (cl : List (Str × Addr)) (fp : List Addr), PDG (X.blk s H scope (compEnvC scope cl C X.env) fp) tg tgt) (ht : ∀ (s : Shared) (H : Hp) (C : Addr) (cl : List (Str × Addr)) (fp : List Addr), PDTs (X.blk s H scope (compEnvC scope cl C X.env) fp) ifs tt)
    (he : ∀ (s : Shared) (H : Hp) (C : Addr) (cl : List (Str × Addr)) (fp : List Addr), PD (X.blk s H scope (compEnvC scope cl C X.env) fp) elt el) (hown : ∀ i ∈ tgt.slots, i ∈ own.map (·.2) := by decide) (hc : X.calm = true := by rfl) (hs : ∀ x, foldedSetIterable iter X.env x = pure x := by intro _; rfl) :
    PD X (.ListComp elt [⟨tg, iter, ifs, 0⟩] scope pos) (eComp c it tgt tt el (own.map (·.2))) := by
  obtain ⟨t, h1, h2⟩ := hi.ex
  exact ⟨_, pe_lc hc hN h1 (blkOk_by ok) (fun s H C cl fp => (hg s H C cl fp).ex) (fun s H C cl fp => (ht s H C cl fp).can) (fun s H C cl fp => (he s H C cl fp).can) hs, sim_lc h2 simOfT simOf hown⟩
/-! ### methods of lists -/
theorem lm_pop : ∀ v as M z, mPop v as M = some z → ∃ n, v = .c n := fun v as M z h => by
  unfold mPop at h
  split at h
  · exact ⟨_, rfl⟩
  · exact ⟨_, rfl⟩
  · cases h
theorem lm_insert : ∀ v as M z, mInsert v as M = some z → ∃ n, v = .c n := fun v as M z h => by
  unfold mInsert at h
  split at h
  · exact ⟨_, rfl⟩
  · cases h
def rInsert : V → List V → Hp → VK → Prop := fun x vs H Q => ∃ (l : Addr) (xs : List V) (i : Int) (y : V), x = .ref l ∧ vs = [.int i, y] ∧ H l = some (.lst xs) ∧ xs.length < sizeLine ∧ 0 ≤ i ∧ i < 2 ^ 63 ∧
    Q .non (upd H l (.lst (xs.take i.toNat ++ [y] ++ xs.drop i.toNat)))
theorem sm_insert {K : PySem.W.Frag} : SimRM K "list" rInsert mInsert := fun {F κ G M H Q x xs z M' u us} S r rs h k => by
  unfold mInsert at h
  split at h
  · rename_i n i y
    split at h
    · rename_i ys e
      obtain ⟨hp, h⟩ := grd_some h
      cases h
      obtain ⟨a, rfl, ha⟩ := r
      obtain ⟨v, w, rfl, rv, rw'⟩ := rxs2 rs
      obtain rfl := rx_int rv
      obtain ⟨vs, _, _, e3, e4⟩ := cell_at S e ha
      refine ⟨a, vs, i, w, rfl, rfl, e3, sz_big1 (by rw [e4.length]; exact hp.1), hp.2.1, by omega, ?_⟩
      exact k κ G _ _ (Le.refl _ _) (S.put e ha (((e4.take _).append (.cons rw' .nil)).append (e4.drop _))) Rv.non
    · cases h
  · cases h
theorem d_append {apos : Pos} (ho : PD X a da) (hb : PDA X (e :: es) das n) (hbase : attributeBase a "append" X.env (eval a X.env) = eval a X.env := by rfl)
    (hfew : ((backTo pos (starEach (e :: es) X.env)).all (fun x => !x.1) && (backToKw pos (keywordEach [] X.env)).all (fun x => x.1.isSome)
      && decide ((e :: es).length + ([] : List Keyword).length + (if ([] : List Keyword).isEmpty then 0 else 1) < 30)) = true := by rfl)
    (hline : (apos.endLine == pos.line) = true := by rfl) (hs : starEach (e :: es) X.env = (false, eval e X.env) :: starEach es X.env := by rfl) (hplain : (backTo pos (starEach es X.env)).any (·.1) = false := by rfl) : PD X (.Call (.Attribute a "append" apos) (e :: es) [] pos) (eM mAppend da das) := by
  obtain ⟨t, h1, h2⟩ := ho.ex
  obtain ⟨u, h3, h4⟩ := hb.ex
  exact ⟨_, pe_bm PySem.F.plainAttrs_list PySem.F.slot_list_append PySem.F.type_list_append mt_append h1 h3 hbase hfew hline hs hplain, sim_bm sm_append lm_append h2 h4⟩
theorem d_pop {apos : Pos} (ho : PD X a da) (hb : PDA X (e :: es) das n) (hbase : attributeBase a "pop" X.env (eval a X.env) = eval a X.env := by rfl)
    (hfew : ((backTo pos (starEach (e :: es) X.env)).all (fun x => !x.1) && (backToKw pos (keywordEach [] X.env)).all (fun x => x.1.isSome)
      && decide ((e :: es).length + ([] : List Keyword).length + (if ([] : List Keyword).isEmpty then 0 else 1) < 30)) = true := by rfl)
    (hline : (apos.endLine == pos.line) = true := by rfl) (hs : starEach (e :: es) X.env = (false, eval e X.env) :: starEach es X.env := by rfl) (hplain : (backTo pos (starEach es X.env)).any (·.1) = false := by rfl) : PD X (.Call (.Attribute a "pop" apos) (e :: es) [] pos) (eM mPop da das) := by
  obtain ⟨t, h1, h2⟩ := ho.ex
  obtain ⟨u, h3, h4⟩ := hb.ex
  exact ⟨_, pe_bm PySem.F.plainAttrs_list PySem.F.slot_list_pop PySem.F.type_list_pop mt_pops h1 h3 hbase hfew hline hs hplain, sim_bm sm_pop lm_pop h2 h4⟩
theorem d_insert {apos : Pos} (ho : PD X a da) (hb : PDA X (e :: es) das n) (hbase : attributeBase a "insert" X.env (eval a X.env) = eval a X.env := by rfl)
    (hfew : ((backTo pos (starEach (e :: es) X.env)).all (fun x => !x.1) && (backToKw pos (keywordEach [] X.env)).all (fun x => x.1.isSome)
      && decide ((e :: es).length + ([] : List Keyword).length + (if ([] : List Keyword).isEmpty then 0 else 1) < 30)) = true := by rfl)
    (hline : (apos.endLine == pos.line) = true := by rfl) (hs : starEach (e :: es) X.env = (false, eval e X.env) :: starEach es X.env := by rfl) (hplain : (backTo pos (starEach es X.env)).any (·.1) = false := by rfl) : PD X (.Call (.Attribute a "insert" apos) (e :: es) [] pos) (eM mInsert da das) := by
  obtain ⟨t, h1, h2⟩ := ho.ex
  obtain ⟨u, h3, h4⟩ := hb.ex
  exact ⟨_, pe_bm PySem.F.plainAttrs_list PySem.F.slot_list_insert PySem.F.type_list_insert mt_insert h1 h3 hbase hfew hline hs hplain, sim_bm sm_insert lm_insert h2 h4⟩
theorem d_pop0 {apos : Pos} (ho : PD X a da) (hbase : attributeBase a "pop" X.env (eval a X.env) = eval a X.env := by rfl) (hline : (apos.endLine == pos.line) = true := by rfl) : PD X (.Call (.Attribute a "pop" apos) [] [] pos) (eM mPop da aNil) := by
  obtain ⟨t, h1, h2⟩ := ho.ex
  exact ⟨_, pe_bm0 PySem.F.plainAttrs_list PySem.F.slot_list_pop PySem.F.type_list_pop mt_pops h1 hbase hline, sim_bm0 sm_pop lm_pop h2⟩
theorem d_clear {apos : Pos} (ho : PD X a da) (hbase : attributeBase a "clear" X.env (eval a X.env) = eval a X.env := by rfl) (hline : (apos.endLine == pos.line) = true := by rfl) : PD X (.Call (.Attribute a "clear" apos) [] [] pos) (eM mClear da aNil) := by
  obtain ⟨t, h1, h2⟩ := ho.ex
  exact ⟨_, pe_bm0 PySem.F.plainAttrs_list PySem.F.slot_list_clear PySem.F.type_list_clear mt_clear h1 hbase hline, sim_bm0 sm_clear lm_clear h2⟩

/-! ### statements -/
variable {st : Stmt} {rest : List Stmt} {s t u : DS}
theorem b_nil : PDB X [] dPass := ⟨_, pss_nil, ss_pass⟩
theorem b_cons (h1 : PDS X st s) (h2 : PDB X rest t) : PDB X (st :: rest) (dSeq s t) := by
  obtain ⟨t1, a1, a2⟩ := h1.ex
  obtain ⟨t2, b1, b2⟩ := h2.ex
  exact ⟨_, pss_cons a1 b1, ss_seq a2 b2⟩
theorem b_one (h1 : PDS X st s) : PDB X [st] s := by
  obtain ⟨t1, a1, a2⟩ := h1.ex
  exact ⟨_, pss_one a1, a2⟩
theorem b_wipe (vs : List Nat) (h : PDB X rest s) : PDB X rest (dWipe vs s) := by
  obtain ⟨t1, a1, a2⟩ := h.ex
  exact ⟨_, a1, ss_wipe vs a2⟩
theorem b_pre (vs : List Nat) (h : PDB X rest s) : PDB X rest (dPre vs s) := by
  obtain ⟨t1, a1, a2⟩ := h.ex
  exact ⟨_, a1, ⟨fun {F κ G σ ρ M H D o} S E h k => a2.run S (E.wipe vs) h k⟩⟩
theorem s_wipe (vs : List Nat) (h : PDS X st s) : PDS X st (dWipe vs s) := by
  obtain ⟨t1, a1, a2⟩ := h.ex
  exact ⟨_, a1, ss_wipe vs a2⟩
theorem s_pass : PDS X (.Pass pos) dPass := ⟨_, ps_pass, ss_pass⟩
theorem s_break : PDS X (.Break pos) dBreak := ⟨_, ps_break, ss_break⟩
theorem s_cont : PDS X (.Continue pos) dCont := ⟨_, ps_continue, ss_cont⟩
theorem s_never : PDS X st dNever := ⟨_, ps_never, ss_never⟩
theorem s_set (i : Nat) {y : Str} {pos' : Pos} (hN : X.N.Nodup) (he : PD X e de) (hi : X.N[i]? = some y := by rfl) (hx : Loc X.env.scope y := by first | exact Or.inl rfl | exact Or.inr rfl) (hs : swapsWith e (some (.Name y pos')) pos.line X.env = pure false := by rfl) (hf : X.fn y = true ∨ X.env.scope.names.lookup y = some .local := by first | exact .inl rfl | exact .inr rfl) :
    PDS X (.Assign [.Name y pos'] e pos) (dAsg (.name i) de) := by
  obtain ⟨t1, a1, a2⟩ := he.ex
  have h := ss_asg (tg := .name i) a2
  simp only [Tgt.tg] at h
  exact ⟨_, ps_set hN hi hx a1 hs hf, h⟩
theorem s_asg {tgt : Tgt} (he : PD X e de) (hg : PDG X tg tgt) (hs : swapsWithSole [tg] e pos.line X.env = pure false := by rfl) (hw : swappedStores [tg] e X.env = pure none := by rfl)
    (h1 : (assignEach [tg] X.env).map (·.2) = [assign tg X.env] := by rfl) : PDS X (.Assign [tg] e pos) (dAsg tgt de) := by
  obtain ⟨t1, a1, a2⟩ := he.ex
  exact ⟨_, ps_asg a1 hg.ex hs hw h1, ss_asg a2⟩
/-- name = [..] -/
theorem s_setLc (i : Nat) (c : Bool) {y : Str} {py spos : Pos} {elt iter : Expr} {ifs : List Expr} {scope : Scope} (own : List (Str × Nat)) {it : DI} {tgt : Tgt} {tt : DT} {el : DE} (hN : X.N.Nodup) (hi : PDI X tg iter it) (ok : blkC X.N X.env.scope scope own = true)
    (hg : ∀ (s : Shared) (H : Hp) (C : Addr) (cl : List (Str × Addr)) (fp : List Addr), PDG (X.blk s H scope (compEnvC scope cl C X.env) fp) tg tgt) (ht : ∀ (s : Shared) (H : Hp) (C : Addr) (cl : List (Str × Addr)) (fp : List Addr), PDTs (X.blk s H scope (compEnvC scope cl C X.env) fp) ifs tt)
    (he : ∀ (s : Shared) (H : Hp) (C : Addr) (cl : List (Str × Addr)) (fp : List Addr), PD (X.blk s H scope (compEnvC scope cl C X.env) fp) elt el)
    (hsw : swapsWith (.ListComp elt [⟨tg, iter, ifs, 0⟩] scope pos) (some (.Name y py)) spos.line X.env = pure true) (hy : X.N[i]? = some y := by rfl) (hyl : X.env.scope.names.lookup y = some .local := by rfl) (hown : ∀ i ∈ tgt.slots, i ∈ own.map (·.2) := by decide) (hc : X.calm = true := by rfl) (hs : ∀ x, foldedSetIterable iter X.env x = pure x := by intro _; rfl) :
    PDS X (.Assign [.Name y py] (.ListComp elt [⟨tg, iter, ifs, 0⟩] scope pos) spos) (dAsg (.name i) (eComp c it tgt tt el (own.map (·.2)))) := by
  obtain ⟨t1, a1, a2⟩ := hi.ex
  have h := ss_asg (tg := .name i) (sim_lc (c := c) (tg := tgt) a2 simOfT simOf hown (K := X.K) (t := tt) (el := el))
  simp only [Tgt.tg] at h
  exact ⟨_, ps_setLc hc hN hy hyl hsw a1 (blkOk_by ok) (fun s H C cl fp => (hg s H C cl fp).ex) (fun s H C cl fp => (ht s H C cl fp).can) (fun s H C cl fp => (he s H C cl fp).can) hs, h⟩
theorem s_par (i j : Nat) {y z : Str} {px py pt : Pos} {kt k2 : Nat} {pt2 : Pos} (hN : X.N.Nodup) (ha : PD X a da) (hb : PD X b db) (hi : X.N[i]? = some y := by rfl) (hj : X.N[j]? = some z := by rfl) (hij : i ≠ j := by decide)
    (hx : X.env.scope.names.lookup y = some .local := by rfl) (hy : X.env.scope.names.lookup z = some .local := by rfl) (hc : X.calm = true := by rfl)
    (hst : starEach [a, b] X.env = (false, eval a X.env) :: starEach [b] X.env := by rfl) (hst2 : starEach [b] X.env = (false, eval b X.env) :: starEach [] X.env := by rfl)
    (hw : swappedStores [.Tuple [.Name y px, .Name z py] kt pt] (.Tuple [a, b] k2 pt2) X.env = pure (some [y, z]) := by rfl)
    (hs : swapsWithSole [.Tuple [.Name y px, .Name z py] kt pt] (.Tuple [a, b] k2 pt2) pos.line X.env = pure false := by rfl) :
    PDS X (.Assign [.Tuple [.Name y px, .Name z py] kt pt] (.Tuple [a, b] k2 pt2) pos) (dPar i j da db) := by
  obtain ⟨t1, a1, a2⟩ := ha.ex
  obtain ⟨t2, b1, b2⟩ := hb.ex
  exact ⟨_, ps_par hc hN hi hj hij hx hy (pa_cons a1 (pa_cons b1 pa_nil hst2) hst) hw hs, ss_par a2 b2⟩
structure AugR (X : Cx) (op : Operator) (f : O2) : Prop where
  ex : ∃ r, PIp X op r ∧ SimIp X.K r f
theorem u_add : AugR X .Add (oI fun i j => .int (i + j)) := ⟨_, ip_add, ip_addI⟩
theorem u_sub : AugR X .Sub (oI fun i j => .int (i - j)) := ⟨_, ip_sub, ip_subI⟩
theorem s_aug (i : Nat) {y : Str} {op : Operator} {f : O2} {pos' : Pos} (hN : X.N.Nodup) (hr : AugR X op f) (he : PD X e de) (hi : X.N[i]? = some y := by rfl) (hx : Loc X.env.scope y := by first | exact Or.inl rfl | exact Or.inr rfl) (hf : X.fn y = true ∨ X.env.scope.names.lookup y = some .local := by first | exact .inl rfl | exact .inr rfl) :
    PDS X (.AugAssign (.Name y pos') op e pos) (dAug i f de) := by
  obtain ⟨t1, a1, a2⟩ := he.ex
  obtain ⟨r, h1, h2⟩ := hr.ex
  exact ⟨_, ps_aug hN hi hx a1 h1 hf, ss_aug h2 a2⟩
theorem s_put {o i : Expr} {do_ di : DE} {pos' : Pos} (ho : PD X o do_) (hi : PD X i di) (he : PD X e de)
    (ha : ∀ v, assign (.Subscript o i pos') X.env v = (do
      let ov ← holding [v] (eval o X.env)
      let iv ← holding [v, ov] (eval i X.env)
      standAt pos'
      holding [v, ov, iv] (setItem ov iv v)
      release [v, ov, iv] []) := by intro _; rfl)
    (hs : swapsWithSole [.Subscript o i pos'] e pos.line X.env = pure false := by rfl) (hw : swappedStores [.Subscript o i pos'] e X.env = pure none := by rfl)
    (h1 : (assignEach [.Subscript o i pos'] X.env).map (·.2) = [assign (.Subscript o i pos') X.env] := by rfl) : PDS X (.Assign [.Subscript o i pos'] e pos) (dPut do_ di de) := by
  obtain ⟨t1, a1, a2⟩ := ho.ex
  obtain ⟨t2, b1, b2⟩ := hi.ex
  obtain ⟨t3, c1, c2⟩ := he.ex
  exact ⟨_, ps_asg c1 (pg_sub a1 b1 set_list ha) hs hw h1, ss_put a2 b2 c2⟩
theorem s_expr (he : PD X e de) (hs : swapsWith e none pos.line X.env = pure false := by rfl) : PDS X (.Expr e pos) (dExpr de) := by
  obtain ⟨t1, a1, a2⟩ := he.ex
  exact ⟨_, ps_expr a1 hs, ss_expr a2⟩
theorem s_ret (he : PD X e de) : PDS X (.Return (some e) pos) (dRet de) := by
  obtain ⟨t1, a1, a2⟩ := he.ex
  exact ⟨_, ps_ret a1, ss_ret a2⟩
theorem s_retN : PDS X (.Return none pos) dRetN := ⟨_, ps_retN, ss_retN⟩
theorem s_if {x y : List Stmt} {tc : DT} (hc : PDT X c tc) (ha : PDB X x s) (hb : PDB X y t) : PDS X (.If c x y pos) (dIf tc s t) := by
  obtain ⟨t1, a1, a2⟩ := hc.ex
  obtain ⟨t2, b1, b2⟩ := ha.ex
  obtain ⟨t3, c1, c2⟩ := hb.ex
  exact ⟨_, ps_if a1 b1 c1, ss_if a2 b2 c2⟩
theorem s_for {iter : Expr} {body : List Stmt} {it : DI} {tgt : Tgt} (hi : PDI X tg iter it) (hg : PDG X tg tgt) (hb : PDB X body s) (hp : PassesOwn (model X.prog X.w) X.A X.env X.xe := by exact PassesOwn.never) (hc : X.calm = true := by rfl) (hs : ∀ x, foldedSetIterable iter X.env x = pure x := by intro _; rfl) : PDS X (.For tg iter body [] pos) (dFor it tgt s) := by
  obtain ⟨t1, a1, a2⟩ := hi.ex
  obtain ⟨t3, c1, c2⟩ := hb.ex
  exact ⟨_, ps_for hp hc a1 hg.ex c1 hs, ss_for a2 c2⟩
theorem s_while {body : List Stmt} {tc : DT} (hc : PDT X c tc) (hb : PDB X body s) (hp : PassesOwn (model X.prog X.w) X.A X.env X.xe := by exact PassesOwn.never) : PDS X (.While c body [] pos) (dWhile tc s) := by
  obtain ⟨t1, a1, a2⟩ := hc.ex
  obtain ⟨t3, c1, c2⟩ := hb.ex
  exact ⟨_, ps_while hp a1 c1, ss_while a2 c2⟩
end
/-- a def by its name -/
structure Has (P : Program) (w : World) (K : PySem.W.Frag) (mg : Str → Option Value) (base : Heap) (x : Str) (k n : Nat) (df : DF) : Prop where
  ex : ∃ (f : Addr) (fd : FuncData) (ps : List Str), FnOk P w K mg base CX0 k f fd ps (spD K df n) ∧ mg x = some (.ref f) ∧ PySem.W.keepIn K (.ref f) = true ∧ Binds K fd ps []
section
variable {X : Cx} {e : Expr} {es : List Expr} {das : DA} {p pos : Pos} {x : Str} {k n : Nat} {df : DF}
theorem d_def (Hs : Has X.prog X.w X.K X.mg X.base x k n df) (hr : Room k X.A) (ha : PDA X (e :: es) das n) (hg : Gl X x := by rfl) (hdb : (x == ("__debug__" : Str)) = false := by decide) (he : starEach (e :: es) X.env = (false, eval e X.env) :: starEach es X.env := by rfl) (hpl : (backTo pos (starEach es X.env)).any (·.1) = false := by rfl) :
    PD X (.Call (.Name x p) (e :: es) [] pos) (eCall df das) := by
  obtain ⟨f, fd, ps, F, hm, hk, hb⟩ := Hs.ex
  exact d_call F hr hg hm hk hb ha hdb he hpl
theorem d_def0 (Hs : Has X.prog X.w X.K X.mg X.base x k 0 df) (hr : Room k X.A) (hg : Gl X x := by rfl) (hdb : (x == ("__debug__" : Str)) = false := by decide) : PD X (.Call (.Name x p) [] [] pos) (eCall df aNil) := by
  obtain ⟨f, fd, ps, F, hm, hk, hb⟩ := Hs.ex
  exact d_call0 F hr hg hm hk hb hdb
end
theorem bits_log {ns : List Int} (h : ∀ z ∈ ns, Builtin.Int.intBits z ≤ 1048576) : ∀ z ∈ ns, z.natAbs.log2 < 1048577 := fun z hz => by
  have q := h z hz
  unfold Builtin.Int.intBits at q
  split at q
  · rename_i e
    have e2 : z = 0 := by simpa using e
    subst e2
    decide
  · omega
/-- the law's own promise, from what it does -/
theorem law_sp {K : PySem.W.Frag} {H : Hp} {a : Addr} {ns : List Int} {f : DF} {M' : DSt} (hS : SqL K H a (ns.map V.int)) (h : f [.r (ns.map D.int)] [] = some (.d (.bl true), M')) : spD K f 1 [.ref a] H (fun v _ => v = .bl true) fun _ _ _ => False :=
  ⟨⟨fun _ => none, fun _ => none⟩, [], H, [], [.r (ns.map D.int)], .d (.bl true), M', ⟨Evl.Ex.refl _, fun _ _ e => (nomatch e), fun _ _ e => (nomatch e), fun _ _ e => (nomatch e), fun _ _ e => (nomatch e), fun _ _ e => (nomatch e), fun _ h => (nomatch h), fun n a ds e => by simp at e, rfl, List.Pairwise.nil, fun _ h => (nomatch h), fun n ds e => by simp at e⟩,
    .cons ⟨a, _, rfl, hS, Rvs.of_ints ns⟩ .nil, rfl, h, fun _ _ _ _ _ _ r => by cases r; rfl⟩
end Rw
end PRwRules2
section PRwExt
set_option Elab.async false
set_option linter.all false
set_option maxRecDepth 100000
set_option maxHeartbeats 2000000
/-! RwExt: the layer keeps the further constructs. -/
namespace Rw
open PySem L2 PySem.Spec PyProof.Rows
open Evl (Ex)
/-! ### a def that calls itself -/
theorem fn_none {P : Program} {w : World} {K : PySem.W.Frag} {mg : Str → Option Value} {base : Heap} {k n : Nat} {f : Addr} {fd : FuncData} {ps : List Str} : FnOk P w K mg base CX0 k f fd ps (spD K (fun _ _ => none) n) :=
  have no : ∀ vs H Q E, ¬ spD K (fun _ _ => none) n vs H Q E := fun vs H Q E h => by
    obtain ⟨_, _, _, _, _, _, _, _, _, _, h, _⟩ := h
    cases h
  ⟨fun vs H Q E h => (no _ _ _ _ h).elim, fun A outer s H args us vs Q E hr he hb hv h => (no _ _ _ _ h).elim⟩
section
variable {K : PySem.W.Frag}
/-! ### range of three -/
theorem fits_of {x : Int} (h : -1000000000000 ≤ x) (h' : x ≤ 1000000000000) : Builtin.Range.rangeFitsLong x = true := by
  unfold Builtin.Range.rangeFitsLong
  rw [Bool.and_eq_true]
  exact ⟨decide_eq_true (by omega), decide_eq_true (by omega)⟩
theorem size_bd {i j c : Int} (hc : c ≠ 0) (hi : -1000000000 ≤ i ∧ i ≤ 1000000000) (hj : -1000000000 ≤ j ∧ j ≤ 1000000000) : 0 ≤ Builtin.Range.rangeSize i j c ∧ Builtin.Range.rangeSize i j c ≤ 3000000000 := by
  unfold Builtin.Range.rangeSize
  by_cases h : c > 0
  · rw [if_pos h]
    by_cases h2 : i < j
    · rw [if_pos h2]
      have a := Int.ediv_nonneg (show 0 ≤ j - i - 1 by omega) (show 0 ≤ c by omega)
      have b := Int.ediv_le_self c (show 0 ≤ j - i - 1 by omega)
      omega
    · rw [if_neg h2]
      omega
  · rw [if_neg h]
    by_cases h2 : i > j
    · rw [if_pos h2]
      have a := Int.ediv_nonneg (show 0 ≤ i - j - 1 by omega) (show 0 ≤ -c by omega)
      have b := Int.ediv_le_self (-c) (show 0 ≤ i - j - 1 by omega)
      omega
    · rw [if_neg h2]
      omega
theorem rgC_of {i j c : Int} (hc : c ≠ 0) (c0 : -1000000 ≤ c) (c1 : c ≤ 1000000) (hi : -1000000000 ≤ i ∧ i ≤ 1000000000) (hj : -1000000000 ≤ j ∧ j ≤ 1000000000) : RgC i j c (szC i j c) := by
  obtain ⟨s0, s1⟩ := size_bd hc hi hj
  refine ⟨hc, by omega, ?_, ?_⟩
  · unfold Builtin.Range.small
    rw [fits_of (by omega) (by omega), fits_of (by omega) (by omega), fits_of (by omega) (by omega), fits_of (by omega) (by omega)]
    simp only [Bool.true_and]
    rw [Bool.or_eq_true]
    right
    split
    · exact fits_of (by omega) (by omega)
    · exact fits_of (by omega) (by omega)
  · have : (szC i j c : Int) = Builtin.Range.rangeSize i j c := by
      unfold szC
      rw [show (if c > 0 then (if i < j then (j - i - 1) / c + 1 else 0) else (if i > j then (i - j - 1) / (-c) + 1 else 0)) = Builtin.Range.rangeSize i j c from rfl]
      omega
    exact this.symm
theorem rxs3 {κ : List Addr} {G : Hp} {us : List V} {x y z : Dv} (r : Rxs K κ G us [x, y, z]) : ∃ u v w, us = [u, v, w] ∧ Rx K κ G u x ∧ Rx K κ G v y ∧ Rx K κ G w z := by
  cases r with
  | cons a r =>
    cases r with
    | cons b r =>
      cases r with
      | cons c r =>
        cases r
        exact ⟨_, _, _, rfl, a, b, c⟩
theorem rngC_length (i c : Int) (n : Nat) : (rngC i c n).length = n := by simp [rngC]
theorem rngC_get {a c : Int} {n i : Nat} (h : i < n) : (rngC a c n)[i]? = some (.int (a + (i : Int) * c)) := by unfold rngC; simp [h]
theorem sim_iR3 {ta : TA} {a : DA} (ha : SimA K ta a) : SimI K (iRng3 ta) (iR3 a) := ⟨fun {F κ G σ ρ M H xs src M' R} S E h k => by
  unfold iR3 at h
  split at h
  · rename_i lo j c M1 e
    obtain ⟨⟨hc, c0, c1, i0, i1, j0, j1⟩, h⟩ := grd_some h
    cases h
    refine ha.run S E e fun κ1 G1 us H1 l1 S1 r1 => ?_
    obtain ⟨u, v, w, rfl, ru, rv, rw'⟩ := rxs3 r1
    obtain rfl := rx_int ru
    obtain rfl := rx_int rv
    obtain rfl := rx_int rw'
    refine ⟨lo, j, c, szC lo j c, rfl, rgC_of hc c0 c1 ⟨i0, i1⟩ ⟨j0, j1⟩, ?_⟩
    refine k κ1 G1 H1 (Itc lo c (szC lo j c)) (fun _ => True) (YFn fun i => .int (lo + (i : Nat) * c)) l1 S1 (by rw [rngC_length]; exact walk_rangeC) (fun _ _ _ _ _ _ _ _ => trivial) fun i F2 κ2 G2 M2 H2 x H3 hi l2 S2 st y => ?_
    obtain ⟨rfl, rfl⟩ := y
    rw [rngC_length] at hi
    exact ⟨G2, _, Ex.refl _, S2, rngC_get hi, .int _⟩
  · cases h⟩
/-! ### the greatest, the least of a list of ints -/
theorem maxZ_mem : ∀ {ns : List Int}, 0 < ns.length → maxZ ns ∈ ns
  | [], h => by simp at h
  | [x], _ => by simp [maxZ]
  | x :: y :: r, _ => by
    have ih := maxZ_mem (ns := y :: r) (by simp)
    unfold maxZ
    rw [Int.max_def]
    split
    · exact List.mem_cons_of_mem _ ih
    · simp
theorem maxZ_ge : ∀ {ns : List Int} {x : Int}, x ∈ ns → x ≤ maxZ ns
  | [], x, h => by cases h
  | [y], x, h => by
    simp at h
    subst h
    simp [maxZ]
  | z :: y :: r, x, h => by
    unfold maxZ
    rcases List.mem_cons.mp h with rfl | h
    · omega
    · have := maxZ_ge (ns := y :: r) h
      omega
theorem minZ_mem : ∀ {ns : List Int}, 0 < ns.length → minZ ns ∈ ns
  | [], h => by simp at h
  | [x], _ => by simp [minZ]
  | x :: y :: r, _ => by
    have ih := minZ_mem (ns := y :: r) (by simp)
    unfold minZ
    rw [Int.min_def]
    split
    · simp
    · exact List.mem_cons_of_mem _ ih
theorem minZ_le : ∀ {ns : List Int} {x : Int}, x ∈ ns → minZ ns ≤ x
  | [], x, h => by cases h
  | [y], x, h => by
    simp at h
    subst h
    simp [minZ]
  | z :: y :: r, x, h => by
    unfold minZ
    rcases List.mem_cons.mp h with rfl | h
    · omega
    · have := minZ_le (ns := y :: r) h
      omega
theorem sa_max1 : SimRA K (rMax K) oMax1 := fun {F κ G M H Q xs z M' us} S r h k => by
  unfold oMax1 at h
  split at h
  · split at h
    · rename_i xs e
      split at h
      · rename_i ns en
        obtain ⟨hp, h⟩ := grd_some h
        cases h
        obtain ⟨u, rfl, a⟩ := rxs1 r
        obtain ⟨p, vs, rfl, hs, rr⟩ := lv_at S a e
        rw [rr.ints_of en] at hs
        refine ⟨p, ns, rfl, hs, hp, fun m hm hg => ?_⟩
        have : m = maxZ ns := Int.le_antisymm (maxZ_ge hm) (hg _ (maxZ_mem hp))
        subst this
        exact k.here S (Rv.int _)
      · cases h
    · cases h
  · cases h
theorem sa_min1 : SimRA K (rMin K) oMin1 := fun {F κ G M H Q xs z M' us} S r h k => by
  unfold oMin1 at h
  split at h
  · split at h
    · rename_i xs e
      split at h
      · rename_i ns en
        obtain ⟨hp, h⟩ := grd_some h
        cases h
        obtain ⟨u, rfl, a⟩ := rxs1 r
        obtain ⟨p, vs, rfl, hs, rr⟩ := lv_at S a e
        rw [rr.ints_of en] at hs
        refine ⟨p, ns, rfl, hs, hp, fun m hm hg => ?_⟩
        have : m = minZ ns := Int.le_antisymm (hg _ (minZ_mem hp)) (minZ_le hm)
        subst this
        exact k.here S (Rv.int _)
      · cases h
    · cases h
  · cases h
/-! ### xs.reverse() -/
theorem sm_reverse : SimRM K "list" rReverse mReverse := fun {F κ G M H Q x xs z M' u us} S r rs h k => by
  unfold mReverse at h
  split at h
  · rename_i n
    split at h
    · rename_i ys e
      cases h
      obtain ⟨a, rfl, ha⟩ := r
      obtain ⟨vs, _, _, e3, e4⟩ := cell_at S e ha
      refine ⟨a, vs, rfl, rxs0 rs, e3, ?_⟩
      exact k κ G _ _ (Le.refl _ _) (S.put e ha e4.reverse) Rv.non
    · cases h
  · cases h
theorem lm_reverse : ∀ v as M z, mReverse v as M = some z → ∃ n, v = .c n := fun v as M z h => by
  unfold mReverse at h
  split at h
  · exact ⟨_, rfl⟩
  · cases h
/-! ### o[i] op= e -/
def rGetL : V → V → Hp → VK → Prop := fun o i H Q => ∃ p xs k j z, o = .ref p ∧ i = .int k ∧ H p = some (.lst xs) ∧ ixN xs.length k = some j ∧ xs[j]? = some z ∧ Q z H
theorem get_list {X : Cx} : PGet X rGetL := by
  intro pins s σ H o i ov iv Q I ro ri h
  obtain ⟨p, xs, k, j, z, rfl, rfl, hp, hj, hz, q⟩ := h
  cases ro
  obtain ⟨t, rfl⟩ := ri
  obtain ⟨its, r, pl, hsz⟩ := I.list (SqL.of hp)
  obtain ⟨w, ew, rw'⟩ := r.get hz
  have hl := r.length
  have hn := line63
  have fin : EP X pins σ Q w s := ⟨z, H, I, rw', q⟩
  have hjl : j < xs.length := (List.getElem?_eq_some_iff.mp hz).1
  unfold ixN at hj
  by_cases h0 : 0 ≤ k
  · rw [if_pos h0] at hj
    split at hj
    · rename_i hk
      have ej : k.toNat = j := Option.some.inj hj
      exact wpAny_getItem_list pl.isList h0 (by omega) (by rw [ej]; simpa using ew) fin
    · cases hj
  · rw [if_neg h0] at hj
    split at hj
    · rename_i hk
      have ej : (k + (xs.length : Int)).toNat = j := Option.some.inj hj
      refine wpAny_getItem_list_neg pl.isList (by omega) (by rw [List.size_toArray] <;> omega) (by omega) ?_ fin
      rw [List.size_toArray, ← hl, ej]
      simpa using ew
    · cases hj
theorem ss_augS {to ti te : TE} {o i e : DE} {r : TIp} {f : O2} (hr : SimIp K r f) (ho : SimE K to o) (hi : SimE K ti i) (he : SimE K te e) : SimS K (tAugS to ti te rGetL r rSetL) (dAugS f o i e) := ⟨fun {F κ G σ ρ M H D oo} S E h k => by
  unfold dAugS at h
  split at h
  · rename_i n M1 e1
    split at h
    · rename_i kk M2 e2
      split at h
      · rename_i xs ex
        split at h
        · rename_i j ej
          split at h
          · rename_i x exj
            split at h
            · rename_i y M3 e3
              split at h
              · rename_i z M4 e4
                split at h
                · rename_i ys ey
                  split at h
                  · rename_i hl
                    cases h
                    refine ho.run S E e1 fun κ1 G1 u H1 l1 S1 r1 => hi.run S1 (E.mono l1) e2 fun κ2 G2 v H2 l2 S2 r2 => ?_
                    obtain ⟨a, rfl, ha⟩ := r1.mono l2
                    obtain ⟨us, _, _, q3, q4⟩ := cell_at S2 ex ha
                    obtain ⟨w, hw, rw'⟩ := q4.get exj
                    refine ⟨a, us, kk, j, w, rfl, rx_int r2, q3, by rw [q4.length, ← ixD_eq]; exact ej, hw, ?_⟩
                    refine he.run S2 ((E.mono l1).mono l2) e3 fun κ3 G3 y' H3 l3 S3 r3 => hr S3 (show Rx K κ3 G3 w (.d x) from Rv.mono l3.ex rw') r3 e4 fun κ4 G4 z' H4 l4 S4 r4 => ?_
                    have ha4 := l4.at_ (l3.at_ ha)
                    obtain ⟨us4, _, _, p3, p4⟩ := cell_at S4 ey ha4
                    refine ⟨a, us4, kk, j, rfl, rx_int r2, p3, by rw [p4.length, hl, ← ixD_eq]; exact ej, ?_⟩
                    exact k κ4 G4 σ _ (((l1.trans l2).trans l3).trans l4) (S4.put ey ha4 (p4.set r4 j)) ((((E.mono l1).mono l2).mono l3).mono l4)
                  · cases h
                · cases h
              · cases h
            · cases h
          · cases h
        · cases h
      · cases h
    · cases h
  · cases h⟩
end
section
variable {X : Cx} {a b c e o i : Expr} {pos : Pos} {da db dc de do_ di : DE} {es : List Expr} {das : DA} {n : Nat} {p : Pos} {tg : Expr}
theorem i_r3 (hm : X.mg "range" = none) (ha : PDA X [a, b, c] das n) (hg : Gl X "range" := by rfl) (hs : starEach [a, b, c] X.env = (false, eval a X.env) :: starEach [b, c] X.env := by rfl) (hpl : (backTo pos (starEach [b, c] X.env)).any (·.1) = false := by rfl) : PDI X tg (.Call (.Name "range" p) [a, b, c] [] pos) (iR3 das) := by
  obtain ⟨t, h1, h2⟩ := ha.ex
  exact ⟨_, pi_range3 hg hm h1 hs hpl, sim_iR3 h2⟩
theorem d_max1 (hm : X.mg "max" = none) (ha : PDA X (e :: es) das n) (hc : X.calm = true := by rfl) (hg : Gl X "max" := by rfl) (he : starEach (e :: es) X.env = (false, eval e X.env) :: starEach es X.env := by rfl) (hpl : (backTo pos (starEach es X.env)).any (·.1) = false := by rfl) : PD X (.Call (.Name "max" p) (e :: es) [] pos) (eA oMax1 das) := d_bi (x := "max") (cr_max hc) sa_max1 hg hm (by decide +kernel) ha (he := he) (hpl := hpl)
theorem d_min1 (hm : X.mg "min" = none) (ha : PDA X (e :: es) das n) (hc : X.calm = true := by rfl) (hg : Gl X "min" := by rfl) (he : starEach (e :: es) X.env = (false, eval e X.env) :: starEach es X.env := by rfl) (hpl : (backTo pos (starEach es X.env)).any (·.1) = false := by rfl) : PD X (.Call (.Name "min" p) (e :: es) [] pos) (eA oMin1 das) := d_bi (x := "min") (cr_min hc) sa_min1 hg hm (by decide +kernel) ha (he := he) (hpl := hpl)
theorem d_reverse {apos : Pos} (ho : PD X a da) (hbase : attributeBase a "reverse" X.env (eval a X.env) = eval a X.env := by rfl) (hline : (apos.endLine == pos.line) = true := by rfl) : PD X (.Call (.Attribute a "reverse" apos) [] [] pos) (eM mReverse da aNil) := by
  obtain ⟨t, h1, h2⟩ := ho.ex
  exact ⟨_, pe_bm0 PySem.F.plainAttrs_list PySem.F.slot_list_reverse PySem.F.type_list_reverse mt_reverse h1 hbase hline, sim_bm0 sm_reverse lm_reverse h2⟩
theorem s_augS {op : Operator} {f : O2} {tpos : Pos} (hr : AugR X op f) (ho : PD X o do_) (hi : PD X i di) (he : PD X e de) (ha : ∀ ov iv new, augStore i ov iv new = (do holding [new, ov, iv] (setItem ov iv new); release [new, ov, iv] []; pure .next) := by intros; rfl) :
    PDS X (.AugAssign (.Subscript o i tpos) op e pos) (dAugS f do_ di de) := by
  obtain ⟨t1, a1, a2⟩ := ho.ex
  obtain ⟨t2, b1, b2⟩ := hi.ex
  obtain ⟨t3, c1, c2⟩ := he.ex
  obtain ⟨r, h1, h2⟩ := hr.ex
  exact ⟨_, ps_augS a1 b1 get_list c1 h1 set_list ha, ss_augS h2 a2 b2 c2⟩
end
/-! ### <= of two tuples of two ints -/
theorem sr_leT {K : PySem.W.Frag} : SimR2 K (rLeT K) oLeT := fun {F κ G M H Q x y z M' u v} S rx ry h k => by
  unfold oLeT at h
  split at h
  · rename_i a b c d
    cases h
    cases rx with
    | tup sx vx =>
      rename_i p us
      cases ry with
      | tup sy vy =>
        rename_i q vs
        have e1 := Rvs.ints_of vx (ns := [a, b]) rfl
        have e2 := Rvs.ints_of vy (ns := [c, d]) rfl
        subst e1
        subst e2
        refine ⟨p, q, [a, b], [c, d], rfl, rfl, Evl.ex_t S.ex sx, Evl.ex_t S.ex sy, ?_⟩
        have ev : Ob.lexAt (fun j => decide (([a, b] : List Int).getD j 0 = ([c, d] : List Int).getD j 0)) (fun j => decide (([a, b] : List Int).getD j 0 ≤ ([c, d] : List Int).getD j 0)) (decide (([a, b] : List Int).length ≤ ([c, d] : List Int).length)) 0 (min ([a, b] : List Int).length ([c, d] : List Int).length) = (if a = c then decide (b ≤ d) else decide (a ≤ c)) := by
          show (if decide (a = c) = true then (if decide (b = d) = true then decide ((2 : Nat) ≤ 2) else decide (b ≤ d)) else decide (a ≤ c)) = _
          by_cases h1 : a = c
          · by_cases h2 : b = d
            · simp [h1, h2]
            · simp [h1, h2]
          · simp [h1]
        rw [ev]
        exact k.here S (Rv.bl _)
  · cases h
theorem k_leT {X : Cx} {k : Nat} (hr : Room k X.A) : CmpR X .LtE oLeT := ⟨_, op_leT (Nat.lt_of_le_of_lt (Nat.le_add_right _ 64) hr.units), sr_leT⟩
end Rw
end PRwExt
section PRwExc
set_option Elab.async false
set_option linter.all false
set_option maxRecDepth 100000
set_option maxHeartbeats 2000000
/-! RwExc: runs that end in an exception. -/
namespace Rw
open PySem L2 PySem.Spec PyProof.Rows
open Evl (Ex)
/-- what is wished of an exception -/
def XP (K : PySem.W.Frag) (F : Fz) (κ : List Addr) (G : Hp) (W : WX) (c : String) (ρ' : DEnv) (M' : DSt) : Prop :=
  ∀ κ' G' σ' H' cls, Le κ G κ' G' → Sm K F κ' G' M' H' → Se K κ' G' σ' ρ' → ClsK K c cls → W cls none σ' H'
theorem XP.weak {K : PySem.W.Frag} {F : Fz} {κ κ1 : List Addr} {G G1 : Hp} {W : WX} {c : String} {ρ' : DEnv} {M' : DSt} (l : Le κ G κ1 G1) (k : XP K F κ G W c ρ' M') : XP K F κ1 G1 W c ρ' M' :=
  fun κ' G' σ' H' cls l' S E h => k κ' G' σ' H' cls (l.trans l') S E h
structure PDX (X : Cx) (W : WX) (ss : List Stmt) (x : DX) : Prop where
  ex : ∀ {F κ G σ ρ M H c ρ' M'} (D : Ends), Sm X.K F κ G M H → Se X.K κ G σ ρ → x ρ M = some (c, ρ', M') → XP X.K F κ G W c ρ' M' → ∃ t, PSs X ss t ∧ t D σ H
structure PDX1 (X : Cx) (W : WX) (s : Stmt) (x : DX) : Prop where
  ex : ∀ {F κ G σ ρ M H c ρ' M'} (D : Ends), Sm X.K F κ G M H → Se X.K κ G σ ρ → x ρ M = some (c, ρ', M') → XP X.K F κ G W c ρ' M' → ∃ t, PS X s t ∧ t D σ H
structure PEX (X : Cx) (W : WX) (e : Expr) (x : DX) : Prop where
  ex : ∃ t, PE X e t ∧ ∀ {F κ G σ ρ M H c ρ' M'} (Q : VK), Sm X.K F κ G M H → Se X.K κ G σ ρ → x ρ M = some (c, ρ', M') → XP X.K F κ G W c ρ' M' → t σ H Q
section
variable {X : Cx} {W : WX} {st : Stmt} {rest : List Stmt} {s : DS} {x y : DX} {e : Expr} {pos : Pos}
theorem pss_any {ss : List Stmt} : PSs X ss (fun D σ H => ∃ t, PSs X ss t ∧ t D σ H) := ⟨fun pins s σ H D I ⟨t, ht, hw⟩ => ht.run pins s σ H D I hw⟩
theorem pss_some : ∀ ss : List Stmt, ∃ t, PSs X ss t
  | [] => ⟨_, pss_nil⟩
  | _ :: r => let ⟨_, h⟩ := pss_some r; ⟨_, pss_cons ps_never h⟩
theorem x_no : PDX X W rest xNo := ⟨fun D S E h k => by cases h⟩
theorem x_alt (hx : PDX X W rest x) (hy : PDX X W rest y) : PDX X W rest (xAlt x y) := ⟨fun D S E h k => by
  unfold xAlt at h
  split at h
  · rename_i r e
    cases h
    exact hx.ex D S E e k
  · exact hy.ex D S E h k⟩
theorem x_here (hx : PDX1 X W st x) : PDX X W (st :: rest) x := ⟨fun D S E h k => by
  obtain ⟨u, hu⟩ := pss_some (X := X) rest
  obtain ⟨t, ht, hw⟩ := hx.ex { D with nx := u D } S E h k
  exact ⟨_, pss_cons ht hu, hw⟩⟩
theorem x_cons (hs : PDS X st s) (hx : PDX X W rest x) : PDX X W (st :: rest) (xSeq s x) := ⟨fun {F κ G σ ρ M H c ρ' M'} D S E h k => by
  unfold xSeq at h
  split at h
  · rename_i ρ1 M1 e1
    obtain ⟨t, ht, hw⟩ := hs.ex
    refine ⟨_, pss_cons ht pss_any, ?_⟩
    refine hw.run (D := { D with nx := fun σ H => ∃ t, PSs X rest t ∧ t D σ H }) S E e1 ?_
    intro κ1 G1 σ1 H1 l1 S1 E1
    exact hx.ex D S1 E1 h (k.weak l1)
  · cases h⟩
theorem x_if {c : Expr} {ss ts : List Stmt} {tc : DT} {pos : Pos} (hc : PDT X c tc) (hx : PDX X W ss x) (hy : PDX X W ts y) : PDX1 X W (.If c ss ts pos) (xIf tc x y) := ⟨fun {F κ G σ ρ M H c ρ' M'} D S E h k => by
  unfold xIf at h
  obtain ⟨t, ht, hw⟩ := hc.ex
  refine ⟨_, ps_if ht pss_any pss_any, ?_⟩
  split at h
  · rename_i M1 e1
    refine hw.run S E e1 fun κ1 G1 H1 l1 S1 => ?_
    show (if true = true then _ else _)
    rw [if_pos rfl]
    exact hx.ex D S1 (E.mono l1) h (k.weak l1)
  · rename_i M1 e1
    refine hw.run S E e1 fun κ1 G1 H1 l1 S1 => ?_
    show (if false = true then _ else _)
    rw [if_neg Bool.false_ne_true]
    exact hy.ex D S1 (E.mono l1) h (k.weak l1)
  · cases h⟩
theorem x_expr (he : PEX X W e x) (hs : swapsWith e none pos.line X.env = pure false := by rfl) : PDX1 X W (.Expr e pos) x := ⟨fun D S E h k => by
  obtain ⟨t, ht, hw⟩ := he.ex
  exact ⟨_, ps_expr ht hs, hw _ S E h k⟩⟩
theorem x_ret (he : PEX X W e x) : PDX1 X W (.Return (some e) pos) x := ⟨fun D S E h k => by
  obtain ⟨t, ht, hw⟩ := he.ex
  exact ⟨_, ps_ret ht, hw _ S E h k⟩⟩
theorem x_set (i : Nat) {v : Str} {pos' : Pos} (hN : X.N.Nodup) (he : PEX X W e x) (hi : X.N[i]? = some v := by rfl) (hx : Loc X.env.scope v := by first | exact Or.inl rfl | exact Or.inr rfl) (hs : swapsWith e (some (.Name v pos')) pos.line X.env = pure false := by rfl) (hf : X.fn v = true ∨ X.env.scope.names.lookup v = some .local := by first | exact .inl rfl | exact .inr rfl) :
    PDX1 X W (.Assign [.Name v pos'] e pos) x := ⟨fun D S E h k => by
  obtain ⟨t, ht, hw⟩ := he.ex
  exact ⟨_, ps_set hN hi hx ht hs hf, hw _ S E h k⟩⟩
end
section
variable {X : Cx} {W : WX} {x : DX} {pos : Pos}
/-- what is walked raises -/
theorem x_for {tg iter : Expr} {tgt : Tgt} {body : List Stmt} (he : PEX X W iter x) (hg : PDG X tg tgt) (hp : PassesOwn (model X.prog X.w) X.A X.env X.xe := by exact PassesOwn.leaving) (hc : X.calm = true := by rfl) (hs : ∀ x, foldedSetIterable iter X.env x = pure x := by intro _; rfl) : PDX1 X W (.For tg iter body [] pos) x := ⟨fun D S E h k => by
  obtain ⟨t, ht, hw⟩ := he.ex
  obtain ⟨u, hu⟩ := pss_some (X := X) body
  exact ⟨_, ps_for hp hc (pi_list ht) hg.ex hu hs, hw _ S E h k⟩⟩
end
/-- an own class of errors, as it stands behind the top -/
structure OwnX (K : PySem.W.Frag) (mg : Str → Option Value) (c : String) (C : Addr) : Prop where
  ns : ClsK K c (.ref C)
  gC : mg (Str.ofString c) = some (.ref C)
  xC : PySem.W.excIn K C [.type "ValueError", .type "Exception", .type "BaseException", .type "object"] "ValueError.__new__" = true
  kC : PySem.W.keepIn K (.ref C) = true
  bC : PySem.W.subIn K (.ref C) (.type "BaseException") = some true
  tC : PySem.W.typeIn K (.ref C) = some (.type "type")
  dC : PySem.W.hasDictIn K C = true
section
variable {X : Cx} {W : WX} {pos p p2 : Pos}
theorem x_raise {c : String} {C : Addr} {v m : Str} {j : Nat} {pos' : Pos} (O : OwnX X.K X.mg c C) (tk : Takes X W) (hv : v = Str.ofString c := by rfl) (hg : Gl X v := by exact rfl) (hc : X.calm = true := by rfl) (hdb : (v == ("__debug__" : Str)) = false := by decide) :
    PDX1 X W (.Raise (some (.Call (.Name v p) [.Constant (.str m) j p2] [] pos)) none pos') (xRaise c) := ⟨fun {F κ G σ ρ M H c ρ' M'} D S E h k => by
  cases h
  subst hv
  exact ⟨_, ps_raise hc tk (pmk_own PySem.F.excBase_ValueError O.xC O.gC O.kC (raises_own O.bC O.tC) hg hdb), k κ G σ H _ (Le.refl _ _) S E O.ns⟩⟩
end
/-- a def's promise: it raises as f -/
def spX (K : PySem.W.Frag) (f : FX) (n : Nat) : Sp := fun vs H _ E => ∃ F κ G M as c M', Sm K F κ G M H ∧ Rxs K κ G vs as ∧ as.length = n ∧ f as M = some (c, M') ∧
  ∀ κ' G' H' cls, Le κ G κ' G' → Sm K F κ' G' M' H' → ClsK K c cls → E cls none H'
structure HasX (P : Program) (w : World) (K : PySem.W.Frag) (mg : Str → Option Value) (base : Heap) (x : Str) (k n : Nat) (fx : FX) : Prop where
  ex : ∃ (f : Addr) (fd : FuncData) (ps : List Str), FnOk P w K mg base (L2.CX P w) k f fd ps (spX K fx n) ∧ mg x = some (.ref f) ∧ PySem.W.keepIn K (.ref f) = true ∧ Binds K fd ps []
section
variable {X : Cx} {W : WX} {e : Expr} {es : List Expr} {das : DA} {p pos : Pos} {x : Str} {k n : Nat} {fx : FX}
theorem x_call (Hs : HasX X.prog X.w X.K X.mg X.base x k n fx) (hr : Room k X.A) (tk : Takes X W) (ha : PDA X (e :: es) das n) (hg : Gl X x := by rfl) (hdb : (x == ("__debug__" : Str)) = false := by decide) (he : starEach (e :: es) X.env = (false, eval e X.env) :: starEach es X.env := by rfl) (hpl : (backTo pos (starEach es X.env)).any (·.1) = false := by rfl) :
    PEX X W (.Call (.Name x p) (e :: es) [] pos) (xCall fx das) := by
  obtain ⟨f, fd, ps, F, hm, hk, hb⟩ := Hs.ex
  obtain ⟨t, h1, h2⟩ := ha.ex
  refine ⟨_, pe_callS F hr hg hm hk hb (fun σ => passAt tk σ) h1 hdb he hpl, ?_⟩
  intro F κ G σ ρ M H c ρ' M' Q S E h k
  unfold xCall at h
  split at h
  · rename_i vs M1 e1
    split at h
    · rename_i c1 M2 e2
      cases h
      refine h2.run S E e1 fun κ1 G1 us H1 l1 S1 r1 => ?_
      exact ⟨F, κ1, G1, M1, vs, c, M', S1, r1, ha.len _ _ _ _ e1, e2, fun κ' G' H' cls l S' hc => k κ' G' σ H' cls (l1.trans l) S' (E.mono (l1.trans l)) hc⟩
    · cases h
  · cases h
end
section
variable {X : Cx} {W : WX} {e : Expr} {p pos : Pos} {x : Str} {k n : Nat} {df : DF} {dx : DX}
/-- a call whose one argument raises -/
theorem x_arg (Hs : Has X.prog X.w X.K X.mg X.base x k 1 df) (hr : Room k X.A) (ha : PEX X W e dx) (hg : Gl X x := by rfl) (hdb : (x == ("__debug__" : Str)) = false := by decide) (he : starEach [e] X.env = (false, eval e X.env) :: starEach [] X.env := by rfl) (hpl : (backTo pos (starEach [] X.env)).any (·.1) = false := by rfl) :
    PEX X W (.Call (.Name x p) [e] [] pos) dx := by
  obtain ⟨f, fd, ps, F, hm, hk, hb⟩ := Hs.ex
  obtain ⟨t, h1, h2⟩ := ha.ex
  refine ⟨_, pe_callS F hr hg hm hk hb (E := fun _ => E0) (fun σ => (fun _ _ _ _ _ _ h => h.elim)) (pa_cons h1 pa_nil he) hdb he hpl, ?_⟩
  intro F' κ G σ ρ M H c ρ' M' Q S E h kk
  exact h2 _ S E h kk
end
/-- THE RULE for a def that raises -/
theorem fn_okX {P : Program} {w : World} {K : PySem.W.Frag} {mg : Str → Option Value} {base : Heap} {x qual : Str} {st : Stmt} {f : Addr} {fd : FuncData} {N ps : List Str} {k : Nat} {dx : DX} (F : Fun K x qual st f fd) (S : FnScope N ps (defScope st))
    (hb : ∀ (cdv : Value) (A : Around) (outer : List Env) (s : Shared) (H : Hp) (E : XK), Room k (A.deeper (envOfC qual (defScope st) s.heap.objs.size f cdv)) → Takes (cxOf (L2.CX P w) P w K mg base N qual (defScope st) f cdv A outer s H E) (fun cls d _ H => E cls d H) → PDX (cxOf (L2.CX P w) P w K mg base N qual (defScope st) f cdv A outer s H E) (fun cls d _ H => E cls d H) (defBody st) dx) :
    FnOk P w K mg base (L2.CX P w) (k + 1) f fd ps (spX K (fnX N.length dx) ps.length) := by
  refine F.okX S (fun vs H Q E h => ?_) (fun cdv A outer s H vs Q E hr h => ?_)
  · obtain ⟨F', κ, G, M, as, c, M', _, r, hl, _⟩ := h
    rw [r.length, hl]
  · obtain ⟨F', κ, G, M, as, c, M', S0, r, hl, hf, k0⟩ := h
    unfold fnX at hf
    split at hf
    · rename_i c1 ρ1 M1 e
      cases hf
      refine (hb cdv A outer s H E hr (takes_of rfl rfl rfl rfl)).ex _ S0 (start_se r) e ?_
      intro κ' G' σ' H' cls l S' E' hc
      have e4 : κ'.take M.length = κ := by
        obtain ⟨t, rfl⟩ := l.pre
        rw [← S0.len, List.take_left]
      have S2 := S'.take M.length
      rw [e4] at S2
      exact k0 κ G' H' cls ⟨List.prefix_refl _, l.ex⟩ S2 hc
    · cases hf
/-! ### try -/
theorem exm_by {K : PySem.W.Frag} {mg : Str → Option Value} {c h : String} {C D : Addr} (O : OwnX K mg c C) (Q : OwnX K mg h D) (s : PySem.W.subIn K (.ref C) (.ref D) = some true) : ∀ cls, ClsK K c cls → PySem.W.exmOne K cls (.ref D) = some true := fun cls e => by
  have e2 := O.ns.symm.trans e
  cases e2
  exact PySem.W.exm_ref Q.bC Q.dC Q.tC s
theorem he_nil {p : String → Prop} : ∀ c ∈ ([] : List String), p c := fun _ h => nomatch h
theorem he_cons {p : String → Prop} {c : String} {cs : List String} (h : p c) (hs : ∀ c ∈ cs, p c) : ∀ d ∈ c :: cs, p d := fun d hd => by
  rcases List.mem_cons.mp hd with e | e
  · rw [e]
    exact h
  · exact hs d e
section
variable {X : Cx} {x : Str} {C : Addr} {body suite : List Stmt} {b₀ : Stmt} {np pos pos' : Pos} {d h : DS} {dx : DX} {cs : List String}
theorem s_try (hc : Names X x (.ref C)) (hd : ∀ (pn : List (Addr × Obj)) (xe : Value → Shared → Prop), PDB (X.tr pn xe) body d)
    (hx : ∀ (W : WX) (pn : List (Addr × Obj)) (xe : Value → Shared → Prop), Takes (X.tr pn xe) W → PDX (X.tr pn xe) W body dx)
    (hh : ∀ (a : Addr) (pn : List (Addr × Obj)), PDB (X.suite a pn) (b₀ :: suite) h)
    (he : ∀ c ∈ cs, ∀ cls, ClsK X.K c cls → PySem.W.exmOne X.K cls (.ref C) = some true) (hs : X.stack = X.env :: X.outer := by rfl) (hf : X.env.frame = some X.env.locals := by rfl) :
    PDS X (.Try body [.ExceptHandler (some (.Name x np)) none (b₀ :: suite) pos'] [] [] pos) (dTry cs d dx h) := by
  refine ⟨_, ps_try_only (tb := fun W D σ H => ∀ pn xe, Takes (X.tr pn xe) W → ∃ t, PSs (X.tr pn xe) body t ∧ t D σ H) (ts := fun a _ _ D σ H => ∀ pn, ∃ t, PSs (X.suite a pn) (b₀ :: suite) t ∧ t D σ H) (Wout := fun _ _ _ _ => False) hs hf hc takes0
    (fun W pn xe tk _ => ⟨fun pins s σ H D I hw => ?_⟩) (fun a oe cls dd pn _ _ => ⟨fun pins s σ H D I hw => ?_⟩), ⟨fun {F κ G σ ρ M H D o} S E h1 k => ?_⟩⟩
  · obtain ⟨t, ht, hw⟩ := hw pn xe tk
    exact ht.run pins s σ H D I hw
  · obtain ⟨t, ht, hw⟩ := hw ((a, oe) :: pn)
    exact ht.run pins s σ H D I hw
  · intro pn xe tk
    unfold dTry at h1
    split at h1
    · rename_i c ρ1 M1 e1
      obtain ⟨hm, h1⟩ := grd_some h1
      refine (hx _ pn xe tk).ex D S E e1 ?_
      intro κ' G' σ' H' cls l S' E' hcl
      refine ⟨true, he c hm cls hcl, fun _ a _ pn => ?_, fun q => nomatch q⟩
      obtain ⟨t, ht, hw⟩ := (hh a pn).ex
      exact ⟨t, ht, hw.run S' E' h1 (k.weak l)⟩
    · obtain ⟨t, ht, hw⟩ := (hd pn xe).ex
      exact ⟨t, ht, hw.run S E h1 k⟩
end
end Rw
end PRwExc
section PRwKeep
set_option Elab.async false
set_option linter.all false
set_option maxRecDepth 100000
set_option maxHeartbeats 2000000
/-! RwKeep: an exception that is caught, given a name and looked at behind the try. -/
namespace Rw
open PySem L2 PySem.Spec PyProof.Rows
open Evl (Ex)
theorem exK_ok {P : Program} {w : World} {H : Hp} {g : Heap} {a : Addr} {cls : Value} {ob : Obj} {fl : Array Value} (e : g.get? a = some ob) (z : Zc cls none ob) (q : ob.data = .fields fl) : ObjOk P w H g a (ExK cls a) :=
  ⟨⟨ob, fl, e, z, q⟩, ⟨ob, e⟩, fun _ _ ⟨u, v, r, t⟩ k => ⟨u, v, k u r, t⟩⟩
section
variable {X : Cx} {pins : List (Addr × Obj)} {σ : L2.St} {H : Hp} {s : Shared} {a : Addr}
/-- an object that nobody knew is known from now on -/
theorem adopt {o : HO} (I : Inv X pins σ H s) (na : H a = none) (n0 : X.s_0.heap.get? a = none) (nL : a ≠ X.env.locals) (nC : ∀ v, ¬ s.heap.IsCell a v)
    (nP : ∀ p ∈ X.pn ++ pins, p.1 ≠ a) (new : ObjOk X.prog X.w (upd H a o) s.heap a o) : Inv X pins σ (upd H a o) s := by
  have ne : ∀ {b : Addr} {u : HO}, H b = some u → b ≠ a := fun {b u} e z => by
    subst z
    rw [na] at e
    cases e
  refine ⟨I.ok, I.os, I.bare, ⟨I.base.keep, I.base.slot, ?_, I.base.there, ?_, ?_, ?_⟩, I.loc, I.cell, ?_, ?_, ?_, HOk.laidN I.hok (fun _ _ q => q) na new, I.len⟩
  · intro b u e n q
    have hb : b ≠ a := fun z => by
      subst z
      rw [n0] at e
      cases e
    rw [upd_ne hb]
    exact I.base.free b u e n q
  · intro b xs e
    have q := I.base.tups b xs e
    rw [upd_ne (ne q)]
    exact q
  · intro b u v e
    have q := I.base.frzs b u v e
    rw [upd_ne (ne q)]
    exact q
  · intro b ps e
    obtain ⟨m, q⟩ := I.base.tbls b ps e
    exact ⟨m, by rw [upd_ne (ne q)]; exact q⟩
  · rw [upd_ne (Ne.symm nL)]
    exact I.free
  · intro x c e
    have hb : c ≠ a := fun z => by
      subst z
      obtain ⟨v, q⟩ := I.cell x c e
      exact nC v q
    rw [upd_ne hb]
    exact I.freeC x c e
  · intro p hp
    obtain ⟨e1, e2, e3⟩ := I.pin p hp
    exact ⟨e1, by rw [upd_ne (nP p hp)]; exact e2, e3⟩
end
/-- what 'except c as i: j = i' wishes -/
def wKeep (K : PySem.W.Frag) (c : Value) (i j : Nat) (D : Ends) : WX := fun cls d σ H => PySem.W.exmOne K cls c = some true ∧ d = none ∧
  ∀ a, H a = none → D.nx (((σ.set i (some (.ref a))).set j (some (.ref a))).set i none) (upd H a (ExK cls a))
section
variable {X : Cx} {x n m : Str} {c : Value} {i j : Nat} {body : List Stmt} {np pm pn' pa pos pos' : Pos} {tb : WX → TS}
theorem ps_keep (hs : X.stack = X.env :: X.outer) (hf : X.env.frame = some X.env.locals) (hex : X.ex = []) (hN : X.N.Nodup) (hi : X.N[i]? = some n) (hj : X.N[j]? = some m) (hln : X.env.kindOf n = some .local) (hlm : X.env.kindOf m = some .local) (hc : Names X x c)
    (hdb : (n == ("__debug__" : Str)) = false) (hcd : (n == ("__classdict__" : Str)) = false)
    (hsw : ∀ a pq, swapsWith (.Name n pn') (some (.Name m pm)) pa.line (X.suite a pq).env = pure false)
    (hb : ∀ (W : WX) (pq : List (Addr × Obj)) (xe : Value → Shared → Prop), Takes (X.tr pq xe) W → PSs (X.tr pq xe) body (tb W)) :
    PS X (.Try body [.ExceptHandler (some (.Name x np)) (some n) [.Assign [.Name m pm] (.Name n pn') pa] pos'] [] [] pos) (fun D σ H => tb (wKeep X.K c i j D) D σ H) := ⟨by
  intro pins s σ H D I hw
  have ok := I.ok
  have frm : X.A.frames = some (X.env :: X.outer) := ok.frames.trans (congrArg some hs)
  let E1 : Value → Shared → Prop := fun e s1 => wpAny (model X.prog X.w) X.A (noteFrame e X.env)
    (fun _ s2 => wpAny (model X.prog X.w) X.A (setFlight e none)
      (fun _ s3 => wpAny (model X.prog X.w) X.A (handleBy e X.env [.ExceptHandler (some (.Name x np)) (some n) [.Assign [.Name m pm] (.Name n pn') pa] pos'])
        (SP X pins D) X.xe s3) X.xe s2) X.xe s1
  have tk : Takes (X.tr (X.pn ++ pins) E1) (wKeep X.K c i j D) := by
    rintro u s1 ⟨a, B, sI, pins', σ1, H1, cls, d, rfl, J0, nb, up, sky, na, os, ag, hm, rfl, hk⟩
    have J : Inv X pins σ1 H1 sI := J0.ofTry ok
    have sk : Sky B (X.env :: X.outer) a (Zc cls none) X.env.locals s1.heap := hs ▸ sky
    refine Sky.land Zc.steady frm hf sk fun h3 f3 u3 => ?_
    have J3 : Inv X pins σ1 H1 { s1 with heap := h3 } := J.landed nb f3.1 (up.trans u3) os ag
    obtain ⟨oe, vs, g3, z3, d3⟩ := f3.there
    have nfr : a ∉ frs (X.env :: X.outer) := fun hmm => by
      obtain ⟨_, o', e', hnf⟩ := f3.2.2.1.mem hmm
      rw [g3] at e'
      cases e'
      exact hnf _ d3
    have nI : sI.heap.get? a = none := by
      cases e : sI.heap.get? a with
      | none => rfl
      | some o =>
        have q := nb a o e (by
          show a ∉ frs X.stack
          rw [hs]
          exact nfr)
        have z : B.get? a = none := f3.2.1
        rw [z] at q
        cases q
    have nL : a ≠ X.env.locals := fun z => nfr (List.mem_filterMap.mpr ⟨X.env, List.mem_cons_self, by rw [hf, z]⟩)
    have nF : a ∉ X.fs := fun hmm => by
      obtain ⟨v, hv, q⟩ := List.mem_filterMap.mp hmm
      exact nfr (List.mem_filterMap.mpr ⟨v, List.mem_cons_of_mem _ hv, q⟩)
    have n0 : X.s_0.heap.get? a = none := by
      cases e : X.s_0.heap.get? a with
      | none => rfl
      | some o =>
        obtain ⟨o', q⟩ := J.base.there a o e (by rw [hex]; exact fun z => nomatch z)
        rw [nI] at q
        cases q
    have nP : ∀ p ∈ X.pn ++ pins, p.1 ≠ a := fun p hp z => by
      have q := (J.pin p hp).1
      rw [z, nI] at q
      cases q
    have S3 := J3.suite g3 d3 na nL nF
    refine wpAny_handleBy_cons (codeAny_handlers_test ?_) (by intro q; cases q)
    have ty : PySem.W.Looks (model X.prog X.w) h3 (typeOf (.ref a)) cls := fun A Q E s k q => wpAny_typeOf_ref (k _ _ g3) (by rw [z3.1]; exact q)
    have mt := PySem.W.exm_one (M := model X.prog X.w) J3.kIn ty hm
    have look : ∀ {Q : Value → Shared → Prop} {E : Value → Shared → Prop}, Q c { s1 with heap := h3 } →
        wpAny (model X.prog X.w) (X.A.mark (some (.ref a))) (eval (.Name x np) X.env) Q E { s1 with heap := h3 } := fun {Q E} q => by
      rcases hc with ⟨hg, hdbg, hmg | ⟨hmg, hv, hnn⟩⟩
      · exact ld_glob (X := X.suite a _) S3 hg hmg q hdbg
      · exact ld_blt (X := X.suite a _) S3 hg hmg hv q hnn hdbg
    refine look (mt.here ?_)
    refine codeAny_handlers_suite_as ?_
    refine HandSPX.lands_againZ f3 fun h4 f4 u4 => ?_
    have J4 : Inv X pins σ1 H1 { s1 with heap := h4 } := J.landed nb f4.1 ((up.trans u3).trans u4) os ag
    obtain ⟨o4, v4, g4, z4, d4⟩ := f4.there
    have S4 := J4.suite g4 d4 na nL nF
    refine store_ok (X := X.suite a _) (v := .ref a) S4 hN hi (.inl hln) rfl (fun s5 S5 => ?_) (.inr hln)
    have lt : i < σ1.length := by
      rw [J.len]
      exact (List.getElem?_eq_some_iff.mp hi).1
    have run := (pss_one (ps_set (X := X.suite a ((a, o4) :: (X.pn ++ pins))) (i := j) (pos := pa) (pos' := pm) hN hj (.inl hlm) (pe_var (i := i) (pos := pn') hi (.inl hln) hdb hcd) (hsw a _) (.inr hlm))).run [] s5 _ H1
      { nx := fun σ6 H6 => σ6 = (σ1.set i (some (.ref a))).set j (some (.ref a)) ∧ H6 = H1, rt := fun _ _ => False, bk := fun _ _ => False, ct := fun _ _ => False } S5 ⟨.ref a, List.getElem?_set_self lt, rfl, rfl⟩
    refine wpAny_mono run (fun f s6 hsp => ?_) (fun _ _ z => z.elim)
    cases f with
    | next =>
      obtain ⟨σ6, H6, S6, rfl, rfl⟩ := hsp
      have pin := S6.pin (a, o4) (List.mem_append_left _ List.mem_cons_self)
      have J6 := adopt (o := ExK cls a) (S6.unsuite ok) na n0 nL (fun v q => by
        obtain ⟨o, ho, hd⟩ := q
        rw [pin.1] at ho
        cases ho
        exact pin.2.2.2.2 v hd) nP (exK_ok pin.1 z4 d4)
      exact gone_ok J6 hN hi hln fun s7 J7 => ⟨_, _, J7, hk a na⟩
    | brk =>
      obtain ⟨_, _, _, q⟩ := hsp
      exact q.elim
    | cont =>
      obtain ⟨_, _, _, q⟩ := hsp
      exact q.elim
    | ret u =>
      obtain ⟨_, _, _, _, _, q⟩ := hsp
      exact q.elim
  refine wpAny_Try_except (wpAny_mono ((hb _ (X.pn ++ pins) E1 tk).run [] s σ H D (I.toTry _) hw) (fun f s1 hsp => ?_) fun e s1 he => he)
  cases f with
  | next =>
    obtain ⟨σ', H', J', q⟩ := hsp
    exact wpAny_execs_nil ⟨_, _, J'.ofTry ok, q⟩
  | brk =>
    obtain ⟨σ', H', J', q⟩ := hsp
    exact ⟨_, _, J'.ofTry ok, q⟩
  | cont =>
    obtain ⟨σ', H', J', q⟩ := hsp
    exact ⟨_, _, J'.ofTry ok, q⟩
  | ret u =>
    obtain ⟨v, σ', H', J', r, q⟩ := hsp
    exact ⟨_, _, _, J'.ofTry ok, r, q⟩⟩
end
theorem Se.gone {K : PySem.W.Frag} {κ : List Addr} {G : Hp} {σ : L2.St} {ρ : DEnv} (h : Se K κ G σ ρ) (i : Nat) : Se K κ G (σ.set i none) (ρ.set i none) := h.wipe2 [i]
section
variable {X : Cx} {x n m : Str} {C : Addr} {body : List Stmt} {np pm pn' pa pos pos' : Pos} {d : DS} {dx : DX} {cs : List String}
/-- try: .. except C as i: j = i -/
theorem s_tryAs (i j : Nat) (hN : X.N.Nodup) (hc : Names X x (.ref C)) (hd : ∀ (pq : List (Addr × Obj)) (xe : Value → Shared → Prop), PDB (X.tr pq xe) body d)
    (hx : ∀ (W : WX) (pq : List (Addr × Obj)) (xe : Value → Shared → Prop), Takes (X.tr pq xe) W → PDX (X.tr pq xe) W body dx)
    (he : ∀ c ∈ cs, ∀ cls, ClsK X.K c cls → PySem.W.exmOne X.K cls (.ref C) = some true) (hty : ∀ c ∈ cs, c ∉ tyNs := by decide) (hi : X.N[i]? = some n := by rfl) (hj : X.N[j]? = some m := by rfl)
    (hln : X.env.kindOf n = some .local := by rfl) (hlm : X.env.kindOf m = some .local := by rfl) (hdb : (n == ("__debug__" : Str)) = false := by decide) (hcd : (n == ("__classdict__" : Str)) = false := by decide)
    (hsw : ∀ a pq, swapsWith (.Name n pn') (some (.Name m pm)) pa.line (X.suite a pq).env = pure false := by intro _ _; rfl)
    (hs : X.stack = X.env :: X.outer := by rfl) (hf : X.env.frame = some X.env.locals := by rfl) (hex : X.ex = [] := by rfl) :
    PDS X (.Try body [.ExceptHandler (some (.Name x np)) (some n) [.Assign [.Name m pm] (.Name n pn') pa] pos'] [] [] pos) (dTryAs cs d dx i j) := by
  refine ⟨_, ps_keep (tb := fun W D σ H => ∀ pq xe, Takes (X.tr pq xe) W → ∃ t, PSs (X.tr pq xe) body t ∧ t D σ H) hs hf hex hN hi hj hln hlm hc hdb hcd hsw (fun W pq xe tk => ⟨fun pins s σ H D I hw => ?_⟩), ⟨fun {F κ G σ ρ M H D o} S E h1 k => ?_⟩⟩
  · obtain ⟨t, ht, hw⟩ := hw pq xe tk
    exact ht.run pins s σ H D I hw
  · intro pq xe tk
    unfold dTryAs at h1
    split at h1
    · rename_i c ρ1 M1 e1
      obtain ⟨hm, h1⟩ := grd_some h1
      cases h1
      refine (hx _ pq xe tk).ex D S E e1 ?_
      intro κ' G' σ' H' cls l S' E' hcl
      refine ⟨he c hm cls hcl, rfl, fun a na => ?_⟩
      have g := (S'.fresh na).1
      have l2 : Le κ' G' κ' (upd G' a (ExK cls a)) := Le.newG g
      have r : Rx X.K κ' (upd G' a (ExK cls a)) (.ref a) (.d (.ty c)) := Rv.exc upd_same hcl (hty c hm)
      exact k κ' _ _ _ (l.trans l2) (S'.newG _ na) ((((E'.mono l2).set r i).set r j).gone i)
    · obtain ⟨t, ht, hw⟩ := (hd pq xe).ex
      exact ⟨t, ht, hw.run S E h1 k⟩
end
/-! ### isinstance of what was caught -/
def rIsX (K : PySem.W.Frag) : List V → Hp → VK → Prop := fun xs H Q => rIsi K xs H Q ∨ ∃ (a D : Addr) (c : V) (u : Value) (b : Bool), xs = [.ref a, c] ∧ ClsV c u ∧ H a = some (ExK (.ref D) a) ∧ ExcC K D ∧ PySem.W.kitOne K (.ref D) u = some b ∧ Q (.bl b) H
def rIsXT (K : PySem.W.Frag) : List V → Hp → VK → Prop := fun xs H Q => rIsiT K xs H Q ∨ ∃ (a D tp : Addr) (cs : List V) (us : List Value) (b : Bool), xs = [.ref a, .ref tp] ∧ H tp = some (.tup cs) ∧ Paired ClsV cs us ∧ H a = some (ExK (.ref D) a) ∧ ExcC K D ∧ PySem.W.kitAny K (.ref D) us = some b ∧ Q (.bl b) H
theorem exK_at {P : Program} {w : World} {H : Hp} {g : Heap} {a D : Addr} (h : HOk P w H g) (e : H a = some (ExK (.ref D) a)) : ∃ ob, PySem.W.InstAt g a ob D none := by
  obtain ⟨⟨ob, fl, h1, ⟨h2, h3⟩, h4⟩, _⟩ := (show ObjOk P w H g a (ExK (.ref D) a) from h a _ e)
  obtain ⟨oc, od, oda, osl⟩ := ob
  dsimp only at h2 h3 h4
  subst h2 h3 h4
  exact ⟨_, h1, rfl, rfl, trivial⟩
section
variable {X : Cx}
theorem call_isX : CallR X (.builtin "isinstance") (rIsX X.K) := by
  intro pins s σ H xs us Q I r h
  rcases h with h | ⟨a, D, c, u, b, rfl, k, ha, ec, e, q⟩
  · exact call_isi pins s σ H xs us Q I r h
  · obtain ⟨u1, u2, rfl, r1, r2⟩ := vals2 r
    have e2 := k.eq r2
    subst e2
    cases (show u1 = Value.ref a from r1)
    obtain ⟨ob, J⟩ := exK_at I.hok ha
    exact PySem.W.kia_one (PySem.W.handS_kitx_exc ec.hg ec.hk ec.hs ec.hd ec.ha ec.hn ec.ht ec.hm) I.kIn J e (fun z => nomatch z) fun tk => ⟨.bl b, H, I.tok tk, rfl, q⟩
theorem call_isXT : CallR X (.builtin "isinstance") (rIsXT X.K) := by
  intro pins s σ H xs us Q I r h
  rcases h with h | ⟨a, D, tp, cs, ws, b, rfl, hT, k, ha, ec, e, q⟩
  · exact call_isiT pins s σ H xs us Q I r h
  · obtain ⟨u1, u2, rfl, r1, r2⟩ := vals2 r
    cases (show u1 = Value.ref a from r1)
    cases (show u2 = Value.ref tp from r2)
    obtain ⟨ob, J⟩ := exK_at I.hok ha
    obtain ⟨_, its, rv, o, h1, h2, nn, h3⟩ := (show ObjOk X.prog X.w H s.heap tp (.tup cs) from I.hok tp _ hT)
    have e3 := ClsV.all k rv
    subst e3
    obtain ⟨oc, od, dt, sl⟩ := o
    simp only at h2 h3
    subst h2 h3
    exact PySem.W.kia_tup (PySem.W.handS_kitx_exc ec.hg ec.hk ec.hs ec.hd ec.ha ec.hn ec.ht ec.hm) I.kIn J h1 e (fun z => nomatch z) fun tk => ⟨.bl b, H, I.tok tk, rfl, q⟩
end
/-- what isinstance answers of the class u: of None, and of errors of the classes all -/
structure IsF (K : PySem.W.Frag) (u : Value) (all cs : List String) : Prop where
  non : PySem.W.kitOne K (.type "NoneType") u = some false
  own : ∀ c ∈ all, ∃ D, ClsK K c (.ref D) ∧ ExcC K D ∧ PySem.W.kitOne K (.ref D) u = some (cs.contains c)
structure IsFT (K : PySem.W.Frag) (us : List Value) (all cs : List String) : Prop where
  non : PySem.W.kitAny K (.type "NoneType") us = some false
  own : ∀ c ∈ all, ∃ D, ClsK K c (.ref D) ∧ ExcC K D ∧ PySem.W.kitAny K (.ref D) us = some (cs.contains c)
section
variable {X : Cx} {e : Expr} {pos p p2 : Pos} {de : DE} {all cs : List String}
theorem d_isX {u : Value} {c : V} {v : Str} (hm : X.mg "isinstance" = none) (he : PD X e de) (hc : ClsV c u) (hp : PE X (.Name v p2) (tC c)) (Fs : IsF X.K u all cs) (hall : ∀ c ∈ all, c ∉ tyNs := by decide) (hg : Gl X "isinstance" := by rfl)
    (h1 : starEach [e, .Name v p2] X.env = (false, eval e X.env) :: starEach [.Name v p2] X.env := by rfl) (h2 : starEach [.Name v p2] X.env = (false, eval (.Name v p2) X.env) :: starEach [] X.env := by rfl) (hpl : (backTo pos (starEach [.Name v p2] X.env)).any (·.1) = false := by rfl) :
    PD X (.Call (.Name "isinstance" p) [e, .Name v p2] [] pos) (e1 (oIsX all cs) de) := by
  obtain ⟨t, a1, a2⟩ := he.ex
  refine ⟨_, pe_callB (x := "isinstance") call_isX hg hm (by decide +kernel) (pa_cons a1 (pa_cons hp pa_nil h2) h1) (by decide) (by decide) h1 hpl, ⟨fun {F κ G σ ρ M H Q z M'} S E h k => ?_⟩⟩
  unfold e1 at h
  split at h
  · rename_i y M1 ey
    refine a2.run S E ey fun κ1 G1 w H1 l1 S1 r1 => ?_
    have k1 := k.weak l1
    unfold oIsX at h
    split at h
    · cases h
      cases r1
      exact .inl ⟨.non, c, _, u, false, rfl, hc, .base .non, Fs.non, k1.here S1 (Rv.bl _)⟩
    · rename_i cn
      obtain ⟨hin, h⟩ := grd_some h
      cases h
      obtain ⟨D, q1, q2, q3⟩ := Fs.own _ hin
      cases r1 with
      | ty _ h0 => exact absurd h0 (hall _ hin)
      | exc g1 g2 g3 =>
        have z := g2.symm.trans q1
        cases z
        exact .inr ⟨_, D, c, u, _, rfl, hc, S1.ex _ _ g1, q2, q3, k1.here S1 (Rv.bl _)⟩
    · cases h
  · cases h
/-- names of classes, side by side -/
structure PCs (X : Cx) (es : List Expr) (cs : List V) (us : List Value) : Prop where
  ex : ∃ t, PA X es t ∧ ∀ σ H Q, Q cs H → t σ H Q
  pr : Paired ClsV cs us
theorem pc_nil : PCs X [] [] [] := ⟨⟨_, pa_nil, fun _ _ _ q => q⟩, .nil⟩
theorem pc_cons {v : Str} {es : List Expr} {c : V} {u : Value} {ws : List V} {us : List Value} (hp : PE X (.Name v p2) (tC c)) (hc : ClsV c u) (h : PCs X es ws us) (hs : starEach (.Name v p2 :: es) X.env = (false, eval (.Name v p2) X.env) :: starEach es X.env := by rfl) : PCs X (.Name v p2 :: es) (c :: ws) (u :: us) := by
  obtain ⟨t, a1, a2⟩ := h.ex
  exact ⟨⟨_, pa_cons hp a1 hs, fun σ H Q q => a2 σ H _ q⟩, .cons hc h.pr⟩
theorem d_isXT {es : List Expr} {kk : Nat} {ws : List V} {us : List Value} (hm : X.mg "isinstance" = none) (he : PD X e de) (hc : PCs X es ws us) (Fs : IsFT X.K us all cs) (hl : ws.length ≤ 100 := by simp) (hall : ∀ c ∈ all, c ∉ tyNs := by decide) (hg : Gl X "isinstance" := by rfl)
    (h1 : starEach [e, .Tuple es kk p2] X.env = (false, eval e X.env) :: starEach [.Tuple es kk p2] X.env := by rfl) (h2 : starEach [.Tuple es kk p2] X.env = (false, eval (.Tuple es kk p2) X.env) :: starEach [] X.env := by rfl) (hpl : (backTo pos (starEach [.Tuple es kk p2] X.env)).any (·.1) = false := by rfl) :
    PD X (.Call (.Name "isinstance" p) [e, .Tuple es kk p2] [] pos) (e1 (oIsX all cs) de) := by
  obtain ⟨t, a1, a2⟩ := he.ex
  obtain ⟨t2, b1, b2⟩ := hc.ex
  refine ⟨_, pe_callB (x := "isinstance") call_isXT hg hm (by decide +kernel) (pa_cons a1 (pa_cons (pe_tup b1) pa_nil h2) h1) (by decide) (by decide) h1 hpl, ⟨fun {F κ G σ ρ M H Q z M'} S E h k => ?_⟩⟩
  unfold e1 at h
  split at h
  · rename_i y M1 ey
    refine a2.run S E ey fun κ1 G1 w H1 l1 S1 r1 => ?_
    have k1 := k.weak l1
    refine b2 σ H1 _ ⟨sz_big (Nat.le_trans hl (by decide)), fun q hq => ?_⟩
    have g := (S1.fresh hq).1
    have l2 : Le κ1 G1 κ1 (upd G1 q (.tup ws)) := Le.newG g
    have S2 := S1.newG (.tup ws) hq
    have k2 := k1.weak l2
    unfold oIsX at h
    split at h
    · cases h
      cases r1
      exact .inl ⟨.non, q, ws, _, us, false, rfl, upd_same, hc.pr, .base .non, Fs.non, k2.here S2 (Rv.bl _)⟩
    · rename_i cn
      obtain ⟨hin, h⟩ := grd_some h
      cases h
      obtain ⟨D, q1, q2, q3⟩ := Fs.own _ hin
      cases r1 with
      | ty _ h0 => exact absurd h0 (hall _ hin)
      | exc g1 g2 g3 =>
        have z := g2.symm.trans q1
        cases z
        exact .inr ⟨_, D, q, ws, us, _, rfl, upd_same, hc.pr, upd_some hq (S1.ex _ _ g1), q2, q3, k2.here S2 (Rv.bl _)⟩
    · cases h
  · cases h
theorem pe_own {c : String} {C : Addr} {v : Str} (O : OwnX X.K X.mg c C) (hv : v = Str.ofString c := by rfl) (hg : Gl X v := by exact rfl) (hd : (v == ("__debug__" : Str)) = false := by decide) : PE X (.Name v p2) (tC (.ref C)) := by
  subst hv
  exact pe_glob hg O.gC rfl hd
theorem pe_ve {v : Str} {n : String} (hm : X.mg v = none) (hv : bootBuiltins v = some (.type n) := by decide +kernel) (hg : Gl X v := by exact rfl) (hn : v ≠ "__name__" := by decide) (hd : (v == ("__debug__" : Str)) = false := by decide) : PE X (.Name v p2) (tC (.ty n)) := pe_bltn (v := .ty n) hg hm hv rfl hn hd
end
/-- a class of errors, all told -/
structure OwnI (K : PySem.W.Frag) (mg : Str → Option Value) (c : String) (C : Addr) : Prop where
  o : OwnX K mg c C
  x : ExcC K C
theorem isf_nil {K : PySem.W.Frag} {u : Value} {cs : List String} : ∀ c ∈ ([] : List String), ∃ D, ClsK K c (.ref D) ∧ ExcC K D ∧ PySem.W.kitOne K (.ref D) u = some (cs.contains c) := fun _ h => nomatch h
theorem isf_cons {K : PySem.W.Frag} {mg : Str → Option Value} {u : Value} {cs all : List String} {c : String} {C : Addr} {b : Bool} (I : OwnI K mg c C) (h : PySem.W.kitOne K (.ref C) u = some b) (r : ∀ c ∈ all, ∃ D, ClsK K c (.ref D) ∧ ExcC K D ∧ PySem.W.kitOne K (.ref D) u = some (cs.contains c)) (hb : b = cs.contains c := by decide) :
    ∀ d ∈ c :: all, ∃ D, ClsK K d (.ref D) ∧ ExcC K D ∧ PySem.W.kitOne K (.ref D) u = some (cs.contains d) := fun d hd => by
  rcases List.mem_cons.mp hd with e | e
  · rw [e]
    exact ⟨C, I.o.ns, I.x, hb ▸ h⟩
  · exact r d e
theorem isft_nil {K : PySem.W.Frag} {us : List Value} {cs : List String} : ∀ c ∈ ([] : List String), ∃ D, ClsK K c (.ref D) ∧ ExcC K D ∧ PySem.W.kitAny K (.ref D) us = some (cs.contains c) := fun _ h => nomatch h
theorem isft_cons {K : PySem.W.Frag} {mg : Str → Option Value} {us : List Value} {cs all : List String} {c : String} {C : Addr} {b : Bool} (I : OwnI K mg c C) (h : PySem.W.kitAny K (.ref C) us = some b) (r : ∀ c ∈ all, ∃ D, ClsK K c (.ref D) ∧ ExcC K D ∧ PySem.W.kitAny K (.ref D) us = some (cs.contains c)) (hb : b = cs.contains c := by decide) :
    ∀ d ∈ c :: all, ∃ D, ClsK K d (.ref D) ∧ ExcC K D ∧ PySem.W.kitAny K (.ref D) us = some (cs.contains d) := fun d hd => by
  rcases List.mem_cons.mp hd with e | e
  · rw [e]
    exact ⟨C, I.o.ns, I.x, hb ▸ h⟩
  · exact r d e
/-- several classes, from one by one -/
theorem kA_cons {K : PySem.W.Frag} {t c : Value} {r : List Value} {a b : Bool} (h : PySem.W.kitOne K t c = some a) (hr : PySem.W.kitAny K t r = some b) : PySem.W.kitAny K t (c :: r) = some (a || b) := by
  unfold PySem.W.kitAny
  rw [h]
  cases a
  · simpa using hr
  · rfl
theorem kA_nil {K : PySem.W.Frag} {t : Value} : PySem.W.kitAny K t [] = some false := rfl
end Rw
end PRwKeep
section PRwMeth
set_option Elab.async false
set_option linter.all false
set_option maxRecDepth 100000
set_option maxHeartbeats 2000000
/-! RwMeth: methods that only read: index, count, join. -/
namespace Rw
open PySem L2 PySem.Spec PyProof.Rows
open Evl (Ex)
section
variable {K : PySem.W.Frag}
theorem sim_bmR {r : V → List V → Hp → VK → Prop} {f : Dv → List Dv → DSt → Option (Dv × DSt)} {to : TE} {o : DE} {ta : TA} {a : DA} (hr : SimRM K "list" r f) (hl : ∀ v as M z, f v as M = some z → ∃ xs, lv M v = some xs)
    (hs : ∀ v as M z, f v as M = some z → z.2 = M) (ho : SimE K to o) (hp : ∀ ρ M vs M', a ρ M = some (vs, M') → M' = M) (ha : SimA K ta a) : SimE K (tBM K "list" r to ta) (eM f o a) := ⟨fun {F κ G σ ρ M H Q z M'} S E h k => by
  unfold eM at h
  split at h
  · rename_i x M1 e
    split at h
    · rename_i xs M2 e2
      obtain ⟨ys, hy⟩ := hl _ _ _ _ h
      have em := hp _ _ _ _ e2
      subst em
      refine ho.run S E e fun κ1 G1 u H1 l1 S1 r1 => ⟨?_, ?_⟩
      · obtain ⟨b, us, rfl, q, _⟩ := lv_at S1 r1 hy
        exact .inl ⟨rfl, us, q⟩
      · exact ha.run S1 (E.mono l1) e2 fun κ2 G2 us H2 l2 S2 r2 => hr S2 (r1.mono l2) r2 h (k.weak (l1.trans l2))
    · cases h
  · cases h⟩
def rCnt (K : PySem.W.Frag) : V → List V → Hp → VK → Prop := fun x xs H Q => ∃ (a : Addr) (ys : List V) (y : V), x = V.ref a ∧ xs = [y] ∧ SqL K H a ys ∧ flatV y = true ∧ ys.all flatV = true ∧ Q (.int ((ys.countP fun z => eqV z y : Nat) : Int)) H
theorem count_eqU {y : V} : ∀ {ys : List V} {us : List Value}, Vals ys us → ys.all flatV = true → us.countP (eqU y) = ys.countP fun z => eqV z y
  | _, _, .nil, _ => rfl
  | z :: ys, u :: us, .cons r t, f => by
    rw [List.all_cons, Bool.and_eq_true] at f
    rw [List.countP_cons, List.countP_cons, eqU_of r f.1, count_eqU t f.2]
theorem mt_cnt {X : Cx} : MtR X "list.count" (rCnt X.K) := by
  intro pins s σ H x xs v us Q I rx rxs h
  obtain ⟨a, ys, y, rfl, rfl, hs, fy, fys, q⟩ := h
  cases rx
  obtain ⟨uy, rfl, ry⟩ := rxs.one
  obtain ⟨its, rv, ⟨⟨cls, dd, data, sl⟩, n, ho, hc, hdn, hd⟩, hlen⟩ := I.list hs
  simp only at hc hd
  subst hc hd
  refine call_meets PySem.F.slot_list_count ⟨_, ho, rfl⟩ PySem.F.entry_list_count (PySem.F.args_list_count_2 _ _)
    (SeqAt.list_countAt a its.toArray n dd sl uy (eqU y)) ⟨ho, fun u' hu' => mem_eqAt ry fy rv fys u' (by simpa using hu'), ?_⟩
  have ec : its.toArray.toList.countP (eqU y) = ys.countP fun z => eqV z y := count_eqU rv fys
  refine ⟨.int ((ys.countP fun z => eqV z y : Nat) : Int), H, I.tok _, ⟨s.toks, ?_⟩, q⟩
  show Value.int ((its.toArray.toList.countP (eqU y) : Nat) : Int) s.toks = _
  rw [ec]
theorem countD_of {G : Hp} {v : V} {y : D} (q : Rv K G v y) (h' : y.flat = true) : ∀ {us : List V} {xs : List D}, Rvs K G us xs → xs.all D.flat = true → (us.countP fun z => eqV z v) = xs.countP fun b => D.eqv b y
  | _, _, .nil, _ => rfl
  | _, _, .cons a r, h => by
    simp only [List.all_cons, Bool.and_eq_true] at h
    rw [List.countP_cons, List.countP_cons, eqV_of a q h.1 h', countD_of q h' r h.2]
theorem sm_count : SimRM K "list" (rCnt K) mCount := fun {F κ G M H Q x xs z M' u us} S r rs h k => by
  unfold mCount at h
  split at h
  · rename_i y ys e
    obtain ⟨⟨h1, h2⟩, h⟩ := grd_some h
    cases h
    obtain ⟨v, rfl, rv⟩ := rxs1 rs
    obtain ⟨b, vs, rfl, q, p⟩ := lv_at S r e
    refine ⟨b, vs, v, rfl, rfl, q, flat_of rv h1, flats_of p h2, ?_⟩
    rw [countD_of rv h1 p h2]
    exact k.here S (Rv.int _)
  · cases h
theorem sm_index : SimRM K "list" (rIndex K) mIndex := fun {F κ G M H Q x xs z M' u us} S r rs h k => by
  unfold mIndex at h
  split at h
  · rename_i y ys e
    obtain ⟨⟨h1, h2⟩, h⟩ := grd_some h
    split at h
    · rename_i j ej
      cases h
      obtain ⟨v, rfl, rv⟩ := rxs1 rs
      obtain ⟨b, vs, rfl, q, p⟩ := lv_at S r e
      obtain ⟨hj, hp, hno⟩ := List.findIdx?_eq_some_iff_getElem.mp ej
      obtain ⟨w, hw, rw'⟩ := p.get (List.getElem?_eq_getElem hj)
      have fl : ∀ d ∈ ys, d.flat = true := by
        rw [List.all_eq_true] at h2
        exact h2
      refine ⟨b, vs, v, j, w, rfl, rfl, q, flat_of rv h1, flats_of p h2, hw, ?_, fun m z' hm hz => ?_, k.here S (Rv.int _)⟩
      · rw [eqV_of rw' rv (fl _ (List.getElem_mem hj)) h1]
        exact hp
      · obtain ⟨d, hd, rd⟩ := p.get' hz
        obtain ⟨hml, hme⟩ := List.getElem?_eq_some_iff.mp hd
        rw [eqV_of rd rv (by rw [← hme]; exact fl _ (List.getElem_mem hml)) h1, ← hme]
        simpa using hno m hm
    · cases h
  · cases h
theorem ml_count : ∀ v as M z, mCount v as M = some z → ∃ xs, lv M v = some xs := fun v as M z h => by
  unfold mCount at h
  split at h
  · rename_i e
    exact ⟨_, e⟩
  · cases h
theorem ml_index : ∀ v as M z, mIndex v as M = some z → ∃ xs, lv M v = some xs := fun v as M z h => by
  unfold mIndex at h
  split at h
  · rename_i e
    exact ⟨_, e⟩
  · cases h
theorem ms_count : ∀ v as M z, mCount v as M = some z → z.2 = M := fun v as M z h => by
  unfold mCount at h
  split at h
  · obtain ⟨_, h⟩ := grd_some h
    cases h
    rfl
  · cases h
theorem ms_index : ∀ v as M z, mIndex v as M = some z → z.2 = M := fun v as M z h => by
  unfold mIndex at h
  split at h
  · obtain ⟨_, h⟩ := grd_some h
    split at h
    · cases h
      rfl
    · cases h
  · cases h
end
section
variable {X : Cx} {a e : Expr} {apos pos : Pos} {da : DE} {x : D} {n : Nat}
theorem pure1 {x : D} : ∀ ρ M vs M', aCons (eC x) aNil ρ M = some (vs, M') → M' = M := fun ρ M vs M' h => by
  cases h
  rfl
theorem d_count (ho : PD X a da) (hb : PDA X [e] (aCons (eC x) aNil) n) (hbase : attributeBase a "count" X.env (eval a X.env) = eval a X.env := by rfl)
    (hfew : ((backTo pos (starEach [e] X.env)).all (fun x => !x.1) && (backToKw pos (keywordEach [] X.env)).all (fun x => x.1.isSome)
      && decide ([e].length + ([] : List Keyword).length + (if ([] : List Keyword).isEmpty then 0 else 1) < 30)) = true := by rfl)
    (hline : (apos.endLine == pos.line) = true := by rfl) (hs : starEach [e] X.env = (false, eval e X.env) :: starEach [] X.env := by rfl) (hplain : (backTo pos (starEach [] X.env)).any (·.1) = false := by rfl) : PD X (.Call (.Attribute a "count" apos) [e] [] pos) (eM mCount da (aCons (eC x) aNil)) := by
  obtain ⟨t, h1, h2⟩ := ho.ex
  obtain ⟨u, h3, h4⟩ := hb.ex
  exact ⟨_, pe_bm PySem.F.plainAttrs_list PySem.F.slot_list_count PySem.F.type_list_count mt_cnt h1 h3 hbase hfew hline hs hplain, sim_bmR sm_count ml_count ms_count h2 pure1 h4⟩
theorem d_index (ho : PD X a da) (hb : PDA X [e] (aCons (eC x) aNil) n) (hbase : attributeBase a "index" X.env (eval a X.env) = eval a X.env := by rfl)
    (hfew : ((backTo pos (starEach [e] X.env)).all (fun x => !x.1) && (backToKw pos (keywordEach [] X.env)).all (fun x => x.1.isSome)
      && decide ([e].length + ([] : List Keyword).length + (if ([] : List Keyword).isEmpty then 0 else 1) < 30)) = true := by rfl)
    (hline : (apos.endLine == pos.line) = true := by rfl) (hs : starEach [e] X.env = (false, eval e X.env) :: starEach [] X.env := by rfl) (hplain : (backTo pos (starEach [] X.env)).any (·.1) = false := by rfl) : PD X (.Call (.Attribute a "index" apos) [e] [] pos) (eM mIndex da (aCons (eC x) aNil)) := by
  obtain ⟨t, h1, h2⟩ := ho.ex
  obtain ⟨u, h3, h4⟩ := hb.ex
  exact ⟨_, pe_bm PySem.F.plainAttrs_list PySem.F.slot_list_index PySem.F.type_list_index mt_index h1 h3 hbase hfew hline hs hplain, sim_bmR sm_index ml_index ms_index h2 pure1 h4⟩
end
theorem strs_of {K : PySem.W.Frag} {G : Hp} : ∀ {xs : List V} {ds : List D} {ns : List Str}, Rvs K G xs ds → strsD ds = some ns → xs = ns.map V.str
  | _, _, _, .nil, e => by simp [strsD] at e; subst e; rfl
  | _, _, ns, .cons h r, e => by
    rename_i v vs d ds
    cases d <;> simp only [strsD] at e <;> try (cases e)
    rename_i i
    cases e2 : strsD ds with
    | none => rw [e2] at e; cases e
    | some ms =>
      rw [e2] at e
      cases e
      cases h
      rw [strs_of r e2]
      rfl
theorem d_join {X : Cx} {e : Expr} {de : DE} {s : Str} {j : Nat} {p apos pos : Pos} (he : PD X e de) (hs : starEach [e] X.env = [(false, eval e X.env)] := by rfl) (hbase : attributeBase (.Constant (.str s) j p) "join" X.env (eval (.Constant (.str s) j p) X.env) = eval (.Constant (.str s) j p) X.env := by rfl) (hline : (apos.endLine == pos.line) = true := by rfl) :
    PD X (.Call (.Attribute (.Constant (.str s) j p) "join" apos) [e] [] pos) (e1 (oJoin s) de) := by
  obtain ⟨t, h1, h2⟩ := he.ex
  refine ⟨_, pe_join pe_str h1 hs hbase hline, ⟨fun {F κ G σ ρ M H Q z M'} S E h k => ?_⟩⟩
  unfold e1 at h
  split at h
  · rename_i x M1 e1
    unfold oJoin at h
    split at h
    · rename_i xs ex
      split at h
      · rename_i ys ey
        obtain ⟨hb, h⟩ := grd_some h
        cases h
        refine ⟨⟨s, rfl⟩, h2.run S E e1 fun κ1 G1 u H1 l1 S1 r1 => ?_⟩
        obtain ⟨b, us, rfl, q, p'⟩ := lv_at S1 r1 ex
        refine ⟨s, b, ys, rfl, rfl, .inl ?_, Nat.le_trans hb (by decide), ?_⟩
        · rw [← strs_of p' ey]
          exact q
        · have ej : Txt.join s ys = Str.join s ys := PySem.StrLaws.glued_eq_join s ys
          rw [ej]
          exact k κ1 G1 _ H1 l1 S1 (Rv.str _)
      · cases h
    · cases h
  · cases h
end Rw
end PRwMeth
section PRwLink
set_option Elab.async false
set_option linter.all false
set_option maxRecDepth 100000
set_option maxHeartbeats 2000000
/-! RwLink: a chain of three comparisons; a loop whose body raises. -/
namespace Rw
open PySem L2 PySem.Spec PyProof.Rows
open Evl (Ex)
def tChain3 (r r' r'' : R2) (ta tb tc td : TE) : TE := fun σ H Q => ta σ H fun x H1 => tb σ H1 fun y H2 => r x y H2 fun z H3 => ∃ k, z = .bl k ∧
  (if k = true then tc σ H3 fun w H4 => r' y w H4 fun z2 H5 => ∃ k2, z2 = .bl k2 ∧ (if k2 = true then td σ H5 fun u H6 => r'' w u H6 Q else Q (.bl false) H5) else Q (.bl false) H3)
section
variable {X : Cx} {a b c d : Expr} {ta tb tc td : TE} {pos : Pos}
theorem pt_chain3 {op op' op'' : CmpOp} {r r' r'' : R2} (ho : OpR X (compareOp op) r) (ho' : OpR X (compareOp op') r') (ho'' : OpR X (compareOp op'') r'') (ha : PE X a ta) (hb : PE X b tb) (hc : PE X c tc) (hd : PE X d td)
    (hm : lastMarks [op, op', op''] [b, c, d] = false := by with_unfolding_all rfl) : PT X (.Compare a [op, op', op''] [b, c, d] pos) (tTest (tChain3 r r' r'' ta tb tc td)) := by
  refine ⟨fun pins s σ H Q I h => ?_⟩
  refine isTrue_chain (thn (ha.run pins s σ H _ I h) fun v s1 ⟨x, H1, I1, r1, q1⟩ => test_link (thn (hb.run pins s1 σ H1 _ I1 q1) fun u s2 ⟨y, H2, I2, r2, q2⟩ =>
    thn (ho pins s2 σ H2 x y v u _ I2 r1 r2 q2) fun d s3 ⟨z, H3, I3, r3, k, e, q3⟩ => ?_)) hm
  subst e
  cases r3
  refine wpAny_truthy_bool ?_
  cases k with
  | false =>
    obtain ⟨k', e', q'⟩ := q3
    cases e'
    exact ite_ff ⟨H3, I3, q'⟩
  | true =>
    refine ite_tt (test_link (thn (hc.run pins s3 σ H3 _ I3 q3) fun w' s4 ⟨z', H4, I4, r4, q4⟩ => thn (ho' pins s4 σ H4 y z' u w' _ I4 r2 r4 q4) fun d' s5 ⟨z2, H5, I5, r5, k2, e2, q5⟩ => ?_))
    subst e2
    cases r5
    refine wpAny_truthy_bool ?_
    cases k2 with
    | false =>
      obtain ⟨k', e', q'⟩ := q5
      cases e'
      exact ite_ff ⟨H5, I5, q'⟩
    | true =>
      refine ite_tt (test_last (thn (hd.run pins s5 σ H5 _ I5 q5) fun w'' s6 ⟨z'', H6, I6, r6, q6⟩ => thn (ho'' pins s6 σ H6 z' z'' w' w'' _ I6 r4 r6 q6) fun d'' s7 ⟨z3, H7, I7, r7, k3, e3, q7⟩ => ?_))
      subst e3
      cases r7
      exact wpAny_truthy_bool ⟨H7, I7, q7⟩
end
section
variable {K : PySem.W.Frag}
theorem sim_chain3 {r r' r'' : R2} {f g h' : O2} {ta tb tc td : TE} {a b c d : DE} (hr : SimR2 K r f) (hr' : SimR2 K r' g) (hr'' : SimR2 K r'' h') (ha : SimE K ta a) (hb : SimE K tb b) (hc : SimE K tc c) (hd : SimE K td d) : SimE K (tChain3 r r' r'' ta tb tc td) (eChain3 f g h' a b c d) := ⟨fun {F κ G σ ρ M H Q z M'} S E h k => by
  unfold eChain3 at h
  split at h
  · rename_i x M1 e
    split at h
    · rename_i y M2 e2
      refine ha.run S E e fun κ1 G1 u H1 l1 S1 r1 => hb.run S1 (E.mono l1) e2 fun κ2 G2 v H2 l2 S2 r2 => ?_
      split at h
      · rename_i M3 e3
        split at h
        · rename_i zz M4 e4
          refine hr S2 (r1.mono l2) r2 e3 fun κ3 G3 w H3 l3 S3 r3 => ⟨true, ?_, ?_⟩
          · cases r3; rfl
          · show (if true = true then _ else _)
            rw [if_pos rfl]
            have E3 := ((E.mono l1).mono l2).mono l3
            refine hc.run S3 E3 e4 fun κ4 G4 w4 H4 l4 S4 r4 => ?_
            split at h
            · rename_i M5 e5
              split at h
              · rename_i w6 M6 e6
                refine hr' S4 ((r2.mono l3).mono l4) r4 e5 fun κ5 G5 w5 H5 l5 S5 r5 => ⟨true, ?_, ?_⟩
                · cases r5; rfl
                · show (if true = true then _ else _)
                  rw [if_pos rfl]
                  exact hd.run S5 ((E3.mono l4).mono l5) e6 fun κ6 G6 w6 H6 l6 S6 r6 => hr'' S6 ((r4.mono l5).mono l6) r6 h (k.weak (((((l1.trans l2).trans l3).trans l4).trans l5).trans l6))
              · cases h
            · rename_i M5 e5
              cases h
              refine hr' S4 ((r2.mono l3).mono l4) r4 e5 fun κ5 G5 w5 H5 l5 S5 r5 => ⟨false, ?_, ?_⟩
              · cases r5; rfl
              · show (if false = true then _ else _)
                rw [if_neg Bool.false_ne_true]
                exact k κ5 G5 (.bl false) H5 ((((l1.trans l2).trans l3).trans l4).trans l5) S5 (Rv.bl false)
            · cases h
        · cases h
      · rename_i M3 e3
        cases h
        refine hr S2 (r1.mono l2) r2 e3 fun κ3 G3 w H3 l3 S3 r3 => ⟨false, ?_, ?_⟩
        · cases r3; rfl
        · show (if false = true then _ else _)
          rw [if_neg Bool.false_ne_true]
          exact k κ3 G3 (.bl false) H3 ((l1.trans l2).trans l3) S3 (Rv.bl false)
      · cases h
    · cases h
  · cases h⟩
end
section
variable {X : Cx} {a b c d : Expr} {da db dc dd : DE} {pos : Pos}
theorem t_chain3 {op op' op'' : CmpOp} {f g h : O2} (hc : CmpR X op f) (hc' : CmpR X op' g) (hc'' : CmpR X op'' h) (ha : PD X a da) (hb : PD X b db) (he : PD X c dc) (hd : PD X d dd) (hm : lastMarks [op, op', op''] [b, c, d] = false := by rfl) :
    PDT X (.Compare a [op, op', op''] [b, c, d] pos) (tVal (eChain3 f g h da db dc dd)) := by
  obtain ⟨r, h0, h9⟩ := hc.ex
  obtain ⟨r', h0', h9'⟩ := hc'.ex
  obtain ⟨r'', h0'', h9''⟩ := hc''.ex
  obtain ⟨t, h1, h2⟩ := ha.ex
  obtain ⟨u, h3, h4⟩ := hb.ex
  obtain ⟨v, h5, h6⟩ := he.ex
  obtain ⟨w, h7, h8⟩ := hd.ex
  exact ⟨_, pt_chain3 h0 h0' h0'' h1 h3 h5 h7 hm, sim_tTest (sim_chain3 h9 h9' h9'' h2 h4 h6 h8)⟩
end
section
variable {X : Cx} {W : WX} {s : DS} {x : DX} {pos : Pos}
/-- what is walked with numbers raises -/
theorem x_forE {a : Expr} {tgt : Tgt} {body : List Stmt} {elts : List Expr} {kk : Nat} {tpos p pos' : Pos} (hm : X.mg "enumerate" = none) (he : PEX X W a x) (hg : PDG X (.Tuple elts kk tpos) tgt) (hgl : Gl X "enumerate" := by rfl) (hse : starEach [a] X.env = [(false, eval a X.env)] := by rfl) (hp : PassesOwn (model X.prog X.w) X.A X.env X.xe := by exact PassesOwn.leaving) (hc : X.calm = true := by rfl) (hs : ∀ x, foldedSetIterable (.Call (.Name "enumerate" p) [a] [] pos') X.env x = pure x := by intro _; rfl) : PDX1 X W (.For (.Tuple elts kk tpos) (.Call (.Name "enumerate" p) [a] [] pos') body [] pos) x := ⟨fun D S E h k => by
  obtain ⟨t, ht, hw⟩ := he.ex
  obtain ⟨u, hu⟩ := pss_some (X := X) body
  exact ⟨_, ps_for hp hc (pi_enum hgl hm (pa_cons ht pa_nil hse) hse) hg.ex hu hs, hw _ S E h k⟩⟩
/-- a body that raises -/
theorem x_forB {tg iter : Expr} {tgt : Tgt} {it : DI} {body : List Stmt} (hi : PDI X tg iter it) (hg : PDG X tg tgt) (hb : PDB X body s) (hx : PDX X W body x) (hp : PassesOwn (model X.prog X.w) X.A X.env X.xe := by exact PassesOwn.leaving) (hc : X.calm = true := by rfl) (hs : ∀ x, foldedSetIterable iter X.env x = pure x := by intro _; rfl) : PDX1 X W (.For tg iter body [] pos) (xFor it tgt s x) := ⟨fun {F κ G σ ρ M H c ρ' M'} D S E h k => by
  obtain ⟨wi, a1, hi2⟩ := hi.ex
  obtain ⟨tb, c1, hs2⟩ := hb.ex
  refine ⟨_, ps_for hp hc a1 hg.ex (pss_any (ss := body)) hs, ?_⟩
  unfold xFor at h
  split at h
  · rename_i xs src M0 e
    refine hi2.run S E e fun κ1 G1 H1 J Gd Y l1 S1 W' hG hY => ?_
    refine for_it (g := tgt.tg X.K) (tb := fun D σ H => ∃ t, PSs X body t ∧ t D σ H) (D := D) W' (fun i σ H => ∃ κ2 G2 ρ2 M3, Le κ1 G1 κ2 G2 ∧ Sm X.K F κ2 G2 M3 H ∧ Se X.K κ2 G2 σ ρ2 ∧ i ≤ xs.length ∧ xForL (stand src M0) (forStep tgt s) (xForStep tgt x) (xs.drop i) ρ2 M3 = some (c, ρ', M')) ?_ ?_ ?_ ?_
    · exact ⟨κ1, G1, ρ, M0, Le.refl _ _, S1, E.mono l1, Nat.zero_le _, h⟩
    · rintro i σ H hi ⟨κ2, G2, ρ2, M3, l2, S2, E2, _, h2⟩
      refine hG F κ2 G2 M3 H l2 S2 ?_
      cases hx : xs.drop i with
      | nil => rw [hx] at h2; unfold xForL at h2; cases h2
      | cons y r => rw [hx] at h2; unfold xForL at h2; exact (grd_some h2).1
    · rintro i x' σ H H' hi ⟨κ2, G2, ρ2, M3, l2, S2, E2, _, h2⟩ hy
      have hx' : xs.drop i = xs[i] :: xs.drop (i + 1) := List.drop_eq_getElem_cons hi
      rw [hx'] at h2
      unfold xForL at h2
      obtain ⟨st, h2⟩ := grd_some h2
      obtain ⟨G3, d, x3, S3, ed, rd⟩ := hY i F κ2 G2 M3 H x' H' hi l2 S2 st hy
      have ed2 : xs[i] = d := by
        rw [List.getElem?_eq_getElem hi] at ed
        exact Option.some.inj ed
      rw [ed2] at h2
      have l3 : Le κ1 G1 κ2 G3 := l2.trans ⟨List.prefix_refl _, x3⟩
      cases ep : tgt.put (.d d) ρ2 with
      | none =>
        simp only [xForStep, forStep, ep] at h2
        cases h2
      | some ρ1 =>
        simp only [xForStep, forStep, ep] at h2
        refine put_ok S3 tgt (x := .d d) rd (E2.mono ⟨List.prefix_refl _, x3⟩) ep fun σ2 E3 _ => ?_
        cases eq : x ρ1 M3 with
        | some q =>
          simp only [eq] at h2
          cases h2
          exact hx.ex _ S3 E3 eq (k.weak (l1.trans l3))
        | none =>
          simp only [eq] at h2
          cases es : s ρ1 M3 with
          | none => simp only [es] at h2; cases h2
          | some q =>
            simp only [es] at h2
            refine ⟨tb, c1, hs2.run S3 E3 es ?_⟩
            cases q with
            | nx ρ4 M4 => exact fun κ' G' σ' H' l S' E' => ⟨κ', G', ρ4, M4, l3.trans l, S', E', by omega, h2⟩
            | ct ρ4 M4 => exact fun κ' G' σ' H' l S' E' => ⟨κ', G', ρ4, M4, l3.trans l, S', E', by omega, h2⟩
            | bk ρ4 M4 => cases h2
            | rt v M4 => cases h2
    · rintro σ H ⟨κ2, G2, ρ2, M3, l2, S2, E2, _, h2⟩
      rw [List.drop_length] at h2
      unfold xForL at h2
      cases h2
  · cases h⟩
end
end Rw
end PRwLink
section PRwSet
set_option Elab.async false
set_option linter.all false
set_option maxRecDepth 100000
set_option maxHeartbeats 2000000
/-! RwSet: len(set(xs)) of whole numbers. -/
namespace Rw
open PySem L2 PySem.Spec PyProof.Rows
open Evl (Ex)
theorem foldDup (ns : List Int) : firstMet (fun i => ns.getD i 0) ns.length = ns.foldl dupStep [] := by
  have e : (List.range ns.length).map (fun i => ns.getD i 0) = ns := by
    apply List.ext_getElem
    · simp
    · intro i h1 h2
      simp [List.getD_eq_getElem?_getD, List.getElem?_eq_getElem h2]
  unfold firstMet
  rw [e]
  rfl
def tLenSetG (K : PySem.W.Frag) (ta : TE) : TE := fun σ H Q => ta σ H fun x H1 => ∃ (l : Addr) (ns : List Int), x = .ref l ∧ SqL K H1 l (ns.map V.int) ∧ ns.length ≤ 4000 ∧ Q (.int (distZ ns : Nat)) H1
theorem pe_lenSetG {X : Cx} {a : Expr} {ta : TE} {p p2 q pos : Pos} (hg : Gl X "len") (hm : X.mg "len" = none) (hg2 : Gl X "set") (hm2 : X.mg "set" = none) (ha : PE X a ta) (hc : X.calm = true := by rfl)
    (na : starEach [a] X.env = (false, eval a X.env) :: starEach [] X.env := by rfl) : PE X (.Call (.Name "len" p) [.Call (.Name "set" p2) [a] [] q] [] pos) (tLenSetG X.K ta) := by
  refine ⟨fun pins s σ H Q I h => ?_⟩
  refine Call_ (ld_blt I hg hm boot_len ?_)
  refine PyProof.Rows.callWith_builtin1 (PyProof.Rows.args_cons ?_ rfl) rfl rfl
  refine Call_ (ld_blt I hg2 hm2 boot_set ?_)
  refine PyProof.Rows.callWith_type1 (PyProof.Rows.args_cons (thn (ha.run pins s σ H _ I h) fun v s1 ⟨x, H1, I1, r1, q1⟩ => PyProof.Rows.args_nil ?_) na) na rfl
  obtain ⟨l, ns, rfl, hq, hl, q1⟩ := q1
  cases r1
  obtain ⟨its, r, pl, hz⟩ := I1.list hq
  have hlen : its.toArray.size = ns.length := by rw [List.size_toArray, ← r.length, List.length_map]
  refine call_set_list (I1.ok.hd hc) pl.isList (by simpa using RZ.intsAre_vals r) (by rw [hlen]; unfold scanBound; omega) fun h' tk hS hk => ?_
  refine PyProof.Rows.args_nil ?_
  rw [hlen, foldDup] at hS
  obtain ⟨o, es, ep, t, ho, hex, hd, _, _, _, hf, hn⟩ := hS
  have I2 : Inv X pins σ H1 { s1 with heap := h', toks := tk } := I1.kept fun b o e => hk b o (Heap.lt_size e) e
  have hle := firstMet_length_le (fun i => ns.getD i 0) ns.length
  rw [foldDup] at hle
  exact call_len_set ho hex hd hf (by rw [hn] <;> omega) ⟨.int (distZ ns : Nat), H1, I2.tok _, ⟨_, by rw [hn]; rfl⟩, q1⟩
theorem sim_dist {K : PySem.W.Frag} {ta : TE} {a : DE} (ha : SimE K ta a) : SimE K (tLenSetG K ta) (e1 oDist a) := ⟨fun {F κ G σ ρ M H Q z M'} S E h k => by
  unfold e1 at h
  split at h
  · rename_i x M1 e
    unfold oDist at h
    split at h
    · rename_i xs ex
      split at h
      · rename_i ns en
        obtain ⟨hp, h⟩ := grd_some h
        cases h
        refine ha.run S E e fun κ1 G1 u H1 l1 S1 r1 => ?_
        obtain ⟨p, vs, rfl, hs, rr⟩ := lv_at S1 r1 ex
        rw [rr.ints_of en] at hs
        exact ⟨p, ns, rfl, hs, hp, (k.weak l1).here S1 (Rv.int _)⟩
      · cases h
    · cases h
  · cases h⟩
theorem d_dist {X : Cx} {a : Expr} {da : DE} {p p2 q pos : Pos} (hm : X.mg "len" = none) (hm2 : X.mg "set" = none) (ha : PD X a da) (hg : Gl X "len" := by rfl) (hg2 : Gl X "set" := by rfl) (hc : X.calm = true := by rfl)
    (na : starEach [a] X.env = (false, eval a X.env) :: starEach [] X.env := by rfl) : PD X (.Call (.Name "len" p) [.Call (.Name "set" p2) [a] [] q] [] pos) (e1 oDist da) := by
  obtain ⟨t, h1, h2⟩ := ha.ex
  exact ⟨_, pe_lenSetG hg hm hg2 hm2 h1 hc na, sim_dist h2⟩
end Rw
end PRwSet
section PRwDeep
set_option Elab.async false
set_option linter.all false
set_option maxRecDepth 100000
set_option maxHeartbeats 2000000
/-! RwDeep: x in xs, things of any depth. -/
namespace Rw
open PySem L2 PySem.Spec PyProof.Rows
open Evl (Ex)
theorem any_toPys {a : D} (ha : a.shp 8 = true) : ∀ {ys : List D}, ys.all (D.shp 8) = true → ((D.toPys ys).any fun z => PyData.eqv z a.toPy) = ys.any fun b => D.eqv b a
  | [], _ => rfl
  | y :: ys, h => by
    rw [List.all_cons, Bool.and_eq_true] at h
    show (PyData.eqv y.toPy a.toPy || (D.toPys ys).any _) = (D.eqv y a || ys.any _)
    rw [eqv_of 8 y a h.1 ha, any_toPys ha h.2]
section
variable {K : PySem.W.Frag}
theorem sr_inD : SimR2 K (rInD K) (oInD false) := fun {F κ G M H Q x y z M' u v} S rx ry h k => by
  unfold oInD at h
  split at h
  · rename_i a ys e1 e2
    obtain ⟨⟨h1, h2⟩, h⟩ := grd_some h
    cases h
    refine ⟨a.toPy, D.toPys ys, dp_dv S rx e1 (n := 7) h1, dp_dv S ry e2 (n := 8) h2, shaped_of h1 (by decide), shaped_of h2 (by decide), ?_⟩
    rw [any_toPys h1 h2]
    have := k.here S (Rv.bl (xor false (ys.any fun b => D.eqv b a)))
    simpa using this
  · cases h
theorem sr_notInD : SimR2 K (rNotInD K) (oInD true) := fun {F κ G M H Q x y z M' u v} S rx ry h k => by
  unfold oInD at h
  split at h
  · rename_i a ys e1 e2
    obtain ⟨⟨h1, h2⟩, h⟩ := grd_some h
    cases h
    refine ⟨a.toPy, D.toPys ys, dp_dv S rx e1 (n := 7) h1, dp_dv S ry e2 (n := 8) h2, shaped_of h1 (by decide), shaped_of h2 (by decide), ?_⟩
    rw [any_toPys h1 h2]
    have := k.here S (Rv.bl (xor true (ys.any fun b => D.eqv b a)))
    simpa using this
  · cases h
end
section
variable {X : Cx}
theorem k_inD {k : Nat} (hr : Room k X.A) : CmpR X .In (oInD false) := ⟨_, op_inD (by have := hr.un; omega), sr_inD⟩
theorem k_notinD {k : Nat} (hr : Room k X.A) : CmpR X .NotIn (oInD true) := ⟨_, op_notInD (by have := hr.un; omega), sr_notInD⟩
end
end Rw
end PRwDeep
section PRwMisc
set_option Elab.async false
set_option linter.all false
set_option maxRecDepth 100000
set_option maxHeartbeats 2000000
/-! RwMisc: is of truths, the order of tuples of whole numbers. -/
namespace Rw
open PySem L2 PySem.Spec PyProof.Rows
open Evl (Ex)
theorem lexZ_eq : ∀ (ns ms : List Int), HT.lexLt ns ms = lexZ ns ms
  | [], [] => rfl
  | [], _ :: _ => rfl
  | _ :: _, [] => rfl
  | x :: xs, y :: ys => by
    rw [HT.lexLt_cons, lexZ, lexZ_eq xs ys]
theorem lexAt_shift {e r : Nat → Bool} {z : Bool} : ∀ (k i : Nat), Ob.lexAt e r z (i + 1) k = Ob.lexAt (fun j => e (j + 1)) (fun j => r (j + 1)) z i k
  | 0, _ => rfl
  | k + 1, i => by
    rw [Ob.lexAt_succ, Ob.lexAt_succ, lexAt_shift k (i + 1)]
theorem lexAt_gt : ∀ (ns ms : List Int), Ob.lexAt (fun j => decide (ns.getD j 0 = ms.getD j 0)) (fun j => decide (ms.getD j 0 < ns.getD j 0)) (decide (ns.length > ms.length)) 0 (min ns.length ms.length) = lexZ ms ns
  | [], [] => rfl
  | [], y :: ys => by simp [Ob.lexAt, lexZ]
  | x :: xs, [] => by simp [Ob.lexAt, lexZ]
  | x :: xs, y :: ys => by
    have ih := lexAt_gt xs ys
    rw [show min (x :: xs).length (y :: ys).length = min xs.length ys.length + 1 by simp, Ob.lexAt_succ, lexAt_shift]
    have hz : (decide ((x :: xs).length > (y :: ys).length)) = decide (xs.length > ys.length) := by simp
    rw [hz]
    simp only [List.getD_cons_zero, List.getD_cons_succ, decide_eq_true_eq]
    rw [ih, lexZ]
    by_cases h : x = y
    · simp [h]
    · have h2 : ¬ y = x := fun z => h z.symm
      simp [h, h2]
def rGtT (K : PySem.W.Frag) : R2 := fun x y H Q => ∃ (a b : Addr) (ns ms : List Int), x = .ref a ∧ y = .ref b ∧ SqT K H a (ns.map V.int) ∧ SqT K H b (ms.map V.int) ∧ Q (.bl (lexZ ms ns)) H
theorem op_gtT {X : Cx} (hu : X.A.units < cLine) : OpR X (compareOp .Gt) (rGtT X.K) := by
  rintro pins s σ H x y v u Q I rx ry ⟨a, b, ns, ms, rfl, rfl, ha, hb, q⟩
  cases rx; cases ry
  obtain ⟨us, r1, p1, _⟩ := I.tuple ha
  obtain ⟨ws, r2, p2, _⟩ := I.tuple hb
  have i1 : IntsAre us ns := Vals.ints r1
  have i2 : IntsAre ws ms := Vals.ints r2
  have n1 : us.toArray.size = ns.length := by rw [List.size_toArray, i1.length]
  have n2 : ws.toArray.size = ms.length := by rw [List.size_toArray, i2.length]
  have g1 : ∀ j (h : j < us.toArray.size), ∃ t, us.toArray[j] = .int (ns.getD j 0) t := fun j h => IntsAre.int_at i1 _ _ (by simp at h; simp [h])
  have g2 : ∀ j (h : j < ws.toArray.size), ∃ t, ws.toArray[j] = .int (ms.getD j 0) t := fun j h => IntsAre.int_at i2 _ _ (by simp at h; simp [h])
  have R := Ob.RcOp.tuples_gt (A := X.A) (s := s) (e := fun j => decide (ns.getD j 0 = ms.getD j 0)) (r := fun j => decide (ms.getD j 0 < ns.getD j 0)) p1 p2 hu
    (fun j h1 h2 => by
      obtain ⟨t, et⟩ := g1 j h1
      obtain ⟨t', et'⟩ := g2 j h2
      have z : decide (ns.getD j 0 = ms.getD j 0) = (ns.getD j 0 == ms.getD j 0) := by rw [Bool.beq_eq_decide_eq]
      rw [et, et']
      show SeqAt.EqAt _ _ _ _ (decide (ns.getD j 0 = ms.getD j 0))
      rw [z]
      exact SeqAt.EqAt.int_int _ _ _ _)
    (fun j h1 h2 _ => by
      obtain ⟨t, et⟩ := g1 j h1
      obtain ⟨t', et'⟩ := g2 j h2
      rw [et, et']
      exact Ob.RcOp.gt_int _ _ _ _)
  rw [n1, n2, lexAt_gt] at R
  exact R X.prog X.w X.xe (EP X pins σ Q) ⟨.bl _, H, I, rfl, q⟩
section
variable {K : PySem.W.Frag}
theorem sr_isB : SimR2 K (fun x y H Q => ∃ a b, x = .bl a ∧ y = .bl b ∧ Q (.bl (decide (a = b))) H) oIsB := fun {F κ G M H Q x y z M' u v} S rx ry h k => by
  unfold oIsB at h
  split at h
  · cases h
    exact ⟨_, _, rx_bl rx, rx_bl ry, k.here S (Rv.bl _)⟩
  · cases h
theorem sr_notB : SimR2 K (fun x y H Q => ∃ a b, x = .bl a ∧ y = .bl b ∧ Q (.bl (!decide (a = b))) H) oNotB := fun {F κ G M H Q x y z M' u v} S rx ry h k => by
  unfold oNotB at h
  split at h
  · cases h
    exact ⟨_, _, rx_bl rx, rx_bl ry, k.here S (Rv.bl _)⟩
  · cases h
theorem sr_ltT : SimR2 K (rLtT K) oLtT := fun {F κ G M H Q x y z M' u v} S rx ry h k => by
  unfold oLtT at h
  split at h
  · rename_i xs ys
    split at h
    · rename_i ns ms e1 e2
      cases h
      cases rx with
      | tup sx vx =>
        cases ry with
        | tup sy vy =>
          have q1 := Rvs.ints_of vx e1
          have q2 := Rvs.ints_of vy e2
          subst q1
          subst q2
          refine ⟨_, _, ns, ms, rfl, rfl, Evl.ex_t S.ex sx, Evl.ex_t S.ex sy, ?_⟩
          rw [lexZ_eq]
          exact k.here S (Rv.bl _)
    · cases h
  · cases h
theorem sr_gtT : SimR2 K (rGtT K) oGtT := fun {F κ G M H Q x y z M' u v} S rx ry h k => by
  unfold oGtT at h
  split at h
  · rename_i xs ys
    split at h
    · rename_i ns ms e1 e2
      cases h
      cases rx with
      | tup sx vx =>
        cases ry with
        | tup sy vy =>
          have q1 := Rvs.ints_of vx e1
          have q2 := Rvs.ints_of vy e2
          subst q1
          subst q2
          exact ⟨_, _, ns, ms, rfl, rfl, Evl.ex_t S.ex sx, Evl.ex_t S.ex sy, k.here S (Rv.bl _)⟩
    · cases h
  · cases h
end
section
variable {X : Cx}
theorem k_isB : CmpR X .Is oIsB := ⟨_, op_is_bl, sr_isB⟩
theorem k_notB : CmpR X .IsNot oNotB := ⟨_, op_isnot_bl, sr_notB⟩
theorem k_ltT {k : Nat} (hr : Room k X.A) : CmpR X .Lt oLtT := ⟨_, op_ltT (Nat.lt_of_le_of_lt (Nat.le_add_right _ 64) hr.units), sr_ltT⟩
theorem k_gtT {k : Nat} (hr : Room k X.A) : CmpR X .Gt oGtT := ⟨_, op_gtT (Nat.lt_of_le_of_lt (Nat.le_add_right _ 64) hr.units), sr_gtT⟩
end
theorem ss_frz {K : PySem.W.Frag} {t : TS} {s : DS} {i : Nat} (h : SimS K t s) : SimS K t (dSeq (gFrz i) s) := ⟨fun {F κ G σ ρ M H D o} S E e k => by
  unfold dSeq gFrz at e
  cases e1 : ρ[i]? with
  | none => simp only [e1] at e; cases e
  | some x =>
    cases x with
    | none => simp only [e1] at e; cases e
    | some v =>
      cases v with
      | d y => simp only [e1] at e; cases e
      | r y => simp only [e1] at e; cases e
      | o _ _ _ => simp only [e1] at e; cases e
      | k _ _ => simp only [e1] at e; cases e
      | c n =>
        simp only [e1] at e
        cases e2 : (M[n]?).join with
        | none => simp only [e2] at e; cases e
        | some xs =>
          simp only [e2] at e
          obtain ⟨v, hv, a, rfl, ha⟩ := E.at_ i _ e1
          obtain ⟨G', x1, S', r⟩ := S.freeze e2 ha
          have l : Le κ G κ G' := ⟨List.prefix_refl _, x1⟩
          have E2 : Se K κ G' σ (ρ.set i (some (.d (.lst xs)))) := by
            refine ⟨by simp [E.len], fun j y ey => ?_⟩
            by_cases hj : i = j
            · subst hj
              rw [List.getElem?_set_self (List.getElem?_eq_some_iff.mp e1).1] at ey
              cases ey
              exact ⟨_, hv, r⟩
            · rw [List.getElem?_set_ne hj] at ey
              exact (E.mono l).at_ j y ey
          exact h.run S' E2 e (k.weak l)⟩
theorem b_frz {X : Cx} {ss : List Stmt} {d : DS} (i : Nat) (h : PDB X ss d) : PDB X ss (dSeq (gFrz i) d) := by
  obtain ⟨t, h1, h2⟩ := h.ex
  exact ⟨t, h1, ss_frz h2⟩
end Rw
end PRwMisc
section PRwVar
set_option Elab.async false
set_option linter.all false
set_option maxRecDepth 100000
set_option maxHeartbeats 2000000
/-! RwVar: the layer keeps the constructs of RwSemV. -/
namespace Rw
open PySem L2 PySem.Spec PyProof.Rows
open Evl (Ex)
/-! ### calls by the parameters' names -/
section
variable {K : PySem.W.Frag} {κ : List Addr} {G : Hp}
theorem Rxs.at_ : ∀ {us : List V} {xs : List Dv} (i : Nat), Rxs K κ G us xs → (us[i]? = none ∧ xs[i]? = none) ∨ ∃ u x, us[i]? = some u ∧ xs[i]? = some x ∧ Rx K κ G u x
  | _, _, _, .nil => .inl (by simp)
  | _, _, 0, .cons h _ => .inr ⟨_, _, rfl, rfl, h⟩
  | _, _, i + 1, .cons _ r => by simpa using Rxs.at_ i r
theorem Rxs.prm {us : List V} {xs : List Dv} (r : Rxs K κ G us xs) : ∀ is : List Nat, Rxs K κ G (prm is us) (prm is xs)
  | [] => .nil
  | i :: is => by
    unfold Rw.prm
    rcases r.at_ i with ⟨a, b⟩ | ⟨u, x, a, b, h⟩
    · rw [List.filterMap_cons_none a, List.filterMap_cons_none b]
      exact Rxs.prm r is
    · rw [List.filterMap_cons_some a, List.filterMap_cons_some b]
      exact .cons h (Rxs.prm r is)
theorem vals_at : ∀ {us : List V} {xs : List Value} (i : Nat), Vals us xs → (us[i]? = none ∧ xs[i]? = none) ∨ ∃ u x, us[i]? = some u ∧ xs[i]? = some x ∧ RelV u x
  | _, _, _, .nil => .inl (by simp)
  | _, _, 0, .cons h _ => .inr ⟨_, _, rfl, rfl, h⟩
  | _, _, i + 1, .cons _ r => by simpa using vals_at i r
theorem vals_prm {us : List V} {xs : List Value} (r : Vals us xs) : ∀ is : List Nat, Vals (prm is us) (prm is xs)
  | [] => .nil
  | i :: is => by
    unfold Rw.prm
    rcases vals_at i r with ⟨a, b⟩ | ⟨u, x, a, b, h⟩
    · rw [List.filterMap_cons_none a, List.filterMap_cons_none b]
      exact vals_prm r is
    · rw [List.filterMap_cons_some a, List.filterMap_cons_some b]
      exact .cons h (vals_prm r is)
end
structure HasK (P : Program) (w : World) (K : PySem.W.Frag) (mg : Str → Option Value) (base : Heap) (x : Str) (k n : Nat) (ks : List Str) (is : List Nat) (df : DF) : Prop where
  ex : ∃ (f : Addr) (fd : FuncData) (ps : List Str), FnOk P w K mg base CX0 k f fd ps (spD K df n) ∧ mg x = some (.ref f) ∧ PySem.W.keepIn K (.ref f) = true ∧ KBn K fd ps 0 ks (fun _ ws => prm is ws) (fun _ zs => prm is zs)
  len : ∀ xs : List Dv, xs.length = ks.length → (prm is xs).length = n
theorem fun_kb {K : PySem.W.Frag} {x qual : Str} {st : Stmt} {f : Addr} {fd : FuncData} {ps : List Str} (ks : List Str) (is : List Nat) (F : Fun K x qual st f fd)
    (h : ∀ (kV doc pm : Value) (an : Option Addr) (cdv ct : Value) (ws : List Value), ws.length = ks.length → bindArgs (PySem.W.fnOf x qual (defArgs st) (defBody st) (defScope st) .none kV doc pm an cdv ct) ⟨[], ks.zip ws⟩ = pure (ps.zip (prm is ws))) : KBn K fd ps 0 ks (fun _ ws => prm is ws) (fun _ zs => prm is zs) := by
  obtain ⟨oc, od, kV, doc, pm, an, cdv, ct, osl, rfl, lk, hcd⟩ := F.ex
  refine ⟨fun s us ws X l1 l2 => ?_, fun _ r => vals_prm r is⟩
  cases us with
  | nil => exact .of_eq (h kV doc pm an cdv ct ws l2)
  | cons _ _ => cases l1
structure PDK (X : Cx) (kws : List Keyword) (das : DA) (n : Nat) : Prop where
  ex : ∃ t, PK X kws t ∧ SimA X.K t das
  len : ∀ ρ M vs M', das ρ M = some (vs, M') → vs.length = n
section
variable {X : Cx} {kws : List Keyword} {das : DA} {n m k : Nat} {e : Expr} {de : DE} {nm : Option Str} {kpos p pos : Pos} {x : Str} {ks : List Str} {is : List Nat} {df : DF}
theorem kw_nil : PDK X [] aNil 0 := ⟨⟨_, pk_nil, sim_nil⟩, al_nil⟩
theorem kw_cons (ha : PD X e de) (hr : PDK X kws das n) : PDK X (⟨nm, e, kpos⟩ :: kws) (aCons de das) (n + 1) := by
  obtain ⟨t, h1, h2⟩ := ha.ex
  obtain ⟨u, h3, h4⟩ := hr.ex
  exact ⟨⟨_, pk_cons h1 h3, sim_cons h2 h4⟩, al_cons hr.len⟩
theorem pe_callN0 {CX : CXT} {f : Addr} {fd : FuncData} {ps : List Str} {sp : Sp} {E : XK} {tk : TA} {g : List Value → List Value → List Value} {gV : List V → List V → List V} (F : FnOk X.prog X.w X.K X.mg X.base CX k f fd ps sp) (hr : Room k X.A) (hg : Gl X x) (hm : X.mg x = some (.ref f)) (hk : PySem.W.keepIn X.K (.ref f) = true) (hb : KBn X.K fd ps 0 ks g gV) (hx : Passes CX X E)
    (hkw : PK X kws tk) (hall : (backToKw pos (keywordEach kws X.env)).all (·.1.isSome) = true := by rfl) (hks : (backToKw pos (keywordEach kws X.env)).filterMap (·.1) = ks := by rfl)
    (hdb : (x == ("__debug__" : Str)) = false := by decide)
    (hpl : ((backTo pos (starEach [] X.env)).any (·.1) || (backToKw pos (keywordEach kws X.env)).any (·.1.isNone)) = false := by rfl) :
    PE X (.Call (.Name x p) [] kws pos) (fun σ H Q => tk σ H fun zs H2 => zs.length = ks.length ∧ sp (gV [] zs) H2 Q E) := by
  refine ⟨fun pins s σ H Q I h => ?_⟩
  refine wpAny_Call_Name_kw (ld_glob I hg hm ?_ hdb)
  refine PySem.W.callWith_KW0 (h₀ := X.base) I.ok.mod.kin hk hall ?_ hpl
  refine thn (hkw.run pos pins s σ H _ I h) fun ws s2 ⟨zs, H2, I2, rz, l2, q2⟩ => ⟨I2.kIn, ?_⟩
  rw [hks]
  exact run_fnN (us := []) (vs := []) F hr hb hx I2 .nil rz rfl l2 q2
theorem d_defK (Hs : HasK X.prog X.w X.K X.mg X.base x k n ks is df) (hr : Room k X.A) (ha : PDK X kws das m) (hn : m = ks.length := by rfl) (hg : Gl X x := by rfl) (hdb : (x == ("__debug__" : Str)) = false := by decide)
    (hall : (backToKw pos (keywordEach kws X.env)).all (·.1.isSome) = true := by rfl) (hks : (backToKw pos (keywordEach kws X.env)).filterMap (·.1) = ks := by rfl)
    (hpl : ((backTo pos (starEach [] X.env)).any (·.1) || (backToKw pos (keywordEach kws X.env)).any (·.1.isNone)) = false := by rfl) :
    PD X (.Call (.Name x p) [] kws pos) (eCallK is df das) := by
  obtain ⟨f, fd, ps, F, hm, hk, hb⟩ := Hs.ex
  obtain ⟨t, h1, h2⟩ := ha.ex
  refine ⟨_, pe_callN0 F hr hg hm hk hb pass0 h1 hall hks hdb hpl, ⟨fun {F κ G σ ρ M H Q z M'} S E h k => ?_⟩⟩
  unfold eCallK eA at h
  split at h
  · rename_i xs M1 e
    refine h2.run S E e fun κ1 G1 us H1 l1 S1 r1 => ?_
    have hl := ha.len _ _ _ _ e
    refine ⟨by rw [r1.length, hl, hn], F, κ1, G1, M1, _, z, M', S1, r1.prm is, Hs.len _ (by rw [hl, hn]), h, k.weak l1⟩
  · cases h
end
/-! ### xs.remove(y) -/
theorem findIdx_toPys {a : D} (ha : a.shp 8 = true) : ∀ {ys : List D}, ys.all (D.shp 8) = true → ((D.toPys ys).findIdx? fun z => PyData.eqv z a.toPy) = ys.findIdx? fun b => D.eqv b a
  | [], _ => rfl
  | y :: ys, h => by
    rw [List.all_cons, Bool.and_eq_true] at h
    show ((y.toPy :: D.toPys ys).findIdx? _) = _
    rw [List.findIdx?_cons, List.findIdx?_cons, eqv_of 8 y a h.1 ha, findIdx_toPys ha h.2]
def rRemD (K : PySem.W.Frag) : V → List V → Hp → VK → Prop := fun x xs H Q => ∃ (l : Addr) (vs : List V) (y : V) (ds : List PyData) (d : PyData) (j : Nat), x = .ref l ∧ xs = [y] ∧ H l = some (.lst vs) ∧ DpAll K H vs ds ∧ Dp K H y d ∧ PyData.canLayAll0 ds = true ∧ SeqAt.shaped d = true ∧ SeqAt.dataPlace ds d = some j ∧ Q .non (upd H l (.lst (vs.eraseIdx j)))
theorem mt_remD {X : Cx} (hu : X.A.units + 65 < cLine) : MtR X "list.remove" (rRemD X.K) := by
  intro pins s σ H x xs v us Q I rx rxs h
  obtain ⟨l, vs, y, ds, d, j, rfl, rfl, hH, hds, hd, s1, s2, hj, q⟩ := h
  cases rx
  obtain ⟨u, rfl, ru⟩ := rxs.one
  obtain ⟨z, its, n, r, hl, e⟩ := I.lstM hH
  obtain ⟨as, ra⟩ := Dp.readsAll I ds vs its hds r
  obtain ⟨bs, rb⟩ := Dp.reads I d y u hd ru
  have hdp := SeqAt.depth_of_shaped s2
  refine SeqAt.remove_list_data (vs := its.toArray) ⟨_, e, rfl, n, rfl⟩ (by simpa using ra) rb (PyData.plainAll_of_canLay0 _ s1) (PyData.plain_of_canLay0 _ (SeqAt.canLay_of_shaped s2)) (by omega) hj (by rw [List.size_toArray]; omega) ?_
  refine ⟨.non, _, I.lset (its' := its.eraseIdx j) hH e (by simp) (r.eraseIdx j) ?_, rfl, q⟩
  have := List.length_eraseIdx_le (l := vs) (i := j)
  omega
theorem sm_remD {K : PySem.W.Frag} : SimRM K "list" (rRemD K) mRemove := fun {F κ G M H Q x xs z M' u us} S r rs h k => by
  unfold mRemove at h
  split at h
  · rename_i n y
    split at h
    · rename_i ys e
      obtain ⟨⟨h1, h2⟩, h⟩ := grd_some h
      split at h
      · rename_i j ej
        cases h
        obtain ⟨a, rfl, ha⟩ := r
        obtain ⟨v, rfl, rv⟩ := rxs1 rs
        obtain ⟨vs, _, _, e3, e4⟩ := cell_at S e ha
        have h2' : ys.all (D.shp 8) = true := h2
        refine ⟨a, vs, v, D.toPys ys, y.toPy, j, rfl, rfl, e3, dp_all (n := 8) (fun d v rv hd => dp_of S.ex 8 d v rv hd) e4 h2', dp_of S.ex 8 y v rv h1, (shp_lay_all (n := 8) (shp_lay 8) ys h2').1, shaped_of h1 (by decide), ?_, ?_⟩
        · unfold SeqAt.dataPlace
          rw [findIdx_toPys h1 h2']
          exact ej
        · exact k κ G _ _ (Le.refl _ _) (S.put e ha (e4.eraseIdx j)) Rv.non
      · cases h
    · cases h
  · cases h
theorem lm_remD : ∀ v as M z, mRemove v as M = some z → ∃ n, v = .c n := fun v as M z h => by
  unfold mRemove at h
  split at h
  · exact ⟨_, rfl⟩
  · cases h
theorem d_remove {X : Cx} {k n : Nat} {a e : Expr} {es : List Expr} {da : DE} {das : DA} {apos pos : Pos} (hr : Room k X.A) (ho : PD X a da) (hb : PDA X (e :: es) das n) (hbase : attributeBase a "remove" X.env (eval a X.env) = eval a X.env := by rfl)
    (hfew : ((backTo pos (starEach (e :: es) X.env)).all (fun x => !x.1) && (backToKw pos (keywordEach [] X.env)).all (fun x => x.1.isSome) && decide ((e :: es).length + ([] : List Keyword).length + (if ([] : List Keyword).isEmpty then 0 else 1) < 30)) = true := by rfl)
    (hline : (apos.endLine == pos.line) = true := by rfl) (hs : starEach (e :: es) X.env = (false, eval e X.env) :: starEach es X.env := by rfl) (hplain : (backTo pos (starEach es X.env)).any (·.1) = false := by rfl) : PD X (.Call (.Attribute a "remove" apos) (e :: es) [] pos) (eM mRemove da das) := by
  obtain ⟨t, h1, h2⟩ := ho.ex
  obtain ⟨u, h3, h4⟩ := hb.ex
  exact ⟨_, pe_bm PySem.F.plainAttrs_list PySem.F.slot_list_remove PySem.F.type_list_remove (mt_remD (by have := hr.un; omega)) h1 h3 hbase hfew hline hs hplain, sim_bm sm_remD lm_remD h2 h4⟩
/-! ### min(xs), sorted(xs): rows of whole numbers -/
theorem minD_mem : ∀ (xs : List PyData) (x : PyData), PySem.W.minD x xs ∈ x :: xs
  | [], x => by simp [PySem.W.minD]
  | y :: r, x => by
    have ih := minD_mem r (if PySem.W.dataLt y x then y else x)
    have e : PySem.W.minD x (y :: r) = PySem.W.minD (if PySem.W.dataLt y x then y else x) r := rfl
    rw [e]
    rcases List.mem_cons.mp ih with h | h
    · rw [h]
      split
      · simp
      · simp
    · simp [h]
theorem vals_back : ∀ {us : List V} {xs : List Value} {i : Nat} {x : Value}, Vals us xs → xs[i]? = some x → ∃ u, us[i]? = some u ∧ RelV u x
  | _, _, i, x, r, h => by
    rcases vals_at i r with ⟨a, b⟩ | ⟨u, y, a, b, c⟩
    · rw [b] at h; cases h
    · rw [b] at h
      cases h
      exact ⟨u, a, c⟩
def rMinD (K : PySem.W.Frag) : List V → Hp → VK → Prop := fun vs H Q => ∃ (a : Addr) (xs : List V) (d : PyData) (ds : List PyData), vs = [V.ref a] ∧ SqL K H a xs ∧ DpAll K H xs (d :: ds) ∧ PySem.W.AlikeAll (d :: ds) ∧ PyData.depthAll (d :: ds) ≤ 60 ∧ ∀ (i : Nat) (x : V), xs[i]? = some x → (d :: ds)[i]? = some (PySem.W.minD d ds) → Q x H
theorem cr_minD {X : Cx} (hc : X.calm = true) (hu : X.A.units + 64 < cLine) : CallR X (.builtin "min") (rMinD X.K) := by
  intro pins s σ H vs us Q I r h
  obtain ⟨a, xs, d, ds, rfl, hs, hd, hal, hdp, q⟩ := h
  obtain ⟨its, rv, hl, _⟩ := I.list hs
  rw [Vals.ref1 r]
  obtain ⟨as, ra⟩ := Dp.readsAll I _ _ _ hd rv
  refine PySem.W.min_list_data (I.ok.hd hc) hl.isList (by simpa using ra) hal (by omega) fun i v h' tk bs hi hrd hk => ?_
  have hi2 : its[i]? = some v := by simpa using hi
  obtain ⟨x, hx, rx⟩ := vals_back rv hi2
  obtain ⟨cs, r3, h4, h5, h6⟩ := PySem.W.readsAll_at ra i v hi2
  have hm := minD_mem ds d
  have eu := PySem.W.alike_unique _ _ _ _ _ (hal.1 _ h5 _ hm) (PySem.W.reads_keeps hk r3) hrd
  refine ⟨x, H, I.kept hk, rx, q i x hx ?_⟩
  rw [← eu, List.getD_eq_getElem?_getD]
  cases e9 : (d :: ds)[i]? with
  | none => rw [List.getElem?_eq_getElem h4] at e9; cases e9
  | some y => rfl
def encT (t : Bool) (ns : List Int) : PyData := if t then .tuple (ns.map .int) else .list (ns.map .int)
theorem lexZ_lt : ∀ xs ys : List Int, lexZ xs ys = decide (xs < ys)
  | [], [] => by simp [lexZ]
  | [], y :: ys => by simp [lexZ]
  | x :: xs, [] => by simp [lexZ]
  | x :: xs, y :: ys => by
    rw [lexZ]
    by_cases h : x = y
    · subst h
      simp [lexZ_lt xs ys, List.cons_lt_cons_iff]
    · simp [h, List.cons_lt_cons_iff]
theorem dataLt_enc (t : Bool) (xs ys : List Int) : PySem.W.dataLt (encT t xs) (encT t ys) = lexZ xs ys := by
  rw [lexZ_lt, ← PySem.W.dataLt_ints]
  cases t
  · exact PySem.W.dataLt_list _ _
  · exact PySem.W.dataLt_tuple _ _
theorem alike_enc (t : Bool) (xs ys : List Int) : PySem.W.alike (encT t xs) (encT t ys) = true := by
  cases t
  · exact PySem.W.alike_ints xs ys
  · exact PySem.W.alike_ints xs ys
theorem depth_enc (t : Bool) (xs : List Int) : (encT t xs).depth ≤ 1 := by
  cases t <;> simp [encT, PyData.depth, PySem.W.depth_ints]
theorem minD_enc : ∀ (nss : List (List Int)) (ns : List Int), PySem.W.minD (encT true ns) (nss.map (encT true)) = encT true (minL ns nss)
  | [], _ => rfl
  | m :: r, ns => by
    have e : PySem.W.minD (encT true ns) ((m :: r).map (encT true)) = PySem.W.minD (if PySem.W.dataLt (encT true m) (encT true ns) then encT true m else encT true ns) (r.map (encT true)) := rfl
    rw [e, dataLt_enc, minL]
    by_cases h : lexZ m ns = true
    · rw [if_pos h, if_pos h, minD_enc r m]
    · rw [if_neg h, if_neg h, minD_enc r ns]
theorem encT_inj {t : Bool} {a b : List Int} (h : encT t a = encT t b) : a = b := by
  have inj : ∀ (a b : List Int), a.map PyData.int = b.map PyData.int → a = b := fun a => by
    induction a with
    | nil => intro b h; cases b with
      | nil => rfl
      | cons => cases h
    | cons x r ih => intro b h; cases b with
      | nil => cases h
      | cons y s =>
        simp only [List.map_cons, List.cons.injEq, PyData.int.injEq] at h
        rw [h.1, ih _ h.2]
  cases t <;> simp only [encT, Bool.false_eq_true, if_false, if_true] at h
  · injection h with h; exact inj _ _ h
  · injection h with h; exact inj _ _ h
section
variable {K : PySem.W.Frag}
theorem rowT_bk {t : Bool} {x : D} {ns : List Int} (h : rowT t x = some ns) : x = bkD t ns := by
  have back : ∀ (xs : List D) (ns : List Int), intsD xs = some ns → xs = ns.map D.int := fun xs => by
    induction xs with
    | nil => intro ns h; cases h; rfl
    | cons y r ih =>
      intro ns h
      cases y with
      | int i =>
        simp only [intsD] at h
        cases e : intsD r with
        | none => rw [e] at h; cases h
        | some ms =>
          rw [e] at h
          cases h
          rw [ih ms e]
          rfl
      | _ => cases h
  cases x with
  | tup xs =>
    cases t with
    | false => cases h
    | true => simp only [rowT, if_true] at h; simp only [bkD, if_true]; rw [back _ _ h]
  | lst xs =>
    cases t with
    | true => cases h
    | false => simp only [rowT, Bool.false_eq_true, if_false] at h; simp only [bkD, Bool.false_eq_true, if_false]; rw [back _ _ h]
  | _ => cases h
theorem rowsT_bk {t : Bool} : ∀ {xs : List D} {nss : List (List Int)}, rowsT t xs = some nss → xs = nss.map (bkD t)
  | [], _, h => by cases h; rfl
  | x :: r, nss, h => by
    unfold rowsT at h
    split at h
    · rename_i a b e1 e2
      cases h
      rw [rowT_bk e1, rowsT_bk e2]
      rfl
    · cases h
theorem dp_bk {G H : Hp} (e : Ex G H) {t : Bool} {v : V} {ns : List Int} (r : Rv K G v (bkD t ns)) : Dp K H v (encT t ns) := by
  have sh : ∀ l : List Int, (l.map D.int).all (D.shp 1) = true := fun l => by simp [D.shp]
  have tp : ∀ l : List Int, D.toPys (l.map D.int) = l.map PyData.int := fun l => by
    induction l with
    | nil => rfl
    | cons x r ih => show PyData.int x :: D.toPys (r.map D.int) = _; rw [ih]; rfl
  have h2 : (bkD t ns).shp 2 = true := by cases t <;> simp [bkD, D.shp]
  have h3 := dp_of e 2 _ v r h2
  have h4 : (bkD t ns).toPy = encT t ns := by cases t <;> simp only [bkD, encT, Bool.false_eq_true, if_false, if_true, D.toPy, tp]
  rw [h4] at h3
  exact h3
theorem rvs_dpall {G H : Hp} (e : Ex G H) {t : Bool} : ∀ {vs : List V} {nss : List (List Int)}, Rvs K G vs (nss.map (bkD t)) → DpAll K H vs (nss.map (encT t))
  | _, [], .nil => .nil
  | _, _ :: _, .cons h r => .cons (dp_bk e h) (rvs_dpall e r)
theorem depthAll_enc (t : Bool) : ∀ nss : List (List Int), PyData.depthAll (nss.map (encT t)) ≤ 1
  | [] => by simp [PyData.depthAll]
  | n :: r => by
    have h1 := depth_enc t n
    have h2 := depthAll_enc t r
    simp only [List.map_cons, PyData.depthAll]
    omega
theorem sa_minT : SimRA K (rMinD K) oMinT := fun {F κ G M H Q xs z M' us} S r h k => by
  unfold oMinT at h
  split at h
  · split at h
    · rename_i ys e
      split at h
      · rename_i n ns en
        cases h
        obtain ⟨u, rfl, a⟩ := rxs1 r
        obtain ⟨p, vs, rfl, hs, rr⟩ := lv_at S a e
        rw [rowsT_bk en] at rr
        refine ⟨p, vs, encT true n, ns.map (encT true), rfl, hs, rvs_dpall (nss := n :: ns) S.ex rr, ⟨fun x hx y hy => ?_, fun x hx => ?_⟩, ?_, fun i x hx hi => ?_⟩
        · obtain ⟨a, _, rfl⟩ := List.mem_map.mp (show x ∈ (n :: ns).map (encT true) from hx)
          obtain ⟨b, _, rfl⟩ := List.mem_map.mp (show y ∈ (n :: ns).map (encT true) from hy)
          exact alike_enc _ _ _
        · obtain ⟨a, _, rfl⟩ := List.mem_map.mp (show x ∈ (n :: ns).map (encT true) from hx)
          simp [encT]
        · have := depthAll_enc true (n :: ns)
          simp only [List.map_cons] at this
          omega
        · obtain ⟨d, hd, rd⟩ := rr.get' hx
          rw [List.getElem?_map] at hd
          have hi2 : ((n :: ns).map (encT true))[i]? = some (PySem.W.minD (encT true n) (ns.map (encT true))) := hi
          rw [List.getElem?_map, minD_enc] at hi2
          cases e9 : (n :: ns)[i]? with
          | none => rw [e9] at hd; cases hd
          | some m =>
            rw [e9] at hd hi2
            cases hd
            have : m = minL n ns := encT_inj (Option.some.inj hi2)
            subst this
            exact k.here S rd
      · cases h
    · cases h
  · cases h
theorem each_vals {α : Type} {f : α → V} : ∀ {ps : List α} {us : List Value}, Vals (ps.map f) us → PySem.W.EachIs (fun v p => RelV (f p) v) us ps
  | [], _, .nil => .nil
  | _ :: _, _, .cons h r => .cons h (each_vals r)
theorem vals_each {α : Type} {f : α → V} : ∀ {ps : List α} {us : List Value}, PySem.W.EachIs (fun v p => RelV (f p) v) us ps → Vals (ps.map f) us
  | _, _, .nil => .nil
  | _, _, .cons h r => .cons h (vals_each r)
theorem each_reads {X : Cx} {pins : List (Addr × Obj)} {σ : L2.St} {H : Hp} {s : Shared} (I : Inv X pins σ H s) : ∀ {ps : List (V × PyData)} {us : List Value}, (∀ p ∈ ps, Dp X.K H p.1 p.2) → Vals (ps.map (·.1)) us → PySem.W.EachIs (fun v p => ∃ as, Reads s.heap v p.2 as) us ps
  | [], _, _, .nil => .nil
  | p :: ps, _, h, .cons r rs => .cons (Dp.reads I p.2 p.1 _ (h p (List.mem_cons_self ..)) r) (each_reads I (fun q hq => h q (List.mem_cons_of_mem _ hq)) rs)
def rSortD (K : PySem.W.Frag) : List V → Hp → VK → Prop := fun vs H Q => ∃ (a : Addr) (ps : List (V × PyData)), vs = [V.ref a] ∧ SqL K H a (ps.map (·.1)) ∧ (∀ p ∈ ps, Dp K H p.1 p.2) ∧ PySem.W.AllAlike (ps.map (·.2)) ∧ PySem.W.Sortable (ps.map (·.2)) ∧ ps.length ≤ 4000 ∧ (∀ p ∈ ps, p.2.depth ≤ 60) ∧
  ∀ q, H q = none → Q (.ref q) (upd H q (.lst ((ps.mergeSort (PySem.W.dataLe false (·.2))).map (·.1))))
theorem cr_sortD {X : Cx} (hu : X.A.units + 64 < cLine) : CallR X (.builtin "sorted") (rSortD X.K) := by
  intro pins s σ H vs us Q I r h
  obtain ⟨a, ps, rfl, hs, hd, hal, hso, h4, hdp, q⟩ := h
  obtain ⟨its, rv, hl, _⟩ := I.list hs
  rw [Vals.ref1 r]
  have h40 : (4000 : Nat) ≤ sizeLine := by rw [sizeLine_eq]; omega
  refine PySem.W.sorted_data (enc := fun p : V × PyData => p.2) hl.isList (each_vals (f := fun p : V × PyData => p.1) rv) (each_reads I hd rv) hal hso (Nat.le_trans h4 h40) (fun b hb => by have := hdp b hb; omega) fun out ho he => ?_
  obtain ⟨ep, he'⟩ := PyProof.Rows.sortedAll_at s.heap its out.toArray
  have hv := vals_each he
  have hlen : ((ps.mergeSort (PySem.W.dataLe false (·.2))).map (·.1)).length ≤ sizeLine := by rw [List.length_map, List.length_mergeSort]; omega
  exact ⟨.ref _, upd H (s.heap.objs.size + 1) (.lst _), I.laid (t' := s.toks) (fun _ _ => PyProof.Rows.sortedAll_old) (Nat.le_succ _) ⟨hlen, out, ep, hv, he'⟩, rfl, q _ (I.hok.fresh (Nat.le_succ _))⟩
theorem rvs_zip {G : Hp} {t : Bool} : ∀ {vs : List V} {nss : List (List Int)}, Rvs K G vs (nss.map (bkD t)) → ∃ qs : List (V × List Int), qs.map (·.1) = vs ∧ qs.map (·.2) = nss ∧ ∀ q ∈ qs, Rv K G q.1 (bkD t q.2)
  | _, [], .nil => ⟨[], rfl, rfl, fun q h => nomatch h⟩
  | v :: vs, n :: r, .cons h rr => by
    obtain ⟨qs, e1, e2, e3⟩ := rvs_zip rr
    exact ⟨(v, n) :: qs, by simp [e1], by simp [e2], fun q hq => by
      rcases List.mem_cons.mp hq with rfl | hq
      · exact h
      · exact e3 q hq⟩
theorem zip_rvs {G : Hp} {t : Bool} : ∀ (qs : List (V × List Int)), (∀ q ∈ qs, Rv K G q.1 (bkD t q.2)) → Rvs K G (qs.map (·.1)) ((qs.map (·.2)).map (bkD t))
  | [], _ => .nil
  | q :: qs, h => .cons (h q (List.mem_cons_self ..)) (zip_rvs qs fun p hp => h p (List.mem_cons_of_mem _ hp))
theorem sa_sortT (t c : Bool) : SimRA K (rSortD K) (oSortT t c) := fun {F κ G M H Q xs z M' us} S r h k => by
  unfold oSortT at h
  split at h
  · split at h
    · rename_i ys e
      split at h
      · rename_i nss en
        obtain ⟨⟨h1, h2⟩, h⟩ := grd_some h
        obtain ⟨u, rfl, a⟩ := rxs1 r
        obtain ⟨p, vs, rfl, hs, rr⟩ := lv_at S a e
        rw [rowsT_bk en] at rr
        obtain ⟨qs, e1, e2, e3⟩ := rvs_zip rr
        have ef : (qs.map fun q => (q.1, encT t q.2)).map (·.1) = vs := by rw [List.map_map, ← e1]; rfl
        have eg : (qs.map fun q => (q.1, encT t q.2)).map (·.2) = nss.map (encT t) := by rw [List.map_map, ← e2, List.map_map]; rfl
        refine ⟨p, qs.map fun q => (q.1, encT t q.2), rfl, by rw [ef]; exact hs, fun x hx => ?_, ?_, ?_, ?_, fun x hx => ?_, fun q hq => ?_⟩
        · obtain ⟨q, hq, rfl⟩ := List.mem_map.mp hx
          exact dp_bk S.ex (e3 q hq)
        · rw [eg]
          exact PySem.W.AllAlike.of fun a b => alike_enc t a b
        · rw [eg]
          cases t with
          | true =>
            refine .inl fun d hd => ?_
            obtain ⟨ns, hn, rfl⟩ := List.mem_map.mp hd
            cases ns with
            | nil => exact absurd rfl (h2 rfl _ hn)
            | cons x r => exact ⟨_, _, rfl⟩
          | false =>
            refine .inr fun d hd => ?_
            obtain ⟨ns, hn, rfl⟩ := List.mem_map.mp hd
            exact ⟨by simp [encT], fun xs => by simp [encT]⟩
        · have : qs.length = nss.length := by rw [← e2, List.length_map]
          rw [List.length_map]
          omega
        · obtain ⟨q, hq, rfl⟩ := List.mem_map.mp hx
          have := depth_enc t q.2
          show (encT t q.2).depth ≤ 60
          omega
        · have le1 : ∀ a ∈ qs, ∀ b ∈ qs, (fun a b : V × List Int => !lexZ b.2 a.2) a b = PySem.W.dataLe false (fun p : V × PyData => p.2) (a.1, encT t a.2) (b.1, encT t b.2) := fun a _ b _ => by
            rw [PySem.W.dataLe_eq]
            show _ = !PySem.W.dataLt (encT t b.2) (encT t a.2)
            rw [dataLt_enc]
          have m1 := List.map_mergeSort (f := fun q : V × List Int => (q.1, encT t q.2)) le1
          have m2 : (qs.mergeSort fun a b => !lexZ b.2 a.2).map (·.2) = nss.mergeSort fun a b => !lexZ b a := by
            rw [← e2]
            exact List.map_mergeSort (f := fun q : V × List Int => q.2) fun _ _ _ _ => rfl
          rw [← m1, List.map_map]
          have r3 := zip_rvs (K := K) (G := G) (t := t) (qs.mergeSort fun a b => !lexZ b.2 a.2) fun q hq => e3 q (List.mem_mergeSort.mp hq)
          rw [m2] at r3
          obtain ⟨κ', G', l', S', r'⟩ := S.new hq r3 h
          exact k κ' G' _ _ l' S' r'
      · cases h
    · cases h
  · cases h
end
section
variable {X : Cx} {e : Expr} {es : List Expr} {das : DA} {n k : Nat} {p pos : Pos}
theorem d_minT (hr : Room k X.A) (hm : X.mg "min" = none) (ha : PDA X (e :: es) das n) (hc : X.calm = true := by rfl) (hg : Gl X "min" := by rfl) (he : starEach (e :: es) X.env = (false, eval e X.env) :: starEach es X.env := by rfl) (hpl : (backTo pos (starEach es X.env)).any (·.1) = false := by rfl) : PD X (.Call (.Name "min" p) (e :: es) [] pos) (eA oMinT das) := d_bi (x := "min") (cr_minD hc (by have := hr.units; omega)) sa_minT hg hm (by decide +kernel) ha (he := he) (hpl := hpl)
theorem d_sortT (t c : Bool) (hr : Room k X.A) (hm : X.mg "sorted" = none) (ha : PDA X (e :: es) das n) (hg : Gl X "sorted" := by rfl) (he : starEach (e :: es) X.env = (false, eval e X.env) :: starEach es X.env := by rfl) (hpl : (backTo pos (starEach es X.env)).any (·.1) = false := by rfl) : PD X (.Call (.Name "sorted" p) (e :: es) [] pos) (eA (oSortT t c) das) := d_bi (x := "sorted") (cr_sortD (by have := hr.units; omega)) (sa_sortT t c) hg hm (by decide +kernel) ha (he := he) (hpl := hpl)
end
/-- len of what raises -/
theorem x_len {X : Cx} {W : WX} {e : Expr} {p pos : Pos} {dx : DX} (hm : X.mg "len" = none) (ha : PEX X W e dx) (hg : Gl X "len" := by rfl) (he : starEach [e] X.env = (false, eval e X.env) :: starEach [] X.env := by rfl) (hpl : (backTo pos (starEach [] X.env)).any (·.1) = false := by rfl) :
    PEX X W (.Call (.Name "len" p) [e] [] pos) dx := by
  obtain ⟨t, h1, h2⟩ := ha.ex
  refine ⟨_, pe_callB (x := "len") call_len hg hm (by decide +kernel) (pa_cons h1 pa_nil he) (by decide) (by decide) he hpl, ?_⟩
  intro F' κ G σ ρ M H c ρ' M' Q S E h kk
  exact h2 _ S E h kk
end Rw
end PRwVar
section PRwDict
set_option Elab.async false
set_option linter.all false
set_option maxRecDepth 100000
set_option maxHeartbeats 2000000
/-! RwDict: a dict of one def's own stands by itself. -/
namespace Rw
open PySem L2 PySem.Spec PyProof.Rows
open Evl (Ex)
section
variable {K : PySem.W.Frag} {κ : Type} [DecidableEq κ] {f : KeyF κ} {G G' : Hp}
theorem Kv.length {r : List (κ × V)} {s : Tb} (h : Kv K f G r s) : r.length = s.length := by
  induction h with
  | nil => rfl
  | cons _ _ _ ih => simp [ih]
theorem key_dec {a b : List Int} (ha : f.dom a) (hb : f.dom b) : decide (f.f a = f.f b) = decide (a = b) := by
  by_cases h : a = b
  · subst h; simp
  · have : ¬ f.f a = f.f b := fun e => h (f.inj a b ha hb e)
    simp [h, this]
theorem Kv.val {r : List (κ × V)} {s : Tb} (h : Kv K f G r s) {k : List Int} (hk : f.dom k) : (∀ d, look s k = some d → ∃ v, valV r (f.f k) = some v ∧ Rv K G v d) ∧ (look s k = none → valV r (f.f k) = none) := by
  induction h with
  | nil => exact ⟨fun d e => (by cases e), fun _ => rfl⟩
  | cons hd hv t ih =>
    rename_i ks v d r s
    by_cases e : ks = k
    · subst e
      have e1 : look ((ks, d) :: s) ks = some d := by simp [look]
      have e2 : valV ((f.f ks, v) :: r) (f.f ks) = some v := valV_pos rfl
      rw [e1, e2]
      exact ⟨fun d' h => (by cases h; exact ⟨v, rfl, hv⟩), fun h => (by cases h)⟩
    · have ne : ¬ f.f ks = f.f k := fun q => e (f.inj _ _ hd hk q)
      have e1 : look ((ks, d) :: s) k = look s k := by simp [look, List.find?_cons, e]
      have e2 : valV ((f.f ks, v) :: r) (f.f k) = valV r (f.f k) := valV_neg ne
      rw [e1, e2]
      exact ih
theorem Kv.some_iff {r : List (κ × V)} {s : Tb} (h : Kv K f G r s) {k : List Int} (hk : f.dom k) : (valV r (f.f k)).isSome = (look s k).isSome := by
  obtain ⟨h1, h2⟩ := h.val hk
  cases e : look s k with
  | none => rw [h2 e]; rfl
  | some d =>
    obtain ⟨v, hv, _⟩ := h1 d e
    rw [hv]
    rfl
theorem Kv.any {r : List (κ × V)} {s : Tb} (h : Kv K f G r s) {k : List Int} (hk : f.dom k) : (r.any fun x => decide (x.1 = f.f k)) = s.any fun x => decide (x.1 = k) := by
  induction h with
  | nil => rfl
  | cons hd hv t ih =>
    simp only [List.any_cons]
    rw [ih, key_dec hd hk]
theorem Kv.repl {r : List (κ × V)} {s : Tb} (h : Kv K f G r s) {k : List Int} (hk : f.dom k) {v : V} {d : D} (hv : Rv K G v d) : Kv K f G (r.map fun x => if x.1 = f.f k then (x.1, v) else x) (s.map fun x => if x.1 = k then (x.1, d) else x) := by
  induction h with
  | nil => exact .nil
  | cons hd hv' t ih =>
    rename_i ks v' d' r s
    simp only [List.map_cons]
    by_cases e : ks = k
    · subst e
      rw [if_pos rfl, if_pos rfl]
      exact .cons hd hv ih
    · have ne : ¬ f.f ks = f.f k := fun q => e (f.inj _ _ hd hk q)
      rw [if_neg ne, if_neg e]
      exact .cons hd hv' ih
theorem Kv.snoc {r : List (κ × V)} {s : Tb} (h : Kv K f G r s) {k : List Int} (hk : f.dom k) {v : V} {d : D} (hv : Rv K G v d) : Kv K f G (r ++ [(f.f k, v)]) (s ++ [(k, d)]) := by
  induction h with
  | nil => exact .cons hk hv .nil
  | cons hd hv' t ih => exact .cons hd hv' ih
theorem Kv.put {r : List (κ × V)} {s : Tb} (h : Kv K f G r s) {k : List Int} (hk : f.dom k) {v : V} {d : D} (hv : Rv K G v d) : Kv K f G (putK r (f.f k) v) (tput s k d) := by
  unfold putK tput
  rw [h.any hk]
  split
  · exact h.repl hk hv
  · exact h.snoc hk hv
end
section
variable {K : PySem.W.Frag} {b : Bool} {d : Nat}
/-- the same, perhaps locked -/
def TabR (K : PySem.W.Frag) (b : Bool) (G : Hp) (o : HO) (T : Tb) : Prop := ∃ u, (o = u ∨ ∃ od, o = .frz od u) ∧ TabO K b G u T
theorem TabR.mono {G G' : Hp} {o : HO} {T : Tb} (e : Ex G G') (h : TabR K b G o T) : TabR K b G' o T := let ⟨u, h1, h2⟩ := h; ⟨u, h1, h2.mono e⟩
theorem TabO.r {G : Hp} {o : HO} {T : Tb} (h : TabO K b G o T) : TabR K b G o T := ⟨o, .inl rfl, h⟩
/-- where the dict stands -/
structure Tc (K : PySem.W.Frag) (b : Bool) (d : Nat) (T : Tb) (F : Fz) (G : Hp) (σ : L2.St) : Prop where
  ex : ∃ p o, σ[d]? = some (some (.ref p)) ∧ F.f p = some o ∧ TabR K b G o T
theorem Tc.mono {T : Tb} {F : Fz} {G G' : Hp} {σ : L2.St} (e : Ex G G') (h : Tc K b d T F G σ) : Tc K b d T F G' σ := by
  obtain ⟨p, o, h1, h2, h3⟩ := h.ex
  exact ⟨p, o, h1, h2, h3.mono e⟩
theorem Tc.at_ {T : Tb} {F : Fz} {G : Hp} {σ σ' : L2.St} (e : σ'[d]? = σ[d]?) (h : Tc K b d T F G σ) : Tc K b d T F G σ' := by
  obtain ⟨p, o, h1, h2, h3⟩ := h.ex
  exact ⟨p, o, by rw [e]; exact h1, h2, h3⟩
theorem Tc.up {T : Tb} {F : Fz} {G : Hp} {σ : L2.St} {q : Addr} {u : HO} (hq : F.f q = none) (h : Tc K b d T F G σ) : Tc K b d T (F.up q u) G σ := by
  obtain ⟨p, o, h1, h2, h3⟩ := h.ex
  refine ⟨p, o, h1, ?_, h3⟩
  show upd F.f q u p = some o
  rw [upd_ne (ne_of_none h2 hq)]
  exact h2
structure SimXE (K : PySem.W.Frag) (b : Bool) (d : Nat) (t : TE) (e : Tb → DE) : Prop where
  run : ∀ {F κ G σ ρ M H Q v M' T}, Tc K b d T F G σ → Sm K F κ G M H → Se K κ G σ ρ → e T ρ M = some (v, M') → PV K F κ G Q v M' → t σ H Q
structure SimXT (K : PySem.W.Frag) (b : Bool) (d : Nat) (t : TT) (e : Tb → DT) : Prop where
  run : ∀ {F κ G σ ρ M H c M' T} {Q : Bool → Hp → Prop}, Tc K b d T F G σ → Sm K F κ G M H → Se K κ G σ ρ → e T ρ M = some (c, M') → (∀ κ' G' H', Le κ G κ' G' → Sm K F κ' G' M' H' → Q c H') → t σ H Q
structure SimXA (K : PySem.W.Frag) (b : Bool) (d : Nat) (t : TA) (e : Tb → DA) : Prop where
  run : ∀ {F κ G σ ρ M H vs M' T} {Q : List V → Hp → Prop}, Tc K b d T F G σ → Sm K F κ G M H → Se K κ G σ ρ → e T ρ M = some (vs, M') → (∀ κ' G' us H', Le κ G κ' G' → Sm K F κ' G' M' H' → Rxs K κ' G' us vs → Q us H') → t σ H Q
/-! ### expressions -/
theorem xe_E {t : TE} {e : DE} (h : SimE K t e) : SimXE K b d t fun _ => e := ⟨fun _ S E e k => h.run S E e k⟩
theorem xt_T {t : TT} {e : DT} (h : SimT K t e) : SimXT K b d t fun _ => e := ⟨fun _ S E e k => h.run S E e k⟩
theorem xa_nil : SimXA K b d tNil fun _ => aNil := ⟨fun _ S E e k => sim_nil.run S E e k⟩
theorem xe_op {r : R2} {f : O2} {ta tb : TE} {a c : Tb → DE} (hr : SimR2 K r f) (ha : SimXE K b d ta a) (hb : SimXE K b d tb c) : SimXE K b d (tOp r ta tb) fun T => e2 f (a T) (c T) := ⟨fun {F κ G σ ρ M H Q z M' T} C S E h k => by
  unfold e2 at h
  split at h
  · rename_i x M1 e
    split at h
    · rename_i y M2 e2
      refine ha.run C S E e fun κ1 G1 u H1 l1 S1 r1 => hb.run (C.mono l1.ex) S1 (E.mono l1) e2 fun κ2 G2 v H2 l2 S2 r2 => ?_
      exact hr S2 (r1.mono l2) r2 h (k.weak (l1.trans l2))
    · cases h
  · cases h⟩
theorem xa_cons {ta : TE} {a : Tb → DE} {tr : TA} {as : Tb → DA} (ha : SimXE K b d ta a) (hr : SimXA K b d tr as) : SimXA K b d (tCons ta tr) fun T => aCons (a T) (as T) := ⟨fun {F κ G σ ρ M H vs M' T Q} C S E h k => by
  unfold aCons at h
  split at h
  · rename_i x M1 e
    split at h
    · rename_i xs M2 e2
      cases h
      exact ha.run C S E e fun κ1 G1 u H1 l1 S1 r1 => hr.run (C.mono l1.ex) S1 (E.mono l1) e2 fun κ2 G2 us H2 l2 S2 r2 => k κ2 G2 (u :: us) H2 (l1.trans l2) S2 (.cons (r1.mono l2) r2)
    · cases h
  · cases h⟩
theorem xe_cb {r : List V → Hp → VK → Prop} {f : OA} {ta : TA} {a : Tb → DA} (hr : SimRA K r f) (ha : SimXA K b d ta a) : SimXE K b d (tCB r ta) fun T => eA f (a T) := ⟨fun {F κ G σ ρ M H Q z M' T} C S E h k => by
  unfold eA at h
  split at h
  · rename_i xs M1 e
    exact ha.run C S E e fun κ1 G1 us H1 l1 S1 r1 => hr S1 r1 h (k.weak l1)
  · cases h⟩
theorem xe_tup {ta : TA} {a : Tb → DA} (ha : SimXA K b d ta a) : SimXE K b d (tTup ta) fun T => eTup (a T) := ⟨fun {F κ G σ ρ M H Q z M' T} C S E h k => by
  unfold eTup eA at h
  split at h
  · rename_i vs M1 e
    dsimp only at h
    split at h
    · rename_i xs ex
      obtain ⟨hp, h⟩ := grd_some h
      cases h
      refine ha.run C S E e fun κ1 G1 us H1 l1 S1 r1 => ?_
      have r := allD_of r1 ex
      refine ⟨sz_big (by rw [r.length]; exact hp), fun p hp => ?_⟩
      have g := (S1.fresh hp).1
      exact k κ1 (upd G1 p (.tup us)) _ _ (l1.trans (Le.newG g)) (S1.newG _ hp) (Rv.tup (.of upd_same) (r.mono (Ex.new g)))
    · cases h
  · cases h⟩
theorem xe_call {f : DF} {n : Nat} {t : TA} {as : Tb → DA} {E : XK} (ha : SimXA K b d t as) (hn : ∀ T ρ M vs M', as T ρ M = some (vs, M') → vs.length = n) : SimXE K b d (tCall (spD K f n) [] E t) fun T => eCall f (as T) := ⟨fun {F κ G σ ρ M H Q z M' T} C S E h k => by
  unfold eCall eA at h
  split at h
  · rename_i xs M1 e
    refine ha.run C S E e fun κ1 G1 us H1 l1 S1 r1 => ?_
    rw [List.append_nil]
    exact ⟨F, κ1, G1, M1, xs, z, M', S1, r1, hn _ _ _ _ _ e, h, k.weak l1⟩
  · cases h⟩
theorem xt_B {ta : TE} {a : Tb → DE} (ha : SimXE K b d ta a) : SimXT K b d (tB ta) fun T => tVal (a T) := ⟨fun {F κ G σ ρ M H c M' T Q} C S E h k => by
  unfold tVal at h
  split at h
  · rename_i c M1 e
    cases h
    refine ha.run C S E e fun κ1 G1 u H1 l1 S1 r1 => ⟨c, ?_, k κ1 G1 H1 l1 S1⟩
    cases r1; rfl
  · cases h⟩
theorem xt_Test {ta : TE} {a : Tb → DE} (ha : SimXE K b d ta a) : SimXT K b d (tTest ta) fun T => tVal (a T) := ⟨fun C S E h k => (xt_B ha).run C S E h k⟩
theorem xt_and {t u : TT} {a c : Tb → DT} (ha : SimXT K b d t a) (hb : SimXT K b d u c) : SimXT K b d (L2.tAnd t u) fun T => Rw.tAnd (a T) (c T) := ⟨fun {F κ G σ ρ M H q M' T Q} C S E h k => by
  unfold Rw.tAnd at h
  split at h
  · rename_i M1 e
    refine ha.run C S E e fun κ1 G1 H1 l1 S1 => ?_
    show (if true = true then _ else _)
    rw [if_pos rfl]
    exact hb.run (C.mono l1.ex) S1 (E.mono l1) h fun κ2 G2 H2 l2 S2 => k κ2 G2 H2 (l1.trans l2) S2
  · rename_i M1 e
    cases h
    refine ha.run C S E e fun κ1 G1 H1 l1 S1 => ?_
    show (if false = true then _ else _)
    rw [if_neg Bool.false_ne_true]
    exact k κ1 G1 H1 l1 S1
  · cases h⟩
theorem xt_or {t u : TT} {a c : Tb → DT} (ha : SimXT K b d t a) (hb : SimXT K b d u c) : SimXT K b d (L2.tOr t u) fun T => Rw.tOr (a T) (c T) := ⟨fun {F κ G σ ρ M H q M' T Q} C S E h k => by
  unfold Rw.tOr at h
  split at h
  · rename_i M1 e
    cases h
    refine ha.run C S E e fun κ1 G1 H1 l1 S1 => ?_
    show (if true = true then _ else _)
    rw [if_pos rfl]
    exact k κ1 G1 H1 l1 S1
  · rename_i M1 e
    refine ha.run C S E e fun κ1 G1 H1 l1 S1 => ?_
    show (if false = true then _ else _)
    rw [if_neg Bool.false_ne_true]
    exact hb.run (C.mono l1.ex) S1 (E.mono l1) h fun κ2 G2 H2 l2 S2 => k κ2 G2 H2 (l1.trans l2) S2
  · cases h⟩
theorem xt_not {t : TT} {a : Tb → DT} (ha : SimXT K b d t a) : SimXT K b d (L2.tNot t) fun T => Rw.tNot (a T) := ⟨fun {F κ G σ ρ M H q M' T Q} C S E h k => by
  unfold Rw.tNot at h
  split at h
  · rename_i c M1 e
    cases h
    exact ha.run C S E e k
  · cases h⟩
/-! ### d[k], k in d, d.get((..), None) -/
/-- the dict's object, the key -/
def KeyAt (K : PySem.W.Frag) (H : Hp) (a : Addr) (y : V) (r : Option V) : Prop :=
  (∃ kvs k, Rd H a (.dK kvs) ∧ y = kV k ∧ r = valV kvs k) ∨ ∃ kvs k q, Rd H a (.dT kvs) ∧ y = .ref q ∧ SqT K H q (k.map kV) ∧ r = valV kvs k
def tKGet (K : PySem.W.Frag) (td ty : TE) : TE := fun σ H Q => td σ H fun x H1 => ty σ H1 fun y H2 => ∃ a v, x = .ref a ∧ KeyAt K H2 a y (some v) ∧ Q v H2
def tKIn (K : PySem.W.Frag) (neg : Bool) (ty td : TE) : TE := fun σ H Q => ty σ H fun y H1 => td σ H1 fun x H2 => ∃ a o, x = .ref a ∧ KeyAt K H2 a y o ∧ Q (.bl (xor neg o.isSome)) H2
end
section
variable {X : Cx} {pins : List (Addr × Obj)} {σ : L2.St} {H : Hp} {s : Shared} {a : Addr} {y v : V} {u r : Value} {o : Option V} {A : Around} {E : Value → Shared → Prop}
theorem keyS {ks : List L2.Key} {q : Addr} (I : Inv X pins σ H s) (e : SqT X.K H q (ks.map kV)) : (tupleKind (mixKind X.prog X.w)).is s.heap ks q := by
  obtain ⟨its, r, ⟨o, h1, h2, n, h3⟩, _⟩ := I.tuple e
  exact ⟨o, its.toArray, n, h1, h2, h3, by simpa using items_are r⟩
theorem KeyAt.isD (g : KeyAt X.K H a y o) : IsD H a := by
  rcases g with ⟨kvs, k, e, _⟩ | ⟨kvs, k, q, e, _⟩
  · exact .inl ⟨kvs, e⟩
  · exact .inr ⟨kvs, e⟩
theorem k_getItem {Q : Value → Shared → Prop} (hu : A.units + 1 < cLine) (I : Inv X pins σ H s) (g : KeyAt X.K H a y (some v)) (ry : RelV y u) (h : ∀ w' s', Inv X pins σ H s' → RelV v w' → Q w' s') :
    wpAny (model X.prog X.w) A (getItem (.ref a) u) Q E s := by
  rcases g with ⟨kvs, k, e, ey, l⟩ | ⟨kvs, k, b, e, ey, eb, l⟩
  · exact L2.d_getItem hu I (.inl ⟨kvs, k, e, ey, l⟩) ry h
  · subst ey
    cases (show u = Value.ref b from ry)
    obtain ⟨z, hd, xs, rel, dd⟩ := dt_rd I.hok e
    obtain ⟨w', hw, rw'⟩ := RelO.some_of (v := v) (o := (atKey xs k).map (·.2)) (by rw [l]; exact rel.val k)
    obtain ⟨p, hp, hp2⟩ := Option.map_eq_some_iff.mp hw
    refine wpAny_getItem_heap (tupleKind_room_in1 hu) (keyS I eb) dd hp ?_
    rw [hp2]
    exact h w' _ (I.tok _) rw'
theorem k_in' {Q : Value → Shared → Prop} (hu : A.units + 1 < cLine) (I : Inv X pins σ H s) (g : KeyAt X.K H a y o) (ry : RelV y u) (h : ∀ s', Inv X pins σ H s' → Q (.bool o.isSome) s') :
    wpAny (model X.prog X.w) A (compareOp .In u (.ref a)) Q E s := by
  rcases g with ⟨kvs, k, e, ey, l⟩ | ⟨kvs, k, b, e, ey, eb, l⟩
  · exact L2.d_in hu I (.inl ⟨kvs, k, e, ey, l⟩) ry h
  · subst ey
    cases (show u = Value.ref b from ry)
    obtain ⟨z, hd, xs, rel, dd⟩ := dt_rd I.hok e
    refine wpAny_in_heap (tupleKind_room_in1 hu) (keyS I eb) hd dd ?_
    have q := (rel.val k).isSome_eq
    rw [Option.isSome_map] at q
    rw [← q, ← l]
    exact h _ (I.tok _)
theorem k_notIn {Q : Value → Shared → Prop} (hu : A.units + 1 < cLine) (I : Inv X pins σ H s) (g : KeyAt X.K H a y o) (ry : RelV y u) (h : ∀ s', Inv X pins σ H s' → Q (.bool (!o.isSome)) s') :
    wpAny (model X.prog X.w) A (compareOp .NotIn u (.ref a)) Q E s := by
  rcases g with ⟨kvs, k, e, ey, l⟩ | ⟨kvs, k, b, e, ey, eb, l⟩
  · exact L2.d_notIn hu I (.inl ⟨kvs, k, e, ey, l⟩) ry h
  · subst ey
    cases (show u = Value.ref b from ry)
    obtain ⟨z, hd, xs, rel, dd⟩ := dt_rd I.hok e
    refine wpAny_notIn_heap (tupleKind_room_in1 hu) (keyS I eb) hd dd ?_
    have q := (rel.val k).isSome_eq
    rw [Option.isSome_map] at q
    rw [← q, ← l]
    exact h _ (I.tok _)
end
section
variable {X : Cx} {o i : Expr} {pos : Pos} {td ty : TE}
theorem kdict_ty {pins : List (Addr × Obj)} {σ : L2.St} {H : Hp} {s : Shared} {a : Addr} {y : V} {r : Option V} (I : Inv X pins σ H s) (g : KeyAt X.K H a y r) : s.TypeIs (.ref a) "dict" := (isD_at I g.isD).1
theorem pe_kget (hu : X.A.units + 1 < cLine) (ho : PE X o td) (hi : PE X i ty) (hs : NoSl i) : PE X (.Subscript o i pos) (tKGet X.K td ty) := by
  refine ⟨fun pins s σ H Q I h => ?_⟩
  refine subD_of PySem.F.slot_dict_getitem.lookup hs (thn (ho.run pins s σ H _ I h) fun u s1 ⟨x, H1, I1, rx, q1⟩ => thn (hi.run pins s1 σ H1 _ I1 q1) fun iv s2 ⟨y, H2, I2, ry, a, v, ex, g, q2⟩ => ?_)
  subst ex
  obtain rfl : u = Value.ref a := rx
  exact ⟨kdict_ty I2 g, k_getItem hu I2 g ry fun w' s3 I3 rw' => ⟨v, H2, I3, rw', q2⟩⟩
theorem pc_kin (hu : X.A.units + 1 < cLine) (hi : PE X i ty) (ho : PE X o td) : PC X .In i o (tKIn X.K false ty td) := by
  refine ⟨fun pins s σ H Q I h => ?_⟩
  refine thn (hi.run pins s σ H _ I h) fun iv s1 ⟨y, H1, I1, ry, q1⟩ => thn (ho.run pins s1 σ H1 _ I1 q1) fun u s2 ⟨x, H2, I2, rx, a, ov, ex, g, q2⟩ => ?_
  subst ex
  obtain rfl : u = Value.ref a := rx
  exact k_in' hu I2 g ry fun s3 I3 => ⟨.bl ov.isSome, H2, I3, rfl, by simpa using q2⟩
theorem pc_knotin (hu : X.A.units + 1 < cLine) (hi : PE X i ty) (ho : PE X o td) : PC X .NotIn i o (tKIn X.K true ty td) := by
  refine ⟨fun pins s σ H Q I h => ?_⟩
  refine thn (hi.run pins s σ H _ I h) fun iv s1 ⟨y, H1, I1, ry, q1⟩ => thn (ho.run pins s1 σ H1 _ I1 q1) fun u s2 ⟨x, H2, I2, rx, a, ov, ex, g, q2⟩ => ?_
  subst ex
  obtain rfl : u = Value.ref a := rx
  exact k_notIn hu I2 g ry fun s3 I3 => ⟨.bl (!ov.isSome), H2, I3, rfl, by simpa using q2⟩
end
section
variable {K : PySem.W.Frag} {b : Bool} {d : Nat}
theorem ints_kv {G : Hp} : ∀ {us : List V} {ds : List D} {ks : List Int}, Rvs K G us ds → intsD ds = some ks → us = (ks.map Sum.inl).map kV := fun {us ds ks} r e => by
  rw [r.ints_of e]
  simp [kV]
/-- the key that stands there -/
theorem keyAt_of {F : Fz} {κ : List Addr} {G : Hp} {M : DSt} {H : Hp} {p : Addr} {o : HO} {T : Tb} {x : D} {ks : List Int} {y : V} (S : Sm K F κ G M H) (hp : F.f p = some o) (ht : TabR K b G o T) (r : Rv K G y x) (hk : keyI b x = some ks) :
    (∀ v, look T ks = some v → ∃ u, Rv K G u v ∧ KeyAt K H p y (some u)) ∧ ∃ q, KeyAt K H p y q ∧ q.isSome = (look T ks).isSome := by
  have hO := S.fx p o hp
  obtain ⟨u0, hu, ht⟩ := ht
  have hH : Rd H p u0 := by
    rcases hu with rfl | ⟨od, rfl⟩
    · exact .inl hO
    · exact .inr ⟨od, hO⟩
  cases b with
  | true =>
    obtain ⟨kvs, rfl, kv⟩ := ht
    cases x with
    | tup xs =>
      simp only [keyI, if_true] at hk
      cases r with
      | tup hs rs =>
        rename_i q us
        rw [ints_kv rs hk] at hs
        have hs' := Evl.ex_t S.ex hs
        refine ⟨fun v e => ?_, _, .inr ⟨kvs, ks.map Sum.inl, q, hH, rfl, hs', rfl⟩, kv.some_iff (f := kfT) (k := ks) trivial⟩
        obtain ⟨u, h1, h2⟩ := (kv.val (f := kfT) (k := ks) trivial).1 v e
        exact ⟨u, h2, .inr ⟨kvs, ks.map Sum.inl, q, hH, rfl, hs', h1.symm⟩⟩
    | _ => simp [keyI] at hk
  | false =>
    obtain ⟨kvs, rfl, kv⟩ := ht
    cases x with
    | int i =>
      simp only [keyI, Bool.false_eq_true, if_false] at hk
      cases hk
      cases r
      refine ⟨fun v e => ?_, _, .inl ⟨kvs, .inl i, hH, rfl, rfl⟩, kv.some_iff (f := kfI) (k := [i]) ⟨i, rfl⟩⟩
      obtain ⟨u, h1, h2⟩ := (kv.val (f := kfI) (k := [i]) ⟨i, rfl⟩).1 v e
      exact ⟨u, h2, .inl ⟨kvs, .inl i, hH, rfl, h1.symm⟩⟩
    | _ => simp [keyI] at hk
theorem xe_get {tk : TE} {k : DE} (hk : SimE K tk k) : SimXE K b d (tKGet K (tVar d) tk) (eGet b k) := ⟨fun {F κ G σ ρ M H Q z M' T} C S E h kk => by
  unfold eGet at h
  split at h
  · rename_i x M1 e
    split at h
    · rename_i ks ek
      split at h
      · rename_i v ev
        cases h
        obtain ⟨p, o, h1, h2, h3⟩ := C.ex
        refine ⟨_, h1, hk.run S E e fun κ1 G1 u H1 l1 S1 r1 => ?_⟩
        obtain ⟨w, hw, g⟩ := (keyAt_of S1 h2 (h3.mono l1.ex) r1 ek).1 v ev
        exact ⟨p, w, rfl, g, (kk.weak l1).here S1 hw⟩
      · cases h
    · cases h
  · cases h⟩
theorem xe_has {neg : Bool} {tk : TE} {k : DE} (hk : SimE K tk k) : SimXE K b d (tKIn K neg tk (tVar d)) (eHas b neg k) := ⟨fun {F κ G σ ρ M H Q z M' T} C S E h kk => by
  unfold eHas at h
  split at h
  · rename_i x M1 e
    split at h
    · rename_i ks ek
      cases h
      obtain ⟨p, o, h1, h2, h3⟩ := C.ex
      refine hk.run S E e fun κ1 G1 u H1 l1 S1 r1 => ⟨_, h1, ?_⟩
      obtain ⟨q, g, eq⟩ := (keyAt_of S1 h2 (h3.mono l1.ex) r1 ek).2
      refine ⟨p, q, rfl, g, ?_⟩
      rw [eq]
      exact (kk.weak l1).here S1 (Rv.bl _)
    · cases h
  · cases h⟩
theorem xe_getN {ta : TA} {as : DA} (ha : SimA K ta as) : SimXE K true d (tDGet2 (tVar d) (tTup ta) (tC .non)) (eGetN as) := ⟨fun {F κ G σ ρ M H Q z M' T} C S E h k => by
  unfold eGetN at h
  split at h
  · rename_i vs M1 e
    split at h
    · rename_i xs ex
      split at h
      · rename_i ks ek
        obtain ⟨hb, h⟩ := grd_some h
        cases h
        obtain ⟨p, o, h1, h2, u0, hu, kvs, rfl, kv⟩ := C.ex
        have rd : ∀ H', H' p = some o → Rd H' p (.dT kvs) := fun H' e => by
          rcases hu with rfl | ⟨od, rfl⟩
          · exact .inl e
          · exact .inr ⟨od, e⟩
        refine ⟨_, h1, p, rfl, .inr ⟨kvs, rd _ (S.fx p _ h2)⟩, ha.run S E e fun κ1 G1 us H1 l1 S1 r1 => ?_⟩
        have r := allD_of r1 ex
        have eu := ints_kv r ek
        have hl : us.length = ks.length := by rw [eu]; simp
        refine ⟨sz_big (by rw [hl]; exact hb), fun q hq => ?_⟩
        have g := (S1.fresh hq).1
        have l2 : Le κ1 G1 κ1 (upd G1 q (.tup us)) := Le.newG g
        have S2 := S1.newG (.tup us) hq
        have kv2 := (kv.mono l1.ex).mono l2.ex
        have hp : Rd (upd H1 q (.tup us)) p (.dT kvs) := rd _ (S2.fx p _ h2)
        have hq2 : upd H1 q (.tup us) q = some (.tup ((ks.map Sum.inl).map kV)) := by rw [upd_same, eu]
        refine ⟨_, .inr ⟨kvs, ks.map Sum.inl, q, hp, rfl, hq2, rfl⟩, ?_⟩
        have vv := kv2.val (f := kfT) (k := ks) trivial
        cases el : look T ks with
        | none =>
          rw [el] at k
          have e0 : valV kvs (ks.map Sum.inl) = none := vv.2 el
          rw [e0]
          exact (k.weak (l1.trans l2)).here S2 Rv.non
        | some v =>
          rw [el] at k
          obtain ⟨u, hu, ru⟩ := vv.1 v el
          have e0 : valV kvs (ks.map Sum.inl) = some u := hu
          rw [e0]
          exact (k.weak (l1.trans l2)).here S2 ru
      · cases h
    · cases h
  · cases h⟩
end
end Rw
end PRwDict
section PRwDict2
set_option Elab.async false
set_option linter.all false
set_option maxRecDepth 100000
set_option maxHeartbeats 2000000
/-! RwDict2: comprehensions and statements beside a dict. -/
namespace Rw
open PySem L2 PySem.Spec PyProof.Rows
open Evl (Ex)
section
variable {K : PySem.W.Frag}
/-- the loop of a comprehension, from its reading -/
theorem xcomp_run {b : Bool} {d : Nat} {T : Tb} {tg : Tgt} {t : Tb → DT} {el : Tb → DE} {tt : TT} {te : TE} {src : List Nat} {own : List Nat} {xs : List D} {F : Fz} {σ : L2.St} {ρ : DEnv} {κ1 : List Addr} {G1 : Hp} {M' : DSt} {H1 : Hp} {Dl : Addr} {J : It} {Gd : Hp → Prop} {Y : Nat → Hp → V → Hp → Prop} {Q : VK} {c : Bool} {z : Dv} {ys : List D} {M2 Mz : DSt}
    (ht : SimXT K b d tt t) (he : SimXE K b d te el) (hd : d ∉ own) (C : Tc K b d T F G1 σ) (hown : ∀ i ∈ tg.slots, i ∈ own) (E : Se K κ1 G1 σ ρ) (S1 : Sm K F κ1 G1 M' H1) (W : Walk J xs.length Gd Y)
    (hG : ∀ acc κ2 G2 M2 H2, Le κ1 G1 κ2 G2 → Sm K (F.up Dl (.lst acc)) κ2 G2 M2 H2 → stand src M' M2 → Gd H2)
    (hY : ∀ i acc κ2 G2 M2 H2 x H3, i < xs.length → Le κ1 G1 κ2 G2 → Sm K (F.up Dl (.lst acc)) κ2 G2 M2 H2 → stand src M' M2 → Y i H2 x H3 → ∃ G3 d, Ex G2 G3 ∧ Sm K (F.up Dl (.lst acc)) κ2 G3 M2 H3 ∧ xs[i]? = some d ∧ Rv K G3 x d)
    (hD : H1 Dl = none) (hl : compL (stand src M') (compStep tg (t T) (el T) (wipeD ρ own)) xs M' = some (ys, M2)) (hz : xs.length ≤ big) (hm : mkL c ys M2 = some (z, Mz)) (k : PV K F κ1 G1 Q z Mz) :
    ∃ W : Nat → Nat → Hp → Prop, (∃ m, W 0 m (upd H1 Dl (.lst []))) ∧ ∀ i m H, W i m H →
      (J.stop i H ∧ Q (.ref Dl) H) ∨ (J.go i H ∧ ∃ Nx : Hp → Prop, (∀ H', Nx H' → ∃ m', m' < m ∧ W (i + 1) m' H') ∧ ∀ x H', J.yld i H x H' → tg.tg K x (L2.wipe σ own) H' fun σ2 H2 => L2.wipe σ2 own = L2.wipe σ own ∧ tt σ2 H2 fun b H3 =>
        if b = true then te σ2 H3 fun y H4 => ∃ acc, H4 Dl = some (.lst acc) ∧ acc.length < sizeLine ∧ Nx (upd H4 Dl (.lst (acc ++ [y]))) else Nx H3) := by
  have f0 := S1.fresh hD
  have C0 : ∀ acc, Tc K b d T (F.up Dl (.lst acc)) G1 σ := fun acc => C.up f0.2.1
  have sg : ∀ σ2 : L2.St, (∀ vs : List Nat, (∀ i ∈ tg.slots, i ∈ vs) → L2.wipe σ2 vs = L2.wipe (L2.wipe σ own) vs) → σ2[d]? = σ[d]? := fun σ2 w2 => by
    have h1 := congrArg (fun l => l[d]?) (w2 own hown)
    simp only [wipe_get, if_neg hd] at h1
    exact h1
  refine lc_it W (fun i H => ∃ κ2 G2 M3 acc as zs, Le κ1 G1 κ2 G2 ∧ Sm K (F.up Dl (.lst acc)) κ2 G2 M3 H ∧ Rvs K G2 acc as ∧ acc.length ≤ i ∧ i ≤ xs.length ∧ compL (stand src M') (compStep tg (t T) (el T) (wipeD ρ own)) (xs.drop i) M3 = some (zs, M2) ∧ ys = as ++ zs) ?_ ?_ ?_ ?_
  · exact ⟨κ1, G1, M', [], [], ys, Le.refl _ _, S1.frame hD [], .nil, Nat.zero_le _, Nat.zero_le _, hl, rfl⟩
  · rintro i H hi ⟨κ2, G2, M3, acc, as, zs, l2, S2, ra, la, _, h2, e2⟩
    refine hG _ κ2 G2 M3 H l2 S2 ?_
    cases hx : xs.drop i with
    | nil => rw [hx] at h2; unfold compL at h2; exact (grd_some h2).1
    | cons y r => rw [hx] at h2; unfold compL at h2; exact (grd_some h2).1
  · rintro i x H H' hi ⟨κ2, G2, M3, acc, as, zs, l2, S2, ra, la, _, h2, e2⟩ hy
    have hx : xs.drop i = xs[i] :: xs.drop (i + 1) := List.drop_eq_getElem_cons hi
    rw [hx] at h2
    unfold compL at h2
    obtain ⟨st, h2⟩ := grd_some h2
    obtain ⟨G3, dd, x3, S3, ed, rd⟩ := hY i _ κ2 G2 M3 H x H' hi l2 S2 st hy
    have ed2 : xs[i] = dd := by
      rw [List.getElem?_eq_getElem hi] at ed
      exact Option.some.inj ed
    rw [ed2] at h2
    have l3 : Le κ1 G1 κ2 G3 := l2.trans ⟨List.prefix_refl _, x3⟩
    cases es : compStep tg (t T) (el T) (wipeD ρ own) dd M3 with
    | none => simp only [es] at h2; cases h2
    | some q =>
      obtain ⟨o, M5⟩ := q
      simp only [es] at h2
      cases ec : compL (stand src M') (compStep tg (t T) (el T) (wipeD ρ own)) (xs.drop (i + 1)) M5 with
      | none => simp only [ec] at h2; cases h2
      | some q =>
        obtain ⟨zs', M6⟩ := q
        simp only [ec] at h2
        unfold compStep at es
        cases ep : tg.put (.d dd) (wipeD ρ own) with
        | none => simp only [ep] at es; cases es
        | some ρ1 =>
          simp only [ep] at es
          refine put_ok S3 tg (x := .d dd) rd ((E.mono l3).wipe2 own) ep fun σ2 E2 w2 => ⟨?_, ?_⟩
          · rw [w2 own hown]
            apply List.ext_getElem?
            intro j
            rw [wipe_get, wipe_get, wipe_length_ite]
          · cases et : t T ρ1 M3 with
            | none => simp only [et] at es; cases es
            | some p =>
              obtain ⟨bb, M4⟩ := p
              simp only [et] at es
              refine ht.run (((C0 acc).mono l3.ex).at_ (sg σ2 w2)) S3 E2 et fun κ4 G4 H4 l4 S4 => ?_
              cases bb with
              | false =>
                simp only at es
                cases es
                cases h2
                rw [if_neg Bool.false_ne_true]
                exact ⟨κ4, G4, _, acc, as, _, l3.trans l4, S4, (ra.mono x3).mono l4.ex, by omega, by omega, ec, e2⟩
              | true =>
                simp only at es
                rw [if_pos rfl]
                cases ee : el T ρ1 M4 with
                | none => simp only [ee] at es; cases es
                | some q =>
                  obtain ⟨v, M7⟩ := q
                  simp only [ee] at es
                  cases v with
                  | c n => simp only at es; cases es
                  | r n => simp only at es; cases es
                  | o _ _ _ => simp only at es; cases es
                  | k _ _ => simp only at es; cases es
                  | d y =>
                    simp only at es
                    cases es
                    cases h2
                    refine he.run (((C0 acc).mono (l3.trans l4).ex).at_ (sg σ2 w2)) S4 (E2.mono l4) ee fun κ5 G5 u H5 l5 S5 r5 => ?_
                    have ra5 : Rvs K G5 acc as := ((ra.mono x3).mono l4.ex).mono l5.ex
                    refine ⟨acc, S5.fx Dl _ upd_same, sz_big1 (by omega), κ5, G5, _, acc ++ [u], as ++ [y], zs', (l3.trans l4).trans l5, S5.grow _, ra5.append (.cons r5 .nil), by simp; omega, by omega, ec, ?_⟩
                    rw [e2]
                    simp
  · rintro H ⟨κ2, G2, M3, acc, as, zs, l2, S2, ra, la, _, h2, e2⟩
    rw [List.drop_length] at h2
    unfold compL at h2
    obtain ⟨st, h2⟩ := grd_some h2
    cases h2
    rw [List.append_nil] at e2
    subst e2
    obtain ⟨κ', G', l', S', r'⟩ := S2.made f0.2.1 ra hm
    exact k κ' G' _ _ (l2.trans l') S' r'
theorem xe_lc {c b : Bool} {d : Nat} {wi : TI} {it : DI} {tg : Tgt} {tt : TT} {t : Tb → DT} {te : TE} {el : Tb → DE} {own : List Nat} (hi : SimI K wi it) (ht : SimXT K b d tt t) (he : SimXE K b d te el) (hown : ∀ i ∈ tg.slots, i ∈ own) (hd : d ∉ own) : SimXE K b d (tLc wi (tg.tg K) tt te own) fun T => eComp c it tg (t T) (el T) own := ⟨fun {F κ G σ ρ M H Q z Mz T} C S E h k => by
  unfold eComp at h
  split at h
  · rename_i xs src M' e
    obtain ⟨hz, h⟩ := grd_some h
    split at h
    · rename_i ys M2 hl
      refine hi.run S E e fun κ1 G1 H1 J Gd Y l1 S1 W hG hY => fun Dl hD => ?_
      exact xcomp_run ht he hd (C.mono l1.ex) hown (E.mono l1) S1 W (fun acc => hG _) (fun i acc => hY i _) hD hl hz h (k.weak l1)
    · cases h
  · cases h⟩
/-! ### statements -/
/-- behind a statement -/
def POK (K : PySem.W.Frag) (b : Bool) (d : Nat) (p : Addr) (F : Fz) (κ : List Addr) (G : Hp) (D : Ends) : Out × Tb → Prop
  | (.nx ρ M, T) => ∀ κ' G' σ' H' o, Le κ G κ' G' → Sm K (F.up p o) κ' G' M H' → TabO K b G' o T → σ'[d]? = some (some (.ref p)) → Se K κ' G' σ' ρ → D.nx σ' H'
  | (.rt v M, T) => ∀ κ' G' u H' o, Le κ G κ' G' → Sm K (F.up p o) κ' G' M H' → Rx K κ' G' u v → D.rt u H'
  | (.bk ρ M, T) => ∀ κ' G' σ' H' o, Le κ G κ' G' → Sm K (F.up p o) κ' G' M H' → TabO K b G' o T → σ'[d]? = some (some (.ref p)) → Se K κ' G' σ' ρ → D.bk σ' H'
  | (.ct ρ M, T) => ∀ κ' G' σ' H' o, Le κ G κ' G' → Sm K (F.up p o) κ' G' M H' → TabO K b G' o T → σ'[d]? = some (some (.ref p)) → Se K κ' G' σ' ρ → D.ct σ' H'
structure SimXS (K : PySem.W.Frag) (b : Bool) (d : Nat) (t : TS) (s : XS) : Prop where
  run : ∀ {p F κ G σ ρ M H D T o r}, F.f p = none → Sm K (F.up p o) κ G M H → TabO K b G o T → σ[d]? = some (some (.ref p)) → Se K κ G σ ρ → s ρ M T = some r → POK K b d p F κ G D r → t D σ H
theorem POK.weak {b : Bool} {d : Nat} {p : Addr} {F : Fz} {κ κ1 : List Addr} {G G1 : Hp} {D : Ends} {r : Out × Tb} (l : Le κ G κ1 G1) (k : POK K b d p F κ G D r) : POK K b d p F κ1 G1 D r := by
  obtain ⟨o, T⟩ := r
  cases o <;> exact fun κ' G' u H' o' l' => k κ' G' u H' o' (l.trans l')
theorem tc_of {b : Bool} {d : Nat} {p : Addr} {F : Fz} {G : Hp} {σ : L2.St} {T : Tb} {o : HO} (h1 : σ[d]? = some (some (.ref p))) (h2 : TabO K b G o T) : Tc K b d T (F.up p o) G σ := ⟨p, o, h1, upd_same, h2.r⟩
variable {b : Bool} {d : Nat}
theorem sk_pass : SimXS K b d tNext kPass := ⟨fun {p F κ G σ ρ M H D T o r} hF S C g E h k => by
  cases h
  exact k κ G σ H o (Le.refl _ _) S C g E⟩
theorem sk_seq {t u : TS} {a c : XS} (ha : SimXS K b d t a) (hb : SimXS K b d u c) : SimXS K b d (tSeq t u) (kSeq a c) := ⟨fun {p F κ G σ ρ M H D T o r} hF S C g E h k => by
  unfold kSeq at h
  split at h
  · rename_i ρ1 M1 T1 e
    exact ha.run (D := { D with nx := u D }) hF S C g E e fun κ1 G1 σ1 H1 o1 l1 S1 C1 g1 E1 => hb.run hF S1 C1 g1 E1 h (k.weak l1)
  · rename_i q e
    refine ha.run (D := { D with nx := u D }) hF S C g E h ?_
    obtain ⟨r, T'⟩ := r
    cases r with
    | nx ρ1 M1 => exact absurd h (e ρ1 M1 T')
    | rt v M1 => exact k
    | bk ρ1 M1 => exact k
    | ct ρ1 M1 => exact k⟩
theorem slot_put {t : Tgt} {σ σ' : L2.St} (hd : d ∉ t.slots) (w : ∀ vs : List Nat, (∀ i ∈ t.slots, i ∈ vs) → L2.wipe σ' vs = L2.wipe σ vs) : σ'[d]? = σ[d]? := by
  have h1 := congrArg (fun l => l[d]?) (w t.slots fun i hi => hi)
  simp only [wipe_get, if_neg hd] at h1
  exact h1
theorem sk_asg {te : TE} {a : Tb → DE} {tg : Tgt} (ha : SimXE K b d te a) (hd : d ∉ tg.slots) : SimXS K b d (tAsg te (tg.tg K)) (kAsg tg a) := ⟨fun {p F κ G σ ρ M H D T o r} hF S C g E h k => by
  unfold kAsg at h
  split at h
  · rename_i v M1 e
    split at h
    · rename_i ρ1 e2
      cases h
      exact ha.run (tc_of g C) S E e fun κ1 G1 u H1 l1 S1 r1 => put_ok S1 tg r1 (E.mono l1) e2 fun σ2 E2 w => k κ1 G1 σ2 H1 o l1 S1 (C.mono l1.ex) (by rw [slot_put hd w]; exact g) E2
    · cases h
  · cases h⟩
theorem sk_expr {te : TE} {a : Tb → DE} (ha : SimXE K b d te a) : SimXS K b d (tDrop te) (kExpr a) := ⟨fun {p F κ G σ ρ M H D T o r} hF S C g E h k => by
  unfold kExpr at h
  split at h
  · rename_i v M1 e
    cases h
    exact ha.run (tc_of g C) S E e fun κ1 G1 u H1 l1 S1 r1 => k κ1 G1 σ H1 o l1 S1 (C.mono l1.ex) g (E.mono l1)
  · cases h⟩
theorem sk_ret {te : TE} {a : Tb → DE} (ha : SimXE K b d te a) : SimXS K b d (tRet te) (kRet a) := ⟨fun {p F κ G σ ρ M H D T o r} hF S C g E h k => by
  unfold kRet at h
  split at h
  · rename_i v M1 e
    cases h
    exact ha.run (tc_of g C) S E e fun κ1 G1 u H1 l1 S1 r1 => k κ1 G1 u H1 o l1 S1 r1
  · cases h⟩
theorem sk_if {tc : TT} {c : Tb → DT} {t u : TS} {a q : XS} (hc : SimXT K b d tc c) (ha : SimXS K b d t a) (hb : SimXS K b d u q) : SimXS K b d (tIfS tc t u) (kIf c a q) := ⟨fun {p F κ G σ ρ M H D T o r} hF S C g E h k => by
  unfold kIf at h
  split at h
  · rename_i M1 e
    refine hc.run (tc_of g C) S E e fun κ1 G1 H1 l1 S1 => ?_
    show (if true = true then _ else _)
    rw [if_pos rfl]
    exact ha.run hF S1 (C.mono l1.ex) g (E.mono l1) h (k.weak l1)
  · rename_i M1 e
    refine hc.run (tc_of g C) S E e fun κ1 G1 H1 l1 S1 => ?_
    show (if false = true then _ else _)
    rw [if_neg Bool.false_ne_true]
    exact hb.run hF S1 (C.mono l1.ex) g (E.mono l1) h (k.weak l1)
  · cases h⟩
theorem sk_wipe {t : TS} {a : XS} (vs : List Nat) (ha : SimXS K b d t a) : SimXS K b d t (kWipe vs a) := ⟨fun {p F κ G σ ρ M H D T o r} hF S C g E h k => by
  unfold kWipe at h
  split at h
  · rename_i q T1 e
    cases h
    refine ha.run hF S C g E e ?_
    cases q with
    | nx ρ1 M1 => exact fun κ' G' σ' H' o' l S' C' g' E' => k κ' G' σ' H' o' l S' C' g' (E'.wipe vs)
    | bk ρ1 M1 => exact fun κ' G' σ' H' o' l S' C' g' E' => k κ' G' σ' H' o' l S' C' g' (E'.wipe vs)
    | ct ρ1 M1 => exact fun κ' G' σ' H' o' l S' C' g' E' => k κ' G' σ' H' o' l S' C' g' (E'.wipe vs)
    | rt v M1 => exact k
  · cases h⟩
theorem sk_pre {t : TS} {a : XS} (vs : List Nat) (ha : SimXS K b d t a) : SimXS K b d t (kPre vs a) := ⟨fun hF S C g E h k => ha.run hF S C g (E.wipe vs) h k⟩
/-- the dict changes -/
theorem Sm.turn {F : Fz} {κ : List Addr} {G : Hp} {M : DSt} {H : Hp} {p : Addr} {o : HO} (S : Sm K (F.up p o) κ G M H) (u : HO) : Sm K (F.up p u) κ G M (upd H p u) := by
  have up1 : (F.up p o).f p = some o := upd_same
  have np : ∀ a ∈ κ, a ≠ p := fun a h z => by
    have q := S.fk a h
    rw [z, up1] at q
    cases q
  have gp : G p = none := S.dj p _ up1
  have zp : F.z p = none := S.fd p _ up1
  have back : ∀ a w, a ≠ p → (F.up p u).f a = some w → (F.up p o).f a = some w := fun a w h e => by
    show upd F.f p o a = some w
    rw [upd_ne h, ← upd_ne (H := F.f) (o := u) h]
    exact e
  refine ⟨fun a w e => ?_, fun a w e => ?_, fun a w e => ?_, fun a w e => ?_, S.zj, fun a w e => ?_, fun a h => ?_, S.zk, S.len, S.nd, fun a h => let ⟨w, e⟩ := S.th a h; ⟨w, by rw [upd_ne (np a h)]; exact e⟩, fun n ds e => ?_⟩
  · rw [upd_ne (ne_of_none e gp)]
    exact S.ex a w e
  · by_cases ha : a = p
    · subst ha
      rw [upd_same]
      exact (show (F.up a u).f a = some u from upd_same).symm.trans e
    · rw [upd_ne ha]
      exact S.fx a w (back a w ha e)
  · rw [upd_ne (ne_of_none e zp)]
    exact S.zx a w e
  · by_cases ha : a = p
    · subst ha
      exact gp
    · exact S.dj a w (back a w ha e)
  · by_cases ha : a = p
    · subst ha
      exact zp
    · exact S.fd a w (back a w ha e)
  · have q := S.fk a h
    show upd F.f p u a = none
    rw [upd_ne (np a h)]
    rw [show (F.up p o).f a = F.f a from upd_ne (np a h)] at q
    exact q
  · obtain ⟨a, xs, e1, e2, e4, e5⟩ := S.cel n ds e
    exact ⟨a, xs, e1, e2, by rw [upd_ne (np a (List.mem_of_getElem? e1))]; exact e4, e5⟩
theorem Sm.frameO {F : Fz} {κ : List Addr} {G : Hp} {M : DSt} {H : Hp} (S : Sm K F κ G M H) {p : Addr} (hp : H p = none) (o : HO) : Sm K (F.up p o) κ G M (upd H p o) := by
  have := (S.frame hp []).turn o
  rw [upd_upd] at this
  exact this
theorem sk_put {ta : TA} {as : DA} {te : TE} {e : Tb → DE} (ha : SimA K ta as) (he : SimXE K true d te e) : SimXS K true d (sDPut (tVar d) (tTup ta) te) (kPut as e) := ⟨fun {p F κ G σ ρ M H D T o r} hF S C g E h k => by
  unfold kPut at h
  split at h
  · rename_i v M1 e1
    split at h
    · rename_i vs M2 e2
      split at h
      · rename_i xs ex
        split at h
        · rename_i ks ek
          obtain ⟨hb, h⟩ := grd_some h
          cases h
          refine he.run (tc_of g C) S E e1 fun κ1 G1 u H1 l1 S1 r1 => ⟨_, g, ha.run S1 (E.mono l1) e2 fun κ2 G2 us H2 l2 S2 r2 => ?_⟩
          have r := allD_of r2 ex
          have eu := ints_kv r ek
          have hl : us.length = ks.length := by rw [eu]; simp
          refine ⟨sz_big (by rw [hl]; exact hb.1), fun q hq => ?_⟩
          have gq := (S2.fresh hq).1
          have l3 : Le κ2 G2 κ2 (upd G2 q (.tup us)) := Le.newG gq
          have S3 := S2.newG (.tup us) hq
          obtain ⟨kvs, rfl, kv⟩ := C
          have kv3 := ((kv.mono l1.ex).mono l2.ex).mono l3.ex
          have hp : upd H2 q (.tup us) p = some (.dT kvs) := S3.fx p _ upd_same
          have hq2 : upd H2 q (.tup us) q = some (.tup ((ks.map Sum.inl).map kV)) := by rw [upd_same, eu]
          refine ⟨p, _, rfl, DPut.t hp hq2 (sz_big1 (by rw [kv.length]; exact hb.2)), ?_⟩
          have rv : Rv K (upd G2 q (.tup us)) u v := (Rv.mono l2.ex r1).mono l3.ex
          exact k κ2 _ σ _ _ ((l1.trans l2).trans l3) (S3.turn (.dT (putK kvs (ks.map Sum.inl) u))) ⟨_, rfl, kv3.put (f := kfT) (k := ks) trivial rv⟩ g (((E.mono l1).mono l2).mono l3)
        · cases h
      · cases h
    · cases h
  · cases h⟩
theorem sk_putI {ti : TE} {i : DE} {te : TE} {e : Tb → DE} (hi : SimE K ti i) (he : SimXE K false d te e) : SimXS K false d (sDPut (tVar d) ti te) (kPutI i e) := ⟨fun {p F κ G σ ρ M H D T o r} hF S C g E h k => by
  unfold kPutI at h
  split at h
  · rename_i v M1 e1
    split at h
    · rename_i kk M2 e2
      obtain ⟨hb, h⟩ := grd_some h
      cases h
      refine he.run (tc_of g C) S E e1 fun κ1 G1 u H1 l1 S1 r1 => ⟨_, g, hi.run S1 (E.mono l1) e2 fun κ2 G2 w H2 l2 S2 r2 => ?_⟩
      obtain rfl := rx_int r2
      obtain ⟨kvs, rfl, kv⟩ := C
      have kv3 := (kv.mono l1.ex).mono l2.ex
      have hp : H2 p = some (.dK kvs) := S2.fx p _ upd_same
      refine ⟨p, _, rfl, DPut.k (k := .inl kk) hp (sz_big1 (by rw [kv.length]; exact hb)), ?_⟩
      have rv : Rv K G2 u v := Rv.mono l2.ex r1
      exact k κ2 _ σ _ _ (l1.trans l2) (S2.turn (.dK (putK kvs (.inl kk) u))) ⟨_, rfl, kv3.put (f := kfI) (k := [kk]) ⟨kk, rfl⟩ rv⟩ g ((E.mono l1).mono l2)
    · cases h
  · cases h⟩
theorem sk_for {wi : TI} {it : DI} {tg : Tgt} {tb : TS} {s : XS} (hi : SimI K wi it) (hs : SimXS K b d tb s) (hd : d ∉ tg.slots) : SimXS K b d (tFor wi (tg.tg K) tb) (kFor it tg s) := ⟨fun {p F κ G σ ρ M H D T o r} hF S C g E h k => by
  unfold kFor at h
  split at h
  · rename_i xs src M' e
    refine hi.run S E e fun κ1 G1 H1 J Gd Y l1 S1 W hG hY => ?_
    refine for_it W (fun i σ H => ∃ κ2 G2 ρ2 M3 T3 o3, Le κ1 G1 κ2 G2 ∧ Sm K (F.up p o3) κ2 G2 M3 H ∧ TabO K b G2 o3 T3 ∧ σ[d]? = some (some (.ref p)) ∧ Se K κ2 G2 σ ρ2 ∧ i ≤ xs.length ∧ forK (stand src M') (stepK tg s) (xs.drop i) ρ2 M3 T3 = some r) ?_ ?_ ?_ ?_
    · exact ⟨κ1, G1, ρ, M', T, o, Le.refl _ _, S1, C.mono l1.ex, g, E.mono l1, Nat.zero_le _, h⟩
    · rintro i σ H hi ⟨κ2, G2, ρ2, M3, T3, o3, l2, S2, C2, g2, E2, _, h2⟩
      refine hG _ κ2 G2 M3 H l2 S2 ?_
      cases hx : xs.drop i with
      | nil => rw [hx] at h2; unfold forK at h2; exact (grd_some h2).1
      | cons y r => rw [hx] at h2; unfold forK at h2; exact (grd_some h2).1
    · rintro i x σ H H' hi ⟨κ2, G2, ρ2, M3, T3, o3, l2, S2, C2, g2, E2, _, h2⟩ hy
      have hx : xs.drop i = xs[i] :: xs.drop (i + 1) := List.drop_eq_getElem_cons hi
      rw [hx] at h2
      unfold forK at h2
      obtain ⟨st, h2⟩ := grd_some h2
      obtain ⟨G3, dd, x3, S3, ed, rd⟩ := hY i _ κ2 G2 M3 H x H' hi l2 S2 st hy
      have ed2 : xs[i] = dd := by
        rw [List.getElem?_eq_getElem hi] at ed
        exact Option.some.inj ed
      rw [ed2] at h2
      have l3 : Le κ1 G1 κ2 G3 := l2.trans ⟨List.prefix_refl _, x3⟩
      cases es : stepK tg s dd ρ2 M3 T3 with
      | none => simp only [es] at h2; cases h2
      | some q =>
        obtain ⟨q, T4⟩ := q
        simp only [es] at h2
        unfold stepK at es
        cases ep : tg.put (.d dd) ρ2 with
        | none => simp only [ep] at es; cases es
        | some ρ1 =>
          simp only [ep] at es
          refine put_ok S3 tg (x := .d dd) rd (E2.mono ⟨List.prefix_refl _, x3⟩) ep fun σ2 E3 w => hs.run hF S3 (C2.mono x3) (by rw [slot_put hd w]; exact g2) E3 es ?_
          cases q with
          | nx ρ4 M4 => exact fun κ' G' σ' H' o' l S' C' g' E' => ⟨κ', G', ρ4, M4, T4, o', l3.trans l, S', C', g', E', by omega, h2⟩
          | ct ρ4 M4 => exact fun κ' G' σ' H' o' l S' C' g' E' => ⟨κ', G', ρ4, M4, T4, o', l3.trans l, S', C', g', E', by omega, h2⟩
          | bk ρ4 M4 =>
            cases h2
            exact fun κ' G' σ' H' o' l S' C' g' E' => k κ' G' σ' H' o' ((l1.trans l3).trans l) S' C' g' E'
          | rt v M4 =>
            cases h2
            exact fun κ' G' u H' o' l S' r => k κ' G' u H' o' ((l1.trans l3).trans l) S' r
    · rintro σ H ⟨κ2, G2, ρ2, M3, T3, o3, l2, S2, C2, g2, E2, _, h2⟩
      rw [List.drop_length] at h2
      unfold forK at h2
      obtain ⟨st, h2⟩ := grd_some h2
      cases h2
      exact k κ2 G2 σ H o3 (l1.trans l2) S2 C2 g2 E2
  · cases h⟩
/-- x = {}, and what follows -/
def tNew (b : Bool) : TE := if b then tDNewT else tDNewK
def newO (b : Bool) : HO := if b then .dT [] else .dK []
theorem tNew_run {σ : L2.St} {H : Hp} {Q : VK} (h : ∀ p, H p = none → Q (.ref p) (upd H p (newO b))) : tNew b σ H Q := by
  cases b <;> exact h
theorem newO_tab {G : Hp} : TabO K b G (newO b) [] := by
  cases b with
  | true => exact ⟨[], rfl, .nil⟩
  | false => exact ⟨[], rfl, .nil⟩
theorem ss_new {t : TS} {s : XS} (hs : SimXS K b d t s) : SimS K (tSeq (tAsg (tNew b) (gName d)) t) (dNew d s) := ⟨fun {F κ G σ ρ M H D o} S E h k => by
  unfold dNew at h
  obtain ⟨hl, h⟩ := grd_some h
  refine tNew_run fun p hp => ?_
  have f0 := S.fresh hp
  have E1 : Se K κ G (σ.set d (some (.ref p))) (ρ.set d none) := by
    refine ⟨by simp [E.len], fun j x e => ?_⟩
    by_cases hj : d = j
    · subst hj
      rw [List.getElem?_set_self hl] at e
      cases e
    · rw [List.getElem?_set_ne hj] at e
      obtain ⟨v, h1, h2⟩ := E.at_ j x e
      exact ⟨v, by rw [List.getElem?_set_ne hj]; exact h1, h2⟩
  have g1 : (σ.set d (some (V.ref p)))[d]? = some (some (.ref p)) := List.getElem?_set_self (by rw [E.len]; exact hl)
  cases e : s (ρ.set d none) M [] with
  | none => rw [e] at h; cases h
  | some r =>
    rw [e] at h
    refine hs.run f0.2.1 (S.frameO hp (newO b)) newO_tab g1 E1 e ?_
    obtain ⟨q, T⟩ := r
    cases q with
    | nx ρ1 M1 =>
      cases h
      exact fun κ' G' σ' H' o' l S' C' g' E' => k κ' G' σ' H' l (S'.unframe f0.2.1).1 (E'.unset d)
    | bk ρ1 M1 =>
      cases h
      exact fun κ' G' σ' H' o' l S' C' g' E' => k κ' G' σ' H' l (S'.unframe f0.2.1).1 (E'.unset d)
    | ct ρ1 M1 =>
      cases h
      exact fun κ' G' σ' H' o' l S' C' g' E' => k κ' G' σ' H' l (S'.unframe f0.2.1).1 (E'.unset d)
    | rt v M1 =>
      cases h
      exact fun κ' G' u H' o' l S' r => k κ' G' u H' l (S'.unframe f0.2.1).1 r⟩
end
end Rw
end PRwDict2
section PRwDict3
set_option Elab.async false
set_option linter.all false
set_option maxRecDepth 100000
set_option maxHeartbeats 2000000
/-! RwDict3: one rule a construct beside a dict. -/
namespace Rw
open PySem L2 PySem.Spec PyProof.Rows
structure PX (X : Cx) (b : Bool) (d : Nat) (e : Expr) (r : Tb → DE) : Prop where
  ex : ∃ t, PE X e t ∧ SimXE X.K b d t r
structure PXT (X : Cx) (b : Bool) (d : Nat) (e : Expr) (r : Tb → DT) : Prop where
  ex : ∃ t, PT X e t ∧ SimXT X.K b d t r
structure PXW (X : Cx) (b : Bool) (d : Nat) (e : Expr) (r : Tb → DT) : Prop where
  ex : ∃ t, PW X e t ∧ SimXT X.K b d t r
structure PXTs (X : Cx) (b : Bool) (d : Nat) (es : List Expr) (r : Tb → DT) : Prop where
  ex : ∃ t, PTs X es t ∧ SimXT X.K b d t r
structure PXA (X : Cx) (b : Bool) (d : Nat) (es : List Expr) (r : Tb → DA) (n : Nat) : Prop where
  ex : ∃ t, PA X es t ∧ SimXA X.K b d t r
  len : ∀ T ρ M vs M', r T ρ M = some (vs, M') → vs.length = n
structure PXS (X : Cx) (b : Bool) (d : Nat) (s : Stmt) (r : XS) : Prop where
  ex : ∃ t, PS X s t ∧ SimXS X.K b d t r
structure PXB (X : Cx) (b : Bool) (d : Nat) (s : List Stmt) (r : XS) : Prop where
  ex : ∃ t, PSs X s t ∧ SimXS X.K b d t r
section
variable {X : Cx} {b : Bool} {d : Nat} {a c e : Expr} {pos : Pos} {da : DE} {ra rc re : Tb → DE} {ta : DT} {qa qc : Tb → DT} {rest : List Expr}
/-! ### expressions -/
theorem y_E (h : PD X e da) : PX X b d e fun _ => da := by
  obtain ⟨t, h1, h2⟩ := h.ex
  exact ⟨_, h1, xe_E h2⟩
theorem y_op {op : Operator} {r : R2} {f : O2} (ho : OpR X (binaryOp op) r) (hs : SimR2 X.K r f) (ha : PX X b d a ra) (hb : PX X b d c rc) : PX X b d (.BinOp a op c pos) fun T => e2 f (ra T) (rc T) := by
  obtain ⟨t, h1, h2⟩ := ha.ex
  obtain ⟨u, h3, h4⟩ := hb.ex
  exact ⟨_, pe_op ho h1 h3, xe_op hs h2 h4⟩
theorem y_add (q : Bool) (ha : PX X b d a ra) (hb : PX X b d c rc) : PX X b d (.BinOp a .Add c pos) fun T => e2 (oAdd q) (ra T) (rc T) := y_op op_add3 (sr_add q) ha hb
theorem y_sub (ha : PX X b d a ra) (hb : PX X b d c rc) : PX X b d (.BinOp a .Sub c pos) fun T => e2 oSub (ra T) (rc T) := y_op op_sub sr_sub ha hb
theorem y_cmp {op : CmpOp} {f : O2} (hc : CmpR X op f) (ha : PX X b d a ra) (hb : PX X b d c rc) (hm : behindInMarks op c = false := by first | exact nomark _ (by decide) (by decide) | rfl) : PX X b d (.Compare a [op] [c] pos) fun T => e2 f (ra T) (rc T) := by
  obtain ⟨r, h0, h9⟩ := hc.ex
  obtain ⟨t, h1, h2⟩ := ha.ex
  obtain ⟨u, h3, h4⟩ := hb.ex
  exact ⟨_, pe_cmpR h0 h1 h3 hm, xe_op h9 h2 h4⟩
theorem yt_cmp {op : CmpOp} {f : O2} (hc : CmpR X op f) (ha : PX X b d a ra) (hb : PX X b d c rc) (hm : behindInMarks op c = false := by first | exact nomark _ (by decide) (by decide) | rfl) : PXT X b d (.Compare a [op] [c] pos) fun T => tVal (e2 f (ra T) (rc T)) := by
  obtain ⟨r, h0, h9⟩ := hc.ex
  obtain ⟨t, h1, h2⟩ := ha.ex
  obtain ⟨u, h3, h4⟩ := hb.ex
  exact ⟨_, pt_cmpR h0 h1 h3 hm, xt_Test (xe_op h9 h2 h4)⟩
theorem y_ix (ha : PX X b d a ra) (hb : PX X b d c rc) (hs : PlainIx c := by exact fun _ _ => rfl) : PX X b d (.Subscript a c pos) fun T => e2 oIx (ra T) (rc T) := by
  obtain ⟨t, h1, h2⟩ := ha.ex
  obtain ⟨u, h3, h4⟩ := hb.ex
  exact ⟨_, pe_ix ix_seq h1 h3 hs, xe_op sr_ix h2 h4⟩
/-- the dict's name -/
theorem y_name (i : Nat) {x : Str} (hN : X.N[i]? = some x := by rfl) (hv : Vis X.env.scope x := by first | exact Or.inl rfl | exact Or.inr (Or.inl rfl) | exact Or.inr (Or.inr rfl)) (hd : (x == ("__debug__" : Str)) = false := by decide)
    (hcd : (x == ("__classdict__" : Str)) = false := by decide) : PE X (.Name x pos) (tVar i) := pe_var hN hv hd hcd
theorem y_get {k : Nat} (hr : Room k X.A) (hn : PE X a (tVar d)) (hk : PD X c da) (hs : NoSl c := by exact fun _ _ => rfl) : PX X b d (.Subscript a c pos) (eGet b da) := by
  obtain ⟨t, h1, h2⟩ := hk.ex
  exact ⟨_, pe_kget (by have := hr.units; omega) hn h1 hs, xe_get h2⟩
theorem y_in {k : Nat} (hr : Room k X.A) (hn : PE X a (tVar d)) (hk : PD X c da) (hm : behindInMarks .In a = false := by rfl) : PX X b d (.Compare c [.In] [a] pos) (eHas b false da) := by
  obtain ⟨t, h1, h2⟩ := hk.ex
  exact ⟨_, pe_cmp (pc_kin (by have := hr.units; omega) h1 hn) hm, xe_has h2⟩
theorem yt_in {k : Nat} (hr : Room k X.A) (hn : PE X a (tVar d)) (hk : PD X c da) (hm : behindInMarks .In a = false := by rfl) : PXT X b d (.Compare c [.In] [a] pos) fun T => tVal (eHas b false da T) := by
  obtain ⟨t, h1, h2⟩ := hk.ex
  exact ⟨_, pt_cmp (pc_kin (by have := hr.units; omega) h1 hn) hm, xt_B (xe_has h2)⟩
theorem yt_notin {k : Nat} (hr : Room k X.A) (hn : PE X a (tVar d)) (hk : PD X c da) (hm : behindInMarks .NotIn a = false := by rfl) : PXT X b d (.Compare c [.NotIn] [a] pos) fun T => tVal (eHas b true da T) := by
  obtain ⟨t, h1, h2⟩ := hk.ex
  exact ⟨_, pt_cmp (pc_knotin (by have := hr.units; omega) h1 hn) hm, xt_B (xe_has h2)⟩
variable {es : List Expr} {das : DA} {ras : Tb → DA} {n : Nat}
theorem y_getN {k x1 j : Nat} {apos p1 p2 : Pos} (hr : Room k X.A) (hn : PE X a (tVar d)) (hk : PDA X es das n) (hbase : attributeBase a "get" X.env (eval a X.env) = eval a X.env := by rfl)
    (hfew : ((backTo pos (starEach [.Tuple es x1 p1, .Constant .none j p2] X.env)).all (fun x => !x.1) && (backToKw pos (keywordEach [] X.env)).all (fun x => x.1.isSome)
      && decide (([.Tuple es x1 p1, .Constant .none j p2] : List Expr).length + ([] : List Keyword).length + (if ([] : List Keyword).isEmpty then 0 else 1) < 30)) = true := by rfl)
    (hline : (apos.endLine == pos.line) = true := by rfl) (htr : backTo pos (starEach [.Tuple es x1 p1, .Constant .none j p2] X.env) = [(false, eval (.Tuple es x1 p1) X.env), (false, eval (.Constant .none j p2) X.env)] := by rfl) :
    PX X true d (.Call (.Attribute a "get" apos) [.Tuple es x1 p1, .Constant .none j p2] [] pos) (eGetN das) := by
  obtain ⟨t, h1, h2⟩ := hk.ex
  exact ⟨_, pe_dget2 (by have := hr.units; omega) hn (pe_tup h1) pe_non ⟨hbase, hfew, hline, htr⟩, xe_getN h2⟩
theorem ya_nil : PXA X b d [] (fun _ => aNil) 0 := ⟨⟨_, pa_nil, xa_nil⟩, fun _ => al_nil⟩
theorem ya_cons (ha : PX X b d e re) (hr : PXA X b d es ras n) (hs : starEach (e :: es) X.env = (false, eval e X.env) :: starEach es X.env := by rfl) : PXA X b d (e :: es) (fun T => aCons (re T) (ras T)) (n + 1) := by
  obtain ⟨t, h1, h2⟩ := ha.ex
  obtain ⟨u, h3, h4⟩ := hr.ex
  exact ⟨⟨_, pa_cons h1 h3 hs, xa_cons h2 h4⟩, fun T => al_cons (hr.len T)⟩
theorem y_tup {x1} (h : PXA X b d es ras n) : PX X b d (.Tuple es x1 pos) fun T => eTup (ras T) := by
  obtain ⟨t, h1, h2⟩ := h.ex
  exact ⟨_, pe_tup h1, xe_tup h2⟩
theorem y_def {x : Str} {k : Nat} {df : DF} {p : Pos} (Hs : Has X.prog X.w X.K X.mg X.base x k n df) (hr : Room k X.A) (ha : PXA X b d (e :: es) ras n) (hg : Gl X x := by rfl) (hdb : (x == ("__debug__" : Str)) = false := by decide) (he : starEach (e :: es) X.env = (false, eval e X.env) :: starEach es X.env := by rfl) (hpl : (backTo pos (starEach es X.env)).any (·.1) = false := by rfl) :
    PX X b d (.Call (.Name x p) (e :: es) [] pos) fun T => eCall df (ras T) := by
  obtain ⟨f, fd, ps, F, hm, hk, hb⟩ := Hs.ex
  obtain ⟨t, h1, h2⟩ := ha.ex
  exact ⟨_, pe_call F hr hg hm hk hb .nil pass0 h1 hdb he hpl, xe_call h2 ha.len⟩
/-! ### tests -/
theorem yt_T (h : PDT X e ta) : PXT X b d e fun _ => ta := by
  obtain ⟨t, h1, h2⟩ := h.ex
  exact ⟨_, h1, xt_T h2⟩
theorem yt_val (he : PX X b d e re) (h : ∀ whole, isTrue e X.env whole = (do let v ← whole; standAt e.pos; holding [v] (truthy v)) := by intro _; rfl) : PXT X b d e fun T => tVal (re T) := by
  obtain ⟨t, h1, h2⟩ := he.ex
  exact ⟨_, pt_val h1 h, xt_B h2⟩
theorem yt_not (ha : PXT X b d a qa) : PXT X b d (.UnaryOp .Not a pos) fun T => Rw.tNot (qa T) := by
  obtain ⟨t, h1, h2⟩ := ha.ex
  exact ⟨_, pt_not h1, xt_not h2⟩
theorem yw_and1 (ha : PXT X b d a qa) : PXW X b d (.BoolOp .And [a] pos) qa := by
  obtain ⟨t, h1, h2⟩ := ha.ex
  exact ⟨_, pw_and1 h1, h2⟩
theorem yw_or1 (ha : PXT X b d a qa) : PXW X b d (.BoolOp .Or [a] pos) qa := by
  obtain ⟨t, h1, h2⟩ := ha.ex
  exact ⟨_, pw_or1 h1, h2⟩
theorem yw_and (ha : PXT X b d a qa) (hb : PXW X b d (.BoolOp .And (c :: rest) pos) qc) : PXW X b d (.BoolOp .And (a :: c :: rest) pos) fun T => Rw.tAnd (qa T) (qc T) := by
  obtain ⟨t, h1, h2⟩ := ha.ex
  obtain ⟨u, h3, h4⟩ := hb.ex
  exact ⟨_, pw_and h1 h3, xt_and h2 h4⟩
theorem yw_or (ha : PXT X b d a qa) (hb : PXW X b d (.BoolOp .Or (c :: rest) pos) qc) : PXW X b d (.BoolOp .Or (a :: c :: rest) pos) fun T => Rw.tOr (qa T) (qc T) := by
  obtain ⟨t, h1, h2⟩ := ha.ex
  obtain ⟨u, h3, h4⟩ := hb.ex
  exact ⟨_, pw_or h1 h3, xt_or h2 h4⟩
theorem yt_w (ha : PXW X b d a qa) : PXT X b d a qa := by
  obtain ⟨t, h1, h2⟩ := ha.ex
  exact ⟨_, h1.pt, h2⟩
theorem yc_nil : PXTs X b d [] fun _ => Rw.tYes := ⟨_, pts_nil, xt_T sim_yes⟩
theorem yc_one (h : PXT X b d e qa) : PXTs X b d [e] qa := by
  obtain ⟨t, h1, h2⟩ := h.ex
  exact ⟨_, pts_one h1, h2⟩
end
/-! ### comprehensions -/
def xOf (K : PySem.W.Frag) (b : Bool) (d : Nat) (r : Tb → DE) : TE := fun σ H Q => ∃ F κ G ρ M v M' T, Tc K b d T F G σ ∧ Sm K F κ G M H ∧ Se K κ G σ ρ ∧ r T ρ M = some (v, M') ∧ PV K F κ G Q v M'
def xOfT (K : PySem.W.Frag) (b : Bool) (d : Nat) (r : Tb → DT) : TT := fun σ H Q => ∃ F κ G ρ M c M' T, Tc K b d T F G σ ∧ Sm K F κ G M H ∧ Se K κ G σ ρ ∧ r T ρ M = some (c, M') ∧ ∀ κ' G' H', Le κ G κ' G' → Sm K F κ' G' M' H' → Q c H'
theorem simX {K : PySem.W.Frag} {b : Bool} {d : Nat} {r : Tb → DE} : SimXE K b d (xOf K b d r) r := ⟨fun {F κ G σ ρ M H Q v M' T} C S E h k => ⟨F, κ, G, ρ, M, v, M', T, C, S, E, h, k⟩⟩
theorem simXT {K : PySem.W.Frag} {b : Bool} {d : Nat} {r : Tb → DT} : SimXT K b d (xOfT K b d r) r := ⟨fun {F κ G σ ρ M H c M' T Q} C S E h k => ⟨F, κ, G, ρ, M, c, M', T, C, S, E, h, k⟩⟩
theorem PX.can {X : Cx} {b : Bool} {d : Nat} {e : Expr} {r : Tb → DE} (h : PX X b d e r) : PE X e (xOf X.K b d r) := by
  obtain ⟨t, h1, h2⟩ := h.ex
  exact ⟨fun pins s σ H Q I ⟨F, κ, G, ρ, M, v, M', T, C, S, E, hd, k⟩ => h1.run pins s σ H Q I (h2.run C S E hd k)⟩
theorem PXTs.can {X : Cx} {b : Bool} {d : Nat} {es : List Expr} {r : Tb → DT} (h : PXTs X b d es r) : PTs X es (xOfT X.K b d r) := by
  obtain ⟨t, h1, h2⟩ := h.ex
  exact ⟨fun pins s σ H Q I ⟨F, κ, G, ρ, M, v, M', T, C, S, E, hd, k⟩ => h1.run pins s σ H Q I (h2.run C S E hd k)⟩
section
variable {X : Cx} {b : Bool} {d : Nat} {tg e : Expr} {pos : Pos} {re : Tb → DE}
theorem y_lc (c : Bool) {elt iter : Expr} {ifs : List Expr} {scope : Scope} (own : List (Str × Nat)) {it : DI} {tgt : Tgt} {tt : Tb → DT} {el : Tb → DE} (hN : X.N.Nodup) (hi : PDI X tg iter it) (ok : blkC X.N X.env.scope scope own = true)
    (hg : ∀ (s : Shared) (H : Hp) (C : Addr) (cl : List (Str × Addr)) (fp : List Addr), PDG (X.blk s H scope (compEnvC scope cl C X.env) fp) tg tgt) (ht : ∀ (s : Shared) (H : Hp) (C : Addr) (cl : List (Str × Addr)) (fp : List Addr), PXTs (X.blk s H scope (compEnvC scope cl C X.env) fp) b d ifs tt)
    (he : ∀ (s : Shared) (H : Hp) (C : Addr) (cl : List (Str × Addr)) (fp : List Addr), PX (X.blk s H scope (compEnvC scope cl C X.env) fp) b d elt el) (hown : ∀ i ∈ tgt.slots, i ∈ own.map (·.2) := by decide) (hd : d ∉ own.map (·.2) := by decide) (hc : X.calm = true := by rfl) (hs : ∀ x, foldedSetIterable iter X.env x = pure x := by intro _; rfl) :
    PX X b d (.ListComp elt [⟨tg, iter, ifs, 0⟩] scope pos) fun T => eComp c it tgt (tt T) (el T) (own.map (·.2)) := by
  obtain ⟨t, h1, h2⟩ := hi.ex
  exact ⟨_, pe_lc hc hN h1 (blkOk_by ok) (fun s H C cl fp => (hg s H C cl fp).ex) (fun s H C cl fp => (ht s H C cl fp).can) (fun s H C cl fp => (he s H C cl fp).can) hs, xe_lc h2 simXT simX hown hd⟩
/-! ### statements -/
theorem z_setLc (i : Nat) (c : Bool) {y : Str} {py spos : Pos} {elt iter : Expr} {ifs : List Expr} {scope : Scope} (own : List (Str × Nat)) {it : DI} {tgt : Tgt} {tt : Tb → DT} {el : Tb → DE} (hN : X.N.Nodup) (hi : PDI X tg iter it) (ok : blkC X.N X.env.scope scope own = true)
    (hg : ∀ (s : Shared) (H : Hp) (C : Addr) (cl : List (Str × Addr)) (fp : List Addr), PDG (X.blk s H scope (compEnvC scope cl C X.env) fp) tg tgt) (ht : ∀ (s : Shared) (H : Hp) (C : Addr) (cl : List (Str × Addr)) (fp : List Addr), PXTs (X.blk s H scope (compEnvC scope cl C X.env) fp) b d ifs tt)
    (he : ∀ (s : Shared) (H : Hp) (C : Addr) (cl : List (Str × Addr)) (fp : List Addr), PX (X.blk s H scope (compEnvC scope cl C X.env) fp) b d elt el)
    (hsw : swapsWith (.ListComp elt [⟨tg, iter, ifs, 0⟩] scope pos) (some (.Name y py)) spos.line X.env = pure true) (hy : X.N[i]? = some y := by rfl) (hyl : X.env.scope.names.lookup y = some .local := by rfl) (hown : ∀ i ∈ tgt.slots, i ∈ own.map (·.2) := by decide) (hd : d ∉ own.map (·.2) := by decide) (hdi : d ≠ i := by decide) (hc : X.calm = true := by rfl) (hs : ∀ x, foldedSetIterable iter X.env x = pure x := by intro _; rfl) :
    PXS X b d (.Assign [.Name y py] (.ListComp elt [⟨tg, iter, ifs, 0⟩] scope pos) spos) (kAsg (.name i) fun T => eComp c it tgt (tt T) (el T) (own.map (·.2))) := by
  obtain ⟨t1, a1, a2⟩ := hi.ex
  have h := sk_asg (tg := .name i) (xe_lc (c := c) (tg := tgt) a2 simXT simX hown hd (K := X.K) (b := b) (t := tt) (el := el)) (by simpa [Tgt.slots] using hdi)
  simp only [Tgt.tg] at h
  exact ⟨_, ps_setLc hc hN hy hyl hsw a1 (blkOk_by ok) (fun s H C cl fp => (hg s H C cl fp).ex) (fun s H C cl fp => (ht s H C cl fp).can) (fun s H C cl fp => (he s H C cl fp).can) hs, h⟩
theorem z_set (i : Nat) {y : Str} {pos' : Pos} (hN : X.N.Nodup) (he : PX X b d e re) (hi : X.N[i]? = some y := by rfl) (hx : Loc X.env.scope y := by first | exact Or.inl rfl | exact Or.inr rfl) (hs : swapsWith e (some (.Name y pos')) pos.line X.env = pure false := by rfl) (hf : X.fn y = true ∨ X.env.scope.names.lookup y = some .local := by first | exact .inl rfl | exact .inr rfl) (hdi : d ≠ i := by decide) :
    PXS X b d (.Assign [.Name y pos'] e pos) (kAsg (.name i) re) := by
  obtain ⟨t1, a1, a2⟩ := he.ex
  have h := sk_asg (tg := .name i) a2 (by simpa [Tgt.slots] using hdi)
  simp only [Tgt.tg] at h
  exact ⟨_, ps_set hN hi hx a1 hs hf, h⟩
theorem z_asg {tgt : Tgt} (he : PX X b d e re) (hg : PDG X tg tgt) (hs : swapsWithSole [tg] e pos.line X.env = pure false := by rfl) (hw : swappedStores [tg] e X.env = pure none := by rfl)
    (h1 : (assignEach [tg] X.env).map (·.2) = [assign tg X.env] := by rfl) (hd : d ∉ tgt.slots := by decide) : PXS X b d (.Assign [tg] e pos) (kAsg tgt re) := by
  obtain ⟨t1, a1, a2⟩ := he.ex
  exact ⟨_, ps_asg a1 hg.ex hs hw h1, sk_asg a2 hd⟩
theorem z_expr (he : PX X b d e re) (hs : swapsWith e none pos.line X.env = pure false := by rfl) : PXS X b d (.Expr e pos) (kExpr re) := by
  obtain ⟨t1, a1, a2⟩ := he.ex
  exact ⟨_, ps_expr a1 hs, sk_expr a2⟩
theorem z_ret (he : PX X b d e re) : PXS X b d (.Return (some e) pos) (kRet re) := by
  obtain ⟨t1, a1, a2⟩ := he.ex
  exact ⟨_, ps_ret a1, sk_ret a2⟩
theorem z_pass : PXS X b d (.Pass pos) kPass := ⟨_, ps_pass, sk_pass⟩
theorem z_put {k n x1 : Nat} {o : Expr} {es : List Expr} {das : DA} {pos' p1 : Pos} (hr : Room k X.A) (hn : PE X o (tVar d)) (hk : PDA X es das n) (he : PX X true d e re) (hs : swapsWith e (some (.Subscript o (.Tuple es x1 p1) pos')) pos.line X.env = pure false := by rfl) :
    PXS X true d (.Assign [.Subscript o (.Tuple es x1 p1) pos'] e pos) (kPut das re) := by
  obtain ⟨t1, a1, a2⟩ := hk.ex
  obtain ⟨t2, b1, b2⟩ := he.ex
  exact ⟨_, ps_dput (by have := hr.units; omega) hn (pe_tup a1) b1 hs, sk_put a2 b2⟩
theorem z_putI {k : Nat} {o i : Expr} {di : DE} {pos' : Pos} (hr : Room k X.A) (hn : PE X o (tVar d)) (hk : PD X i di) (he : PX X false d e re) (hs : swapsWith e (some (.Subscript o i pos')) pos.line X.env = pure false := by rfl) :
    PXS X false d (.Assign [.Subscript o i pos'] e pos) (kPutI di re) := by
  obtain ⟨t1, a1, a2⟩ := hk.ex
  obtain ⟨t2, b1, b2⟩ := he.ex
  exact ⟨_, ps_dput (by have := hr.units; omega) hn a1 b1 hs, sk_putI a2 b2⟩
variable {st : Stmt} {rest : List Stmt} {s t : XS}
theorem z_if {c : Expr} {x y : List Stmt} {tc : Tb → DT} (hc : PXT X b d c tc) (ha : PXB X b d x s) (hb : PXB X b d y t) : PXS X b d (.If c x y pos) (kIf tc s t) := by
  obtain ⟨t1, a1, a2⟩ := hc.ex
  obtain ⟨t2, b1, b2⟩ := ha.ex
  obtain ⟨t3, c1, c2⟩ := hb.ex
  exact ⟨_, ps_if a1 b1 c1, sk_if a2 b2 c2⟩
theorem z_for {iter : Expr} {body : List Stmt} {it : DI} {tgt : Tgt} (hi : PDI X tg iter it) (hg : PDG X tg tgt) (hb : PXB X b d body s) (hp : PassesOwn (model X.prog X.w) X.A X.env X.xe := by exact PassesOwn.never) (hc : X.calm = true := by rfl) (hs : ∀ x, foldedSetIterable iter X.env x = pure x := by intro _; rfl) (hd : d ∉ tgt.slots := by decide) : PXS X b d (.For tg iter body [] pos) (kFor it tgt s) := by
  obtain ⟨t1, a1, a2⟩ := hi.ex
  obtain ⟨t3, c1, c2⟩ := hb.ex
  exact ⟨_, ps_for hp hc a1 hg.ex c1 hs, sk_for a2 c2 hd⟩
theorem zb_nil : PXB X b d [] kPass := ⟨_, pss_nil, sk_pass⟩
theorem zb_cons (h1 : PXS X b d st s) (h2 : PXB X b d rest t) : PXB X b d (st :: rest) (kSeq s t) := by
  obtain ⟨t1, a1, a2⟩ := h1.ex
  obtain ⟨t2, b1, b2⟩ := h2.ex
  exact ⟨_, pss_cons a1 b1, sk_seq a2 b2⟩
theorem zb_one (h1 : PXS X b d st s) : PXB X b d [st] s := by
  obtain ⟨t1, a1, a2⟩ := h1.ex
  exact ⟨_, pss_one a1, a2⟩
theorem zb_wipe (vs : List Nat) (h : PXB X b d rest s) : PXB X b d rest (kWipe vs s) := by
  obtain ⟨t1, a1, a2⟩ := h.ex
  exact ⟨_, a1, sk_wipe vs a2⟩
theorem zb_pre (vs : List Nat) (h : PXB X b d rest s) : PXB X b d rest (kPre vs s) := by
  obtain ⟨t1, a1, a2⟩ := h.ex
  exact ⟨_, a1, sk_pre vs a2⟩
/-- x = {}, and what follows -/
theorem b_new (b : Bool) (i : Nat) {y : Str} {pos' p1 : Pos} (hN : X.N.Nodup) (h : PXB X b i rest s) (hi : X.N[i]? = some y := by rfl) (hx : Loc X.env.scope y := by first | exact Or.inl rfl | exact Or.inr rfl) (hs : swapsWith (.Dict [] [] p1) (some (.Name y pos')) pos.line X.env = pure false := by rfl) (hf : X.fn y = true ∨ X.env.scope.names.lookup y = some .local := by first | exact .inl rfl | exact .inr rfl) :
    PDB X (.Assign [.Name y pos'] (.Dict [] [] p1) pos :: rest) (dNew i s) := by
  obtain ⟨t1, a1, a2⟩ := h.ex
  have he : PE X (.Dict [] [] p1) (tNew b) := by
    cases b with
    | true => exact pe_dnewT
    | false => exact pe_dnewK
  exact ⟨_, pss_cons (ps_set hN hi hx he hs hf) a1, ss_new a2⟩
end
end Rw
end PRwDict3
section PRwDict4
set_option Elab.async false
set_option linter.all false
set_option maxRecDepth 100000
set_option maxHeartbeats 2000000
/-! RwDict4: a comprehension over the dict's own keys, append and len beside a dict. -/
namespace Rw
open PySem L2 PySem.Spec PyProof.Rows
open Evl (Ex)
section
variable {K : PySem.W.Frag} {b : Bool} {d : Nat}
theorem xe_bm {r : V → List V → Hp → VK → Prop} {f : Dv → List Dv → DSt → Option (Dv × DSt)} {to : TE} {o : DE} {ta : TA} {a : Tb → DA} (hr : SimRM K "list" r f) (hl : ∀ v as M z, f v as M = some z → ∃ n, v = .c n) (ho : SimE K to o) (ha : SimXA K b d ta a) : SimXE K b d (tBM K "list" r to ta) fun T => eM f o (a T) := ⟨fun {F κ G σ ρ M H Q z M' T} C S E h k => by
  unfold eM at h
  split at h
  · rename_i x M1 e
    split at h
    · rename_i xs M2 e2
      obtain ⟨n, rfl⟩ := hl _ _ _ _ h
      refine ho.run S E e fun κ1 G1 u H1 l1 S1 r1 => ⟨?_, ?_⟩
      · obtain ⟨b, rfl, hb⟩ := r1
        obtain ⟨q, hq⟩ := S1.th b (List.mem_of_getElem? hb)
        exact .inl ⟨rfl, q, .of hq⟩
      · exact ha.run (C.mono l1.ex) S1 (E.mono l1) e2 fun κ2 G2 us H2 l2 S2 r2 => hr S2 (r1.mono l2) r2 h (k.weak (l1.trans l2))
    · cases h
  · cases h⟩
theorem up_self {F : Fz} {p : Addr} {o : HO} (h : F.f p = some o) : F.up p o = F := by
  obtain ⟨f, z⟩ := F
  have : upd f p o = f := by
    funext a
    by_cases ha : a = p
    · subst ha
      rw [upd_same]
      exact h.symm
    · rw [upd_ne ha]
  show (⟨upd f p o, z⟩ : Fz) = ⟨f, z⟩
  rw [this]
theorem kv_at {G : Hp} {kvs : List (L2.Key × V)} {T : Tb} (h : Kv K kfI G kvs T) : ∀ {i : Nat} {k : L2.Key} {v : V}, kvs[i]? = some (k, v) → ∃ (j : Int) (dd : D), T[i]? = some ([j], dd) ∧ k = .inl j := by
  induction h with
  | nil => intro i k v e; simp at e
  | cons hd hv t ih =>
    intro i k v e
    cases i with
    | zero =>
      simp at e
      obtain ⟨j, rfl⟩ := hd
      exact ⟨j, _, rfl, e.1.symm⟩
    | succ i =>
      simp at e
      obtain ⟨j, dd, h1, h2⟩ := ih e
      exact ⟨j, dd, by simpa using h1, h2⟩
/-- [.. for k in d if ..] -/
theorem xe_lcK {c : Bool} {tg : Tgt} {tt : TT} {t : Tb → DT} {te : TE} {el : Tb → DE} {own : List Nat} (ht : SimXT K false d tt t) (he : SimXE K false d te el) (hown : ∀ i ∈ tg.slots, i ∈ own) (hd : d ∉ own) :
    SimXE K false d (fun σ H Q => (∃ p u, σ[d]? = some (some (.ref p)) ∧ H p = some u ∧ Mut (some u)) ∧ tLockE (tLc (iKeys (tVar d)) (tg.tg K) tt te own) σ H Q ∨ tLc (iKeys (tVar d)) (tg.tg K) tt te own σ H Q) fun T => eComp c (iK T) tg (t T) (el T) own := ⟨fun {F κ G σ ρ M H Q z Mz T} C S E h k => by
  unfold eComp iK at h
  simp only at h
  obtain ⟨hz, h⟩ := grd_some h
  split at h
  · rename_i ys M2 hl
    obtain ⟨p, o, h1, h2, u0, hu, kvs, rfl, kv⟩ := C.ex
    have lenT : T.length = kvs.length := kv.length.symm
    have body : ∀ (F : Fz) (H : Hp) (od : Obj) (Q : VK), Sm K F κ G M H → F.f p = some (.frz od (.dK kvs)) → PV K F κ G Q z Mz → tLc (iKeys (tVar d)) (tg.tg K) tt te own σ H Q := by
      intro F H od Q S hF k
      refine ⟨_, h1, p, od, rfl, .inl ⟨kvs, S.fx p _ hF, fun Dl hD => ?_⟩⟩
      have f0 := S.fresh hD
      have hpD : p ≠ Dl := ne_of_none hF f0.2.1
      have hup : ∀ acc, (F.up Dl (.lst acc)).f p = some (.frz od (.dK kvs)) := fun acc => by
        show upd F.f Dl _ p = _
        rw [upd_ne hpD]
        exact hF
      have C2 : Tc K false d T F G σ := ⟨p, _, h1, hF, .dK kvs, .inr ⟨od, rfl⟩, kvs, rfl, kv⟩
      have W : Walk (Itk p od kvs) (T.map keyD).length (fun H => H p = some (.frz od (.dK kvs))) (fun i H x H' => H' = H ∧ ∃ k v, kvs[i]? = some (k, v) ∧ x = kV k) := by
        rw [List.length_map, lenT]
        exact walk_keys
      refine xcomp_run ht he hd C2 hown E S W (fun acc κ2 G2 M2 H2 l2 S2 st => S2.fx p _ (hup acc)) (fun i acc κ2 G2 M2 H2 x H3 hi l2 S2 st y => ?_) hD hl hz h k
      obtain ⟨rfl, kk, v, e1, rfl⟩ := y
      obtain ⟨j, dd, e2, rfl⟩ := kv_at kv e1
      refine ⟨G2, .int j, Ex.refl _, S2, ?_, .int j⟩
      rw [List.getElem?_map, e2]
      rfl
    rcases hu with rfl | ⟨od, rfl⟩
    · refine .inl ⟨⟨p, _, h1, S.fx p _ h2, trivial⟩, p, .dK kvs, S.fx p _ h2, trivial, fun od => ?_⟩
      have S' : Sm K (F.up p (.dK kvs)) κ G M H := by rw [up_self h2]; exact S
      refine body (F.up p (.frz od (.dK kvs))) _ od _ (S'.turn (.frz od (.dK kvs))) upd_same ?_
      intro κ' G' u H' l' S2 r'
      refine ⟨S2.fx p _ upd_same, ?_⟩
      have S3 := S2.turn (.dK kvs)
      rw [up_self h2] at S3
      exact k κ' G' u _ l' S3 r'
    · exact .inr (body F H od Q S h2 k)
  · cases h⟩
end
section
variable {X : Cx} {b : Bool} {d : Nat} {a e tg : Expr} {pos p : Pos} {da : DE} {es : List Expr} {ras : Tb → DA} {n : Nat}
theorem pe_or {t u : TE} {q : L2.St → Hp → Prop} (h1 : PE X e t) (h2 : PE X e u) : PE X e fun σ H Q => q σ H ∧ t σ H Q ∨ u σ H Q := ⟨fun pins s σ H Q I h => by
  rcases h with ⟨_, h⟩ | h
  · exact h1.run pins s σ H Q I h
  · exact h2.run pins s σ H Q I h⟩
theorem y_lcK (c : Bool) {elt : Expr} {ifs : List Expr} {scope : Scope} (own : List (Str × Nat)) {tgt : Tgt} {tt : Tb → DT} {el : Tb → DE} (hN : X.N.Nodup) (hn : PE X a (tVar d)) (ok : blkC X.N X.env.scope scope own = true)
    (hg : ∀ (s : Shared) (H : Hp) (C : Addr) (cl : List (Str × Addr)) (fp : List Addr), PDG (X.blk s H scope (compEnvC scope cl C X.env) fp) tg tgt) (ht : ∀ (s : Shared) (H : Hp) (C : Addr) (cl : List (Str × Addr)) (fp : List Addr), PXTs (X.blk s H scope (compEnvC scope cl C X.env) fp) false d ifs tt)
    (he : ∀ (s : Shared) (H : Hp) (C : Addr) (cl : List (Str × Addr)) (fp : List Addr), PX (X.blk s H scope (compEnvC scope cl C X.env) fp) false d elt el) (hown : ∀ i ∈ tgt.slots, i ∈ own.map (·.2) := by decide) (hd : d ∉ own.map (·.2) := by decide) (hc : X.calm = true := by rfl) (hs : ∀ x, foldedSetIterable a X.env x = pure x := by intro _; rfl) :
    PX X false d (.ListComp elt [⟨tg, a, ifs, 0⟩] scope pos) fun T => eComp c (iK T) tgt (tt T) (el T) (own.map (·.2)) := by
  have pl : PE X (.ListComp elt [⟨tg, a, ifs, 0⟩] scope pos) (tLc (iKeys (tVar d)) (tgt.tg X.K) (xOfT X.K false d tt) (xOf X.K false d el) (own.map (·.2))) := pe_lc hc hN (pi_keys hn) (blkOk_by ok) (fun s H C cl fp => (hg s H C cl fp).ex) (fun s H C cl fp => (ht s H C cl fp).can) (fun s H C cl fp => (he s H C cl fp).can) hs
  exact ⟨_, pe_or (pe_lock pl) pl, xe_lcK simXT simX hown hd⟩
theorem y_len (hm : X.mg "len" = none) (ha : PXA X b d (e :: es) ras n) (hg : Gl X "len" := by rfl) (he : starEach (e :: es) X.env = (false, eval e X.env) :: starEach es X.env := by rfl) (hpl : (backTo pos (starEach es X.env)).any (·.1) = false := by rfl) : PX X b d (.Call (.Name "len" p) (e :: es) [] pos) fun T => eA oLen (ras T) := by
  obtain ⟨t, h1, h2⟩ := ha.ex
  exact ⟨_, pe_callB (x := "len") call_len hg hm (by decide +kernel) h1 (by decide) (by decide) he hpl, xe_cb sa_len h2⟩
theorem y_append {apos : Pos} (ho : PD X a da) (hb : PXA X b d (e :: es) ras n) (hbase : attributeBase a "append" X.env (eval a X.env) = eval a X.env := by rfl)
    (hfew : ((backTo pos (starEach (e :: es) X.env)).all (fun x => !x.1) && (backToKw pos (keywordEach [] X.env)).all (fun x => x.1.isSome)
      && decide ((e :: es).length + ([] : List Keyword).length + (if ([] : List Keyword).isEmpty then 0 else 1) < 30)) = true := by rfl)
    (hline : (apos.endLine == pos.line) = true := by rfl) (hs : starEach (e :: es) X.env = (false, eval e X.env) :: starEach es X.env := by rfl) (hplain : (backTo pos (starEach es X.env)).any (·.1) = false := by rfl) : PX X b d (.Call (.Attribute a "append" apos) (e :: es) [] pos) fun T => eM mAppend da (ras T) := by
  obtain ⟨t, h1, h2⟩ := ho.ex
  obtain ⟨u, h3, h4⟩ := hb.ex
  exact ⟨_, pe_bm PySem.F.plainAttrs_list PySem.F.slot_list_append PySem.F.type_list_append mt_append h1 h3 hbase hfew hline hs hplain, xe_bm sm_append lm_append h2 h4⟩
end
end Rw
end PRwDict4
section PRwLoan
set_option Elab.async false
set_option linter.all false
set_option maxRecDepth 100000
set_option maxHeartbeats 2000000
/-! RwLoan: a dict lent to a def. -/
namespace Rw
open PySem L2 PySem.Spec PyProof.Rows
open Evl (Ex)
section
variable {K : PySem.W.Frag}
/-! ### what is taken back -/
def del (G : Hp) (p : Addr) : Hp := fun a => if a = p then none else G a
theorem del_ne {G : Hp} {p a : Addr} (h : a ≠ p) : del G p a = G a := if_neg h
theorem del_eq {G : Hp} {p : Addr} : del G p p = none := if_pos rfl
/-- a dict's object -/
def Dct : HO → Prop
  | .dK _ => True
  | .dT _ => True
  | _ => False
theorem TabO.dct {b : Bool} {G : Hp} {o : HO} {T : Tb} (h : TabO K b G o T) : Dct o := by
  cases b with
  | true => obtain ⟨kvs, rfl, _⟩ := h; trivial
  | false => obtain ⟨kvs, rfl, _⟩ := h; trivial
theorem dct_ne {G : Hp} {p a : Addr} {od : Obj} {u w : HO} (hp : G p = some (.frz od u)) (hu : Dct u) (h : G a = some w) (hw : ∀ od' u', w = .frz od' u' → ¬ Dct u') : a ≠ p := by
  rintro rfl
  rw [hp] at h
  cases h
  exact hw _ _ rfl hu
theorem sqt_del {G : Hp} {p a : Addr} {od : Obj} {u : HO} {xs : List V} (hp : G p = some (.frz od u)) (hu : Dct u) (h : SqT K G a xs) : SqT K (del G p) a xs := by
  rcases h with (h | ⟨od', h⟩) | h
  · exact .inl (.inl (by rw [del_ne (dct_ne hp hu h fun _ _ e => nomatch e)]; exact h))
  · refine .inl (.inr ⟨od', ?_⟩)
    rw [del_ne (dct_ne hp hu h fun od1 u1 e => by cases e; exact fun q => q)]
    exact h
  · exact .inr h
theorem Rv.del {G : Hp} {p : Addr} {od : Obj} {u : HO} (hp : G p = some (.frz od u)) (hu : Dct u) {v : V} {d : D} (h : Rv K G v d) : Rv K (del G p) v d :=
  Rv.rec (motive_1 := fun v d _ => Rv K (Rw.del G p) v d) (motive_2 := fun vs ds _ => Rvs K (Rw.del G p) vs ds) .non .bl .int .str .ty
    (fun h c o => .exc (by rw [del_ne (dct_ne hp hu h fun _ _ e => nomatch e)]; exact h) c o) (fun h _ ih => .lst (by rw [del_ne (dct_ne hp hu h fun _ _ e => nomatch e)]; exact h) ih) (fun h _ ih => .tup (sqt_del hp hu h) ih) .nil (fun _ _ a b => .cons a b) h
theorem Rvs.del {G : Hp} {p : Addr} {od : Obj} {u : HO} (hp : G p = some (.frz od u)) (hu : Dct u) : ∀ {vs : List V} {ds : List D}, Rvs K G vs ds → Rvs K (Rw.del G p) vs ds
  | _, _, .nil => .nil
  | _, _, .cons h r => .cons (h.del hp hu) (Rvs.del hp hu r)
def Fz.down (F : Fz) (p : Addr) : Fz := ⟨del F.f p, F.z⟩
theorem down_some {F : Fz} {p a : Addr} {o : HO} (h : (F.down p).f a = some o) : a ≠ p ∧ F.f a = some o := by
  by_cases e : a = p
  · subst e
    have : (F.down a).f a = none := del_eq
    rw [this] at h
    cases h
  · exact ⟨e, by rw [show (F.down p).f a = F.f a from del_ne e] at h; exact h⟩
theorem Sm.lendD {F : Fz} {κ : List Addr} {G : Hp} {M : DSt} {H : Hp} {p : Addr} {o : HO} (S : Sm K F κ G M H) (hp : F.f p = some o) : Sm K (F.down p) κ (upd G p o) M H := by
  have gp : G p = none := S.dj p _ hp
  have zp : F.z p = none := S.fd p _ hp
  have np : ∀ a ∈ κ, a ≠ p := fun a h z => by
    have q := S.fk a h
    rw [z, hp] at q
    cases q
  refine ⟨fun a w e => ?_, fun a w e => S.fx a w (down_some e).2, S.zx, fun a w e => ?_, fun a w e => ?_, fun a w e => S.fd a w (down_some e).2, fun a h => ?_, S.zk, S.len, S.nd, S.th, fun n ds e => ?_⟩
  · by_cases ha : a = p
    · subst ha
      rw [upd_same] at e
      cases e
      exact S.fx a _ hp
    · rw [upd_ne ha] at e
      exact S.ex a w e
  · obtain ⟨h1, h2⟩ := down_some e
    rw [upd_ne h1]
    exact S.dj a w h2
  · rw [upd_ne (ne_of_none e zp)]
    exact S.zj a w e
  · show del F.f p a = none
    rw [del_ne (np a h)]
    exact S.fk a h
  · obtain ⟨a, xs, e1, e2, e4, e5⟩ := S.cel n ds e
    exact ⟨a, xs, e1, by rw [upd_ne (np a (List.mem_of_getElem? e1))]; exact e2, e4, e5.mono (Ex.new gp)⟩
theorem Sm.backD {F : Fz} {κ : List Addr} {G : Hp} {M : DSt} {H : Hp} {p : Addr} {od : Obj} {u : HO} (S : Sm K (F.down p) κ G M H) (hf : F.f p = some (.frz od u)) (hg : G p = some (.frz od u)) (hu : Dct u) (hz : F.z p = none) : Sm K F κ (del G p) M H := by
  have np : ∀ a ∈ κ, a ≠ p := fun a h z => by
    obtain ⟨xs, q⟩ := S.th a h
    rw [z, S.ex p _ hg] at q
    cases q
  refine ⟨fun a w e => ?_, fun a w e => ?_, S.zx, fun a w e => ?_, fun a w e => ?_, fun a w e => ?_, fun a h => ?_, S.zk, S.len, S.nd, S.th, fun n ds e => ?_⟩
  · by_cases ha : a = p
    · subst ha
      rw [del_eq] at e
      cases e
    · rw [del_ne ha] at e
      exact S.ex a w e
  · by_cases ha : a = p
    · subst ha
      rw [hf] at e
      cases e
      exact S.ex a _ hg
    · exact S.fx a w (by show del F.f p a = _; rw [del_ne ha]; exact e)
  · by_cases ha : a = p
    · subst ha
      exact del_eq
    · rw [del_ne ha]
      exact S.dj a w (by show del F.f p a = _; rw [del_ne ha]; exact e)
  · by_cases ha : a = p
    · subst ha
      exact del_eq
    · rw [del_ne ha]
      exact S.zj a w e
  · by_cases ha : a = p
    · subst ha
      exact hz
    · exact S.fd a w (by show del F.f p a = _; rw [del_ne ha]; exact e)
  · have q := S.fk a h
    rw [show (F.down p).f a = F.f a from del_ne (np a h)] at q
    exact q
  · obtain ⟨a, xs, e1, e2, e4, e5⟩ := S.cel n ds e
    exact ⟨a, xs, e1, by rw [del_ne (np a (List.mem_of_getElem? e1))]; exact e2, e4, e5.del hg hu⟩
/-! ### d[k] of a dict that was handed in -/
theorem keyAt_H {b : Bool} {G : Hp} {H : Hp} {p : Addr} {o : HO} {T : Tb} {x : D} {ks : List Int} {y : V} (ex : Ex G H) (hH : Rd H p o) (ht : TabO K b G o T) (r : Rv K G y x) (hk : keyI b x = some ks) :
    ∀ v, look T ks = some v → ∃ u, Rv K G u v ∧ KeyAt K H p y (some u) := by
  cases b with
  | true =>
    obtain ⟨kvs, rfl, kv⟩ := ht
    cases x with
    | tup xs =>
      simp only [keyI, if_true] at hk
      cases r with
      | tup hs rs =>
        rename_i q us
        rw [ints_kv rs hk] at hs
        have hs' := Evl.ex_t ex hs
        intro v e
        obtain ⟨u, h1, h2⟩ := (kv.val (f := kfT) (k := ks) trivial).1 v e
        exact ⟨u, h2, .inr ⟨kvs, ks.map Sum.inl, q, hH, rfl, hs', h1.symm⟩⟩
    | _ => simp [keyI] at hk
  | false =>
    obtain ⟨kvs, rfl, kv⟩ := ht
    cases x with
    | int i =>
      simp only [keyI, Bool.false_eq_true, if_false] at hk
      cases hk
      cases r
      intro v e
      obtain ⟨u, h1, h2⟩ := (kv.val (f := kfI) (k := [i]) ⟨i, rfl⟩).1 v e
      exact ⟨u, h2, .inl ⟨kvs, .inl i, hH, rfl, h1.symm⟩⟩
    | _ => simp [keyI] at hk
theorem sim_kget {ta tk : TE} {a k : DE} (ha : SimE K ta a) (hk : SimE K tk k) : SimE K (tKGet K ta tk) (eKGet a k) := ⟨fun {F κ G σ ρ M H Q z M'} S E h kk => by
  unfold eKGet at h
  split at h
  · rename_i b T M1 e
    split at h
    · rename_i x M2 e2
      split at h
      · rename_i ks ek
        split at h
        · rename_i v ev
          cases h
          refine ha.run S E e fun κ1 G1 u H1 l1 S1 r1 => hk.run S1 (E.mono l1) e2 fun κ2 G2 y H2 l2 S2 r2 => ?_
          obtain ⟨p, od, o, rfl, g, t⟩ := r1.mono l2
          obtain ⟨w, hw, q⟩ := keyAt_H S2.ex (.inr ⟨od, S2.ex _ _ g⟩) t r2 ek v ev
          exact ⟨p, w, rfl, q, (kk.weak (l1.trans l2)).here S2 hw⟩
        · cases h
      · cases h
    · cases h
  · cases h⟩
/-! ### a walk over the keys -/
theorem kv_atT {G : Hp} {kvs : List (List L2.Key × V)} {T : Tb} (h : Kv K kfT G kvs T) : ∀ {i : Nat} {k : List L2.Key} {v : V}, kvs[i]? = some (k, v) → ∃ (ks : List Int) (dd : D), T[i]? = some (ks, dd) ∧ k = ks.map Sum.inl := by
  induction h with
  | nil => intro i k v e; simp at e
  | cons hd hv t ih =>
    intro i k v e
    cases i with
    | zero =>
      simp at e
      exact ⟨_, _, rfl, e.1.symm⟩
    | succ i =>
      simp at e
      obtain ⟨j, dd, h1, h2⟩ := ih e
      exact ⟨j, dd, by simpa using h1, h2⟩
variable {b : Bool} {d : Nat}
theorem sk_forT {ta : TE} {src : DE} {ts : List Tgt} {tb : TS} {s : XS} (ha : SimE K ta src) (hs : SimXS K b d tb s) (hd : d ∉ (Tgt.tup ts).slots) : SimXS K b d (tFor (iKeys ta) ((Tgt.tup ts).tg K) tb) (kForT src ts s) := ⟨fun {p F κ G σ ρ M H Es T o r} hF S C g E h k => by
  unfold kForT at h
  split at h
  · rename_i T' M' e
    refine ha.run S E e fun κ1 G1 u H1 l1 S1 r1 => ?_
    obtain ⟨q, od, o', rfl, gq, kvs, rfl, kv⟩ := r1
    have lenT : kvs.length = (keysT T').length := by rw [keysT, List.length_map, kv.length]
    refine ⟨q, od, rfl, .inr ⟨kvs, S1.ex _ _ gq, ?_⟩⟩
    refine for_it walk_keysT (fun i σ H => ∃ κ2 G2 ρ2 M3 T3 o3, Le κ1 G1 κ2 G2 ∧ Sm K (F.up p o3) κ2 G2 M3 H ∧ TabO K b G2 o3 T3 ∧ σ[d]? = some (some (.ref p)) ∧ Se K κ2 G2 σ ρ2 ∧ i ≤ (keysT T').length ∧ forK (stand [] M') (stepK (.tup ts) s) ((keysT T').drop i) ρ2 M3 T3 = some r) ?_ ?_ ?_ ?_
    · exact ⟨κ1, G1, ρ, M', T, o, Le.refl _ _, S1, C.mono l1.ex, g, E.mono l1, Nat.zero_le _, h⟩
    · rintro i σ H hi ⟨κ2, G2, ρ2, M3, T3, o3, l2, S2, C2, g2, E2, _, h2⟩
      exact S2.ex _ _ (l2.ex _ _ gq)
    · rintro i x σ H H' hi ⟨κ2, G2, ρ2, M3, T3, o3, l2, S2, C2, g2, E2, _, h2⟩ hy
      obtain ⟨rfl, kk, vv, q2, e3, rfl, hq2⟩ := hy
      rw [lenT] at hi
      have hx : (keysT T').drop i = (keysT T')[i] :: (keysT T').drop (i + 1) := List.drop_eq_getElem_cons hi
      rw [hx] at h2
      unfold forK at h2
      obtain ⟨st, h2⟩ := grd_some h2
      obtain ⟨ks, dd, e4, rfl⟩ := kv_atT kv e3
      have ed2 : (keysT T')[i] = .tup (ks.map D.int) := by
        have : (keysT T')[i]? = some (.tup (ks.map D.int)) := by rw [keysT, List.getElem?_map, e4]; rfl
        rw [List.getElem?_eq_getElem hi] at this
        exact Option.some.inj this
      rw [ed2] at h2
      cases es : stepK (.tup ts) s (.tup (ks.map D.int)) ρ2 M3 T3 with
      | none => simp only [es] at h2; cases h2
      | some qq =>
        obtain ⟨qq, T4⟩ := qq
        simp only [es] at h2
        unfold stepK at es
        cases ep : (Tgt.tup ts).put (.d (.tup (ks.map D.int))) ρ2 with
        | none => simp only [ep] at es; cases es
        | some ρ1 =>
          simp only [ep] at es
          simp only [Tgt.put] at ep
          split at ep
          · rename_i hl
            have rk : Rvs K G2 ((ks.map Sum.inl).map kV) (ks.map D.int) := by
              have := Rvs.of_ints (K := K) (G := G2) ks
              rw [show (ks.map Sum.inl).map kV = ks.map V.int by simp [kV]]
              exact this
            refine .inl ⟨q2, _, rfl, Evl.st_of hq2, by rw [rk.length]; exact hl, puts_ok S2 ts rk E2 ep fun σ2 E3 w => hs.run hF S2 C2 (by rw [slot_put hd fun vs hv => w vs (by simpa only [Tgt.slots] using hv)]; exact g2) E3 es ?_⟩
            cases qq with
            | nx ρ4 M4 => exact fun κ' G' σ' H' o' l S' C' g' E' => ⟨κ', G', ρ4, M4, T4, o', l2.trans l, S', C', g', E', by omega, h2⟩
            | ct ρ4 M4 => exact fun κ' G' σ' H' o' l S' C' g' E' => ⟨κ', G', ρ4, M4, T4, o', l2.trans l, S', C', g', E', by omega, h2⟩
            | bk ρ4 M4 =>
              cases h2
              exact fun κ' G' σ' H' o' l S' C' g' E' => k κ' G' σ' H' o' ((l1.trans l2).trans l) S' C' g' E'
            | rt v M4 =>
              cases h2
              exact fun κ' G' u H' o' l S' r => k κ' G' u H' o' ((l1.trans l2).trans l) S' r
          · cases ep
    · rintro σ H ⟨κ2, G2, ρ2, M3, T3, o3, l2, S2, C2, g2, E2, _, h2⟩
      rw [lenT, List.drop_length] at h2
      unfold forK at h2
      obtain ⟨st, h2⟩ := grd_some h2
      cases h2
      exact k κ2 G2 σ H o3 (l1.trans l2) S2 C2 g2 E2
  · cases h⟩
/-! ### the loan -/
inductive RxsK (K : PySem.W.Frag) (b : Bool) (p : Addr) (T : Tb) (κ : List Addr) (G : Hp) : List V → List Dv → Prop
  | nil : RxsK K b p T κ G [] []
  | cons {u : V} {us : List V} {v : Dv} {vs : List Dv} : Rx K κ G u v ∨ (u = .ref p ∧ v = .k b T) → RxsK K b p T κ G us vs → RxsK K b p T κ G (u :: us) (v :: vs)
structure SimKA (K : PySem.W.Frag) (b : Bool) (d : Nat) (t : TA) (e : Tb → DA) : Prop where
  run : ∀ {F κ G σ ρ M H vs M' T p} {Q : List V → Hp → Prop}, σ[d]? = some (some (.ref p)) → Tc K b d T F G σ → Sm K F κ G M H → Se K κ G σ ρ → e T ρ M = some (vs, M') → (∀ κ' G' us H', Le κ G κ' G' → Sm K F κ' G' M' H' → RxsK K b p T κ' G' us vs → Q us H') → t σ H Q
theorem ska_nil : SimKA K b d tNil fun _ => aNil := ⟨fun {F κ G σ ρ M H vs M' T p Q} g C S E e k => by
  cases e
  exact k κ G [] H (Le.refl _ _) S .nil⟩
theorem ska_cons {ta : TE} {a : Tb → DE} {tr : TA} {as : Tb → DA} (ha : SimXE K b d ta a) (hr : SimKA K b d tr as) : SimKA K b d (tCons ta tr) fun T => aCons (a T) (as T) := ⟨fun {F κ G σ ρ M H vs M' T p Q} g C S E h k => by
  unfold aCons at h
  split at h
  · rename_i x M1 e
    split at h
    · rename_i xs M2 e2
      cases h
      exact ha.run C S E e fun κ1 G1 u H1 l1 S1 r1 => hr.run g (C.mono l1.ex) S1 (E.mono l1) e2 fun κ2 G2 us H2 l2 S2 r2 => k κ2 G2 (u :: us) H2 (l1.trans l2) S2 (.cons (.inl (r1.mono l2)) r2)
    · cases h
  · cases h⟩
theorem ska_self {tr : TA} {as : Tb → DA} (hr : SimKA K b d tr as) : SimKA K b d (tCons (tVar d) tr) fun T => aCons (eSelf b T) (as T) := ⟨fun {F κ G σ ρ M H vs M' T p Q} g C S E h k => by
  unfold aCons eSelf at h
  simp only at h
  split at h
  · rename_i xs M2 e2
    cases h
    exact ⟨_, g, hr.run g C S E e2 fun κ2 G2 us H2 l2 S2 r2 => k κ2 G2 (.ref p :: us) H2 l2 S2 (.cons (.inr ⟨rfl, rfl⟩) r2)⟩
  · cases h⟩
theorem RxsK.lent {p : Addr} {T : Tb} {κ : List Addr} {G : Hp} {od : Obj} {u : HO} (gp : G p = none) (t : TabO K b G u T) : ∀ {us : List V} {vs : List Dv}, RxsK K b p T κ G us vs → Rxs K κ (upd G p (.frz od u)) us vs
  | _, _, .nil => .nil
  | _, _, .cons (.inl r) q => .cons (r.mono (Le.newG gp)) (RxsK.lent gp t q)
  | _, _, .cons (.inr ⟨e1, e2⟩) q => by
    subst e1
    subst e2
    exact .cons ⟨p, od, u, rfl, upd_same, t.mono (Ex.new gp)⟩ (RxsK.lent gp t q)
theorem xe_loan {f : DF} {n : Nat} {t : TA} {as : Tb → DA} {E : XK} (ha : SimKA K b d t as) (hn : ∀ T ρ M vs M', as T ρ M = some (vs, M') → vs.length = n) :
    SimXE K b d (fun σ H Q => (∃ p u, σ[d]? = some (some (.ref p)) ∧ H p = some u ∧ Mut (some u)) ∧ tLockE (tCall (spD K f n) [] E t) σ H Q ∨ tCall (spD K f n) [] E t σ H Q) (eLoan f as) := ⟨fun {F κ G σ ρ M H Q z Mz T} C S Es h k => by
  unfold eLoan at h
  split at h
  · rename_i vs M1 e
    split at h
    · rename_i x M2 e2
      cases h
      obtain ⟨p, o, h1, h2, u0, hu, ht⟩ := C.ex
      have body : ∀ (F : Fz) (H : Hp) (od : Obj) (Q : VK), Sm K F κ G M H → F.f p = some (.frz od u0) → PV K F κ G Q (.d x) Mz → tCall (spD K f n) [] E t σ H Q := by
        intro F H od Q S hF k
        have C2 : Tc K b d T F G σ := ⟨p, _, h1, hF, u0, .inr ⟨od, rfl⟩, ht⟩
        refine ha.run h1 C2 S Es e fun κ1 G1 us H1 l1 S1 r1 => ?_
        rw [List.append_nil]
        have gp : G1 p = none := S1.dj p _ hF
        have zp : F.z p = none := S1.fd p _ hF
        refine ⟨F.down p, κ1, upd G1 p (.frz od u0), M1, vs, .d x, Mz, S1.lendD hF, r1.lent gp (ht.mono l1.ex), hn _ _ _ _ _ e, e2, ?_⟩
        intro κ2 G2 v H2 l2 S2 r2
        have g2 : G2 p = some (.frz od u0) := l2.ex _ _ upd_same
        refine k κ2 (del G2 p) v H2 ⟨l1.pre.trans l2.pre, fun a w q => ?_⟩ (S2.backD hF g2 ht.dct zp) (Rv.del g2 ht.dct r2)
        have q1 := l1.ex a w q
        have ne : a ≠ p := ne_of_none q1 gp
        rw [del_ne ne]
        exact l2.ex a w (by rw [upd_ne ne]; exact q1)
      rcases hu with rfl | ⟨od, rfl⟩
      · refine .inl ⟨⟨p, _, h1, S.fx p _ h2, ?_⟩, p, o, S.fx p _ h2, ?_, fun od => ?_⟩
        · cases b with
          | true => obtain ⟨kvs, rfl, _⟩ := ht; trivial
          | false => obtain ⟨kvs, rfl, _⟩ := ht; trivial
        · cases b with
          | true => obtain ⟨kvs, rfl, _⟩ := ht; trivial
          | false => obtain ⟨kvs, rfl, _⟩ := ht; trivial
        have S' : Sm K (F.up p o) κ G M H := by rw [up_self h2]; exact S
        refine body (F.up p (.frz od o)) _ od _ (S'.turn (.frz od o)) upd_same ?_
        intro κ' G' u H' l' S2 r'
        refine ⟨S2.fx p _ upd_same, ?_⟩
        have S3 := S2.turn o
        rw [up_self h2] at S3
        exact k κ' G' u _ l' S3 r'
      · exact .inr (body F H od Q S h2 k)
    · cases h
  · cases h⟩
end
/-! ### over syntax -/
structure PXAK (X : Cx) (b : Bool) (d : Nat) (es : List Expr) (r : Tb → DA) (n : Nat) : Prop where
  ex : ∃ t, PA X es t ∧ SimKA X.K b d t r
  len : ∀ T ρ M vs M', r T ρ M = some (vs, M') → vs.length = n
section
variable {X : Cx} {b : Bool} {d : Nat} {a c e tg : Expr} {pos : Pos} {da dc : DE} {re : Tb → DE} {es : List Expr} {ras : Tb → DA} {n : Nat}
theorem d_kget {k : Nat} (hr : Room k X.A) (ha : PD X a da) (hk : PD X c dc) (hs : NoSl c := by exact fun _ _ => rfl) : PD X (.Subscript a c pos) (eKGet da dc) := by
  obtain ⟨t, h1, h2⟩ := ha.ex
  obtain ⟨u, h3, h4⟩ := hk.ex
  exact ⟨_, pe_kget (by have := hr.units; omega) h1 h3 hs, sim_kget h2 h4⟩
theorem yk_nil : PXAK X b d [] (fun _ => aNil) 0 := ⟨⟨_, pa_nil, ska_nil⟩, fun _ => al_nil⟩
theorem yk_cons (ha : PX X b d e re) (hr : PXAK X b d es ras n) (hs : starEach (e :: es) X.env = (false, eval e X.env) :: starEach es X.env := by rfl) : PXAK X b d (e :: es) (fun T => aCons (re T) (ras T)) (n + 1) := by
  obtain ⟨t, h1, h2⟩ := ha.ex
  obtain ⟨u, h3, h4⟩ := hr.ex
  exact ⟨⟨_, pa_cons h1 h3 hs, ska_cons h2 h4⟩, fun T => al_cons (hr.len T)⟩
theorem yk_self (ha : PE X e (tVar d)) (hr : PXAK X b d es ras n) (hs : starEach (e :: es) X.env = (false, eval e X.env) :: starEach es X.env := by rfl) : PXAK X b d (e :: es) (fun T => aCons (eSelf b T) (ras T)) (n + 1) := by
  obtain ⟨u, h3, h4⟩ := hr.ex
  exact ⟨⟨_, pa_cons ha h3 hs, ska_self h4⟩, fun T => al_cons (hr.len T)⟩
theorem y_loan {x : Str} {k : Nat} {df : DF} {p : Pos} (Hs : Has X.prog X.w X.K X.mg X.base x k n df) (hr : Room k X.A) (ha : PXAK X b d (e :: es) ras n) (hg : Gl X x := by rfl) (hdb : (x == ("__debug__" : Str)) = false := by decide) (he : starEach (e :: es) X.env = (false, eval e X.env) :: starEach es X.env := by rfl) (hpl : (backTo pos (starEach es X.env)).any (·.1) = false := by rfl) :
    PX X b d (.Call (.Name x p) (e :: es) [] pos) (eLoan df ras) := by
  obtain ⟨f, fd, ps, F, hm, hk, hb⟩ := Hs.ex
  obtain ⟨t, h1, h2⟩ := ha.ex
  have pl := pe_call (p := p) (pos := pos) F hr hg hm hk hb .nil pass0 h1 hdb he hpl
  exact ⟨_, pe_or (pe_lock pl) pl, xe_loan h2 ha.len⟩
theorem z_forT {iter : Expr} {body : List Stmt} {ts : List Tgt} {s : XS} (hi : PD X iter da) (hg : PDG X tg (.tup ts)) (hb : PXB X b d body s) (hp : PassesOwn (model X.prog X.w) X.A X.env X.xe := by exact PassesOwn.never) (hc : X.calm = true := by rfl) (hs : ∀ x, foldedSetIterable iter X.env x = pure x := by intro _; rfl) (hd : d ∉ (Tgt.tup ts).slots := by decide) : PXS X b d (.For tg iter body [] pos) (kForT da ts s) := by
  obtain ⟨t1, a1, a2⟩ := hi.ex
  obtain ⟨t3, c1, c2⟩ := hb.ex
  exact ⟨_, ps_for hp hc (pi_keys a1) hg.ex c1 hs, sk_forT a2 c2 hd⟩
end
end Rw
end PRwLoan
section PWk70
set_option Elab.async false
set_option linter.all false
set_option maxRecDepth 100000
set_option maxHeartbeats 4000000
namespace Lk70
open PySem PySem.Spec PyProof.Rows L2 Rw
def topS (i : Nat) : Stmt := PySem.Challenge.pw_rowecho_k70_whole_lots.main.body.getD i (.Pass ⟨0, 0, 0, 0⟩)
abbrev s__law_at : Stmt := topS 35
abbrev s__law_purse : Stmt := topS 37
abbrev s__law_mixed : Stmt := topS 36
abbrev s__law_draw : Stmt := topS 38
abbrev s__law_kind : Stmt := topS 41
abbrev s__law_gap : Stmt := topS 42
abbrev s__law_length : Stmt := topS 43
abbrev s_leads_of : Stmt := topS 31
abbrev s_must_kind : Stmt := topS 14
abbrev s_must_gap : Stmt := topS 15
abbrev s_must_length : Stmt := topS 16
abbrev s_must_ask : Stmt := topS 27
abbrev s_stretch : Stmt := topS 19
abbrev s_count_of : Stmt := topS 17
abbrev s_stretches : Stmt := topS 26
abbrev s_uneven : Stmt := topS 20
abbrev s_divisor : Stmt := topS 7
abbrev s_made : Stmt := topS 8
abbrev s_shape_far : Stmt := topS 23
abbrev s_plain_far : Stmt := topS 21
abbrev s_moved_far : Stmt := topS 22
abbrev s_far_told : Stmt := topS 24
abbrev s_is_less : Stmt := topS 9
abbrev s_place_of : Stmt := topS 29
abbrev s_nexts : Stmt := topS 30
abbrev s_chains : Stmt := topS 32
abbrev s__law_number : Stmt := topS 39
abbrev s__law_row : Stmt := topS 40
abbrev s__law_one : Stmt := topS 44
abbrev s_lots : Stmt := topS 33
abbrev s__law_less : Stmt := topS 45
abbrev s_must_place : Stmt := topS 18
abbrev s_far : Stmt := topS 25
abbrev s__law_within : Stmt := topS 48
abbrev s__law_together : Stmt := topS 46
abbrev s__law_fine : Stmt := topS 47
abbrev s_law : Stmt := topS 49
theorem sc__law_at : FnScope ["_law_script", "_law_k"] ["_law_script", "_law_k"] (defScope s__law_at) := ⟨rfl, rfl, rfl, by decide +kernel, rfl, by decide +kernel, by decide +kernel⟩
theorem sc__law_purse : FnScope ["_law_script", "_law_at_here", "_law_cell"] ["_law_script", "_law_at_here"] (defScope s__law_purse) := ⟨rfl, rfl, rfl, by decide +kernel, rfl, by decide +kernel, by decide +kernel⟩
theorem sc__law_mixed : FnScope ["_law_cell", "_law_k", "_law_number_here"] ["_law_cell", "_law_k"] (defScope s__law_mixed) := ⟨rfl, rfl, rfl, by decide +kernel, rfl, by decide +kernel, by decide +kernel⟩
theorem sc__law_draw : FnScope ["_law_purse_here", "_law_out_of", "_law_drawn", "_law_number_here", "_law_k"] ["_law_purse_here", "_law_out_of"] (defScope s__law_draw) := ⟨rfl, rfl, rfl, by decide +kernel, rfl, by decide +kernel, by decide +kernel⟩
theorem sc__law_kind : FnScope ["_law_purse_here"] ["_law_purse_here"] (defScope s__law_kind) := ⟨rfl, rfl, rfl, by decide +kernel, rfl, by decide +kernel, by decide +kernel⟩
theorem sc__law_gap : FnScope ["_law_purse_here", "_law_row_here"] ["_law_purse_here", "_law_row_here"] (defScope s__law_gap) := ⟨rfl, rfl, rfl, by decide +kernel, rfl, by decide +kernel, by decide +kernel⟩
theorem sc__law_length : FnScope ["_law_purse_here", "_law_row_here"] ["_law_purse_here", "_law_row_here"] (defScope s__law_length) := ⟨rfl, rfl, rfl, by decide +kernel, rfl, by decide +kernel, by decide +kernel⟩
theorem sc_leads_of : FnScope ["rows", "found", "p", "row"] ["rows"] (defScope s_leads_of) := ⟨rfl, rfl, rfl, by decide +kernel, rfl, by decide +kernel, by decide +kernel⟩
theorem sc_must_kind : FnScope ["kind"] ["kind"] (defScope s_must_kind) := ⟨rfl, rfl, rfl, by decide +kernel, rfl, by decide +kernel, by decide +kernel⟩
theorem sc_must_gap : FnScope ["gap"] ["gap"] (defScope s_must_gap) := ⟨rfl, rfl, rfl, by decide +kernel, rfl, by decide +kernel, by decide +kernel⟩
theorem sc_must_length : FnScope ["length"] ["length"] (defScope s_must_length) := ⟨rfl, rfl, rfl, by decide +kernel, rfl, by decide +kernel, by decide +kernel⟩
theorem sc_must_ask : FnScope ["kind", "gap", "length"] ["kind", "gap", "length"] (defScope s_must_ask) := ⟨rfl, rfl, rfl, by decide +kernel, rfl, by decide +kernel, by decide +kernel⟩
theorem sc_stretch : FnScope ["row", "length", "place"] ["row", "length", "place"] (defScope s_stretch) := ⟨rfl, rfl, rfl, by decide +kernel, rfl, by decide +kernel, by decide +kernel⟩
theorem sc_count_of : FnScope ["row", "length"] ["row", "length"] (defScope s_count_of) := ⟨rfl, rfl, rfl, by decide +kernel, rfl, by decide +kernel, by decide +kernel⟩
theorem sc_stretches : FnScope ["row", "length", "place"] ["row", "length"] (defScope s_stretches) := ⟨rfl, rfl, rfl, by decide +kernel, rfl, by decide +kernel, by decide +kernel⟩
theorem sc_uneven : FnScope ["numbers", "total", "number"] ["numbers"] (defScope s_uneven) := ⟨rfl, rfl, rfl, by decide +kernel, rfl, by decide +kernel, by decide +kernel⟩
theorem sc_divisor : FnScope ["one", "other"] ["one", "other"] (defScope s_divisor) := ⟨rfl, rfl, rfl, by decide +kernel, rfl, by decide +kernel, by decide +kernel⟩
theorem sc_made : FnScope ["top", "bottom", "by"] ["top", "bottom"] (defScope s_made) := ⟨rfl, rfl, rfl, by decide +kernel, rfl, by decide +kernel, by decide +kernel⟩
theorem sc_shape_far : FnScope ["one", "other", "first", "second", "both", "a", "b"] ["one", "other"] (defScope s_shape_far) := ⟨rfl, rfl, rfl, by decide +kernel, rfl, by decide +kernel, by decide +kernel⟩
theorem sc_plain_far : FnScope ["one", "other", "a", "b"] ["one", "other"] (defScope s_plain_far) := ⟨rfl, rfl, rfl, by decide +kernel, rfl, by decide +kernel, by decide +kernel⟩
theorem sc_moved_far : FnScope ["one", "other", "a", "b"] ["one", "other"] (defScope s_moved_far) := ⟨rfl, rfl, rfl, by decide +kernel, rfl, by decide +kernel, by decide +kernel⟩
theorem sc_far_told : FnScope ["kind", "one", "other"] ["kind", "one", "other"] (defScope s_far_told) := ⟨rfl, rfl, rfl, by decide +kernel, rfl, by decide +kernel, by decide +kernel⟩
theorem sc_is_less : FnScope ["one", "other"] ["one", "other"] (defScope s_is_less) := ⟨rfl, rfl, rfl, by decide +kernel, rfl, by decide +kernel, by decide +kernel⟩
theorem sc_place_of : FnScope ["some", "kind", "here", "places", "best", "found", "place", "far"] ["some", "kind", "here", "places"] (defScope s_place_of) := ⟨rfl, rfl, rfl, by decide +kernel, rfl, by decide +kernel, by decide +kernel⟩
theorem sc_nexts : FnScope ["row", "kind", "gap", "length", "some", "many", "found", "p", "here", "ahead", "behind"] ["row", "kind", "gap", "length"] (defScope s_nexts) := ⟨rfl, rfl, rfl, by decide +kernel, rfl, by decide +kernel, by decide +kernel⟩
theorem sc_chains : FnScope ["row", "kind", "gap", "length", "leads", "found", "p", "there", "chain"] ["row", "kind", "gap", "length"] (defScope s_chains) := ⟨rfl, rfl, rfl, by decide +kernel, rfl, by decide +kernel, by decide +kernel⟩
theorem sc__law_number : FnScope ["_law_purse_here", "_law_way"] ["_law_purse_here", "_law_way"] (defScope s__law_number) := ⟨rfl, rfl, rfl, by decide +kernel, rfl, by decide +kernel, by decide +kernel⟩
theorem sc__law_row : FnScope ["_law_purse_here", "_law_most", "_law_many", "_law_way", "_law_found", "_law_k"] ["_law_purse_here", "_law_most"] (defScope s__law_row) := ⟨rfl, rfl, rfl, by decide +kernel, rfl, by decide +kernel, by decide +kernel⟩
theorem sc__law_one : FnScope ["_law_purse_here"] ["_law_purse_here"] (defScope s__law_one) := ⟨rfl, rfl, rfl, by decide +kernel, rfl, by decide +kernel, by decide +kernel⟩
theorem sc_lots : FnScope ["row", "kind", "gap", "length", "fraction", "some", "found", "left", "lot", "at", "p", "near", "q"] ["row", "kind", "gap", "length", "fraction"] (defScope s_lots) := ⟨rfl, rfl, rfl, by decide +kernel, rfl, by decide +kernel, by decide +kernel⟩
theorem sc__law_less : FnScope ["_law_one_here", "_law_other"] ["_law_one_here", "_law_other"] (defScope s__law_less) := ⟨rfl, rfl, rfl, by decide +kernel, rfl, by decide +kernel, by decide +kernel⟩
theorem sc_must_place : FnScope ["row", "length", "place"] ["row", "length", "place"] (defScope s_must_place) := ⟨rfl, rfl, rfl, by decide +kernel, rfl, by decide +kernel, by decide +kernel⟩
theorem sc_far : FnScope ["row", "kind", "length", "p", "q"] ["row", "kind", "length", "p", "q"] (defScope s_far) := ⟨rfl, rfl, rfl, by decide +kernel, rfl, by decide +kernel, by decide +kernel⟩
theorem sc__law_within : FnScope ["_law_finer", "_law_coarser", "_law_lot", "_law_other", "_law_p"] ["_law_finer", "_law_coarser"] (defScope s__law_within) := ⟨rfl, rfl, rfl, by decide +kernel, rfl, by decide +kernel, by decide +kernel⟩
theorem sc__law_together : FnScope ["_law_told", "_law_fars", "_law_gap_here", "_law_mark", "_law_lot", "_law_there", "_law_at_here", "_law_p", "_law_q"] ["_law_told", "_law_fars", "_law_gap_here", "_law_mark"] (defScope s__law_together) := ⟨rfl, rfl, rfl, by decide +kernel, rfl, by decide +kernel, by decide +kernel⟩
theorem sc__law_fine : FnScope ["_law_told", "_law_fars", "_law_many", "_law_gap_here", "_law_mark", "_law_within_here", "_law_every", "_law_k", "_law_lot", "_law_place", "_law_p", "_law_q"] ["_law_told", "_law_fars", "_law_many", "_law_gap_here", "_law_mark"] (defScope s__law_fine) := ⟨rfl, rfl, rfl, by decide +kernel, rfl, by decide +kernel, by decide +kernel⟩
theorem sc_law : FnScope ["_law_script", "_law_k", "_law_purse_here", "_law_row_here", "_law_kind_here", "_law_gap_here", "_law_length_here", "_law_many", "_law_fars", "_law_p", "_law_q", "_law_last", "_law_mark", "_law_turn", "_law_new", "_law_told", "_law_chain", "_law_most"] ["_law_script"] (defScope s_law) := ⟨rfl, rfl, rfl, by decide +kernel, rfl, by decide +kernel, by decide +kernel⟩
section
variable {P : Program} {w : World} {K : PySem.W.Frag} {mg : Str → Option Value} {base : Heap}
theorem ok__law_at {f : Addr} {fd : FuncData} (F : Fun K "_law_at" "_law_at" s__law_at f fd) (z_len : mg "len" = none) :
    FnOk P w K mg base CX0 1 f fd ["_law_script", "_law_k"] (spD K f__law_at 2) := by
  refine fn_ok F sc__law_at fun cdv A outer s H E hr => ?_
  have nd := sc__law_at.nd
  exact (b_cons (s_if (t_cmp k_lt (d_var 1) (d_len z_len (a_cons (d_var 0) a_nil))) (b_one (s_ret (d_ix (d_var 0) (d_var 1)))) b_nil)
    (b_one (s_ret d_int)))
theorem ok__law_purse {f : Addr} {fd : FuncData} (F : Fun K "_law_purse" "_law_purse" s__law_purse f fd) (h__law_at : Has P w K mg base "_law_at" 1 2 f__law_at) (z_max : mg "max" = none) :
    FnOk P w K mg base CX0 2 f fd ["_law_script", "_law_at_here"] (spD K f__law_purse 2) := by
  refine fn_ok F sc__law_purse fun cdv A outer s H E hr => ?_
  have nd := sc__law_purse.nd
  exact (b_cons (s_set 2 nd (d_def h__law_at hr (a_cons (d_var 0) (a_cons (d_var 1) a_nil))))
    (b_one (s_ret (d_lst true (a_cons (d_max2 z_max (a_cons (d_sub (d_var 2) (d_pow d_int d_int)) (a_cons d_int a_nil))) (a_cons (d_var 2) (a_cons (d_mulU false d_int (d_var 1)) a_nil)))))))
theorem ok__law_mixed {f : Addr} {fd : FuncData} (F : Fun K "_law_mixed" "_law_mixed" s__law_mixed f fd)  :
    FnOk P w K mg base CX0 1 f fd ["_law_cell", "_law_k"] (spD K f__law_mixed 2) := by
  refine fn_ok F sc__law_mixed fun cdv A outer s H E hr => ?_
  have nd := sc__law_mixed.nd
  exact (b_cons (s_set 2 nd (d_mod (d_add false (d_add false (d_mulU false (d_var 0) d_int) (d_mulU false (d_mulU false d_int (d_var 1)) (d_var 1))) (d_var 1)) d_int))
    (b_cons (s_set 2 nd (d_mod (d_mulU false (d_var 2) (d_var 2)) d_int))
    (b_one (s_ret (d_mod (d_mulU false (d_var 2) d_int) d_int)))))
theorem ok__law_draw {f : Addr} {fd : FuncData} (F : Fun K "_law_draw" "_law_draw" s__law_draw f fd) (h__law_mixed : Has P w K mg base "_law_mixed" 1 2 f__law_mixed) (z_int : mg "int" = none) (z_range : mg "range" = none) :
    FnOk P w K mg base CX0 2 f fd ["_law_purse_here", "_law_out_of"] (spD K f__law_draw 2) := by
  refine fn_ok F sc__law_draw fun cdv A outer s H E hr => ?_
  have nd := sc__law_draw.nd
  exact (b_cons (s_if (t_cmp k_gt (d_ix (d_var 0) d_int) d_int) (b_cons (s_set 2 nd (d_mod (d_ix (d_var 0) d_int) (d_var 1)))
      (b_cons (s_put (d_var 0) d_int (d_div (d_ix (d_var 0) d_int) (d_var 1)))
      (b_one (s_ret (d_var 2))))) b_nil)
    (b_cons (s_set 3 nd d_int)
    (b_cons (s_for (i_r1 z_range (a_cons (d_ix (d_lst false (a_cons d_int (a_cons d_int a_nil))) (d_intf z_int (a_cons (d_cmp k_gt (d_var 1) (d_pow d_int d_int)) a_nil))) a_nil)) (g_name 4 nd) (b_wipe [4] (b_cons (s_put (d_var 0) d_int (d_add false (d_ix (d_var 0) d_int) d_int))
      (b_one (s_set 3 nd (d_add false (d_mulU false (d_var 3) d_int) (d_def h__law_mixed hr (a_cons (d_ix (d_var 0) d_int) (a_cons (d_ix (d_var 0) d_int) a_nil)))))))))
    (b_one (s_ret (d_mod (d_var 3) (d_var 1)))))))
theorem ok__law_kind {f : Addr} {fd : FuncData} (F : Fun K "_law_kind" "_law_kind" s__law_kind f fd) (h__law_draw : Has P w K mg base "_law_draw" 2 2 f__law_draw) :
    FnOk P w K mg base CX0 3 f fd ["_law_purse_here"] (spD K f__law_kind 1) := by
  refine fn_ok F sc__law_kind fun cdv A outer s H E hr => ?_
  have nd := sc__law_kind.nd
  exact (b_one (s_ret (d_ix (d_lst false (a_cons d_str (a_cons d_str (a_cons d_str a_nil)))) (d_def h__law_draw hr (a_cons (d_var 0) (a_cons d_int a_nil))))))
theorem ok__law_gap {f : Addr} {fd : FuncData} (F : Fun K "_law_gap" "_law_gap" s__law_gap f fd) (h__law_draw : Has P w K mg base "_law_draw" 2 2 f__law_draw) (z_len : mg "len" = none) (z_max : mg "max" = none) :
    FnOk P w K mg base CX0 3 f fd ["_law_purse_here", "_law_row_here"] (spD K f__law_gap 2) := by
  refine fn_ok F sc__law_gap fun cdv A outer s H E hr => ?_
  have nd := sc__law_gap.nd
  exact (b_one (s_ret (d_ix (d_lst false (a_cons d_int (a_cons (d_add false d_int (d_def h__law_draw hr (a_cons (d_var 0) (a_cons d_int a_nil)))) (a_cons (d_add false d_int (d_def h__law_draw hr (a_cons (d_var 0) (a_cons (d_max2 z_max (a_cons d_int (a_cons (d_len z_len (a_cons (d_var 1) a_nil)) a_nil))) a_nil)))) (a_cons d_int a_nil))))) (d_div (d_def h__law_draw hr (a_cons (d_var 0) (a_cons d_int a_nil))) d_int))))
theorem ok__law_length {f : Addr} {fd : FuncData} (F : Fun K "_law_length" "_law_length" s__law_length f fd) (h__law_draw : Has P w K mg base "_law_draw" 2 2 f__law_draw) (z_len : mg "len" = none) (z_min : mg "min" = none) (z_max : mg "max" = none) :
    FnOk P w K mg base CX0 3 f fd ["_law_purse_here", "_law_row_here"] (spD K f__law_length 2) := by
  refine fn_ok F sc__law_length fun cdv A outer s H E hr => ?_
  have nd := sc__law_length.nd
  exact (b_one (s_ret (d_ix (d_lst false (a_cons (d_add false d_int (d_def h__law_draw hr (a_cons (d_var 0) (a_cons d_int a_nil)))) (a_cons (d_add false d_int (d_def h__law_draw hr (a_cons (d_var 0) (a_cons (d_max2 z_max (a_cons d_int (a_cons (d_min2 z_min (a_cons d_int (a_cons (d_add false (d_len z_len (a_cons (d_var 1) a_nil)) d_int) a_nil))) a_nil))) a_nil)))) (a_cons d_int a_nil)))) (d_div (d_def h__law_draw hr (a_cons (d_var 0) (a_cons d_int a_nil))) d_int))))
theorem ok_leads_of {f : Addr} {fd : FuncData} (F : Fun K "leads_of" "leads_of" s_leads_of f fd) (z_enumerate : mg "enumerate" = none) :
    FnOk P w K mg base CX0 1 f fd ["rows"] (spD K f_leads_of 1) := by
  refine fn_ok F sc_leads_of fun cdv A outer s H E hr => ?_
  have nd := sc_leads_of.nd
  exact (b_cons (s_set 1 nd (d_lst true a_nil))
    (b_cons (s_for (i_en z_enumerate (a_cons (d_var 0) a_nil)) (g_tup (g_cons (g_name 2 nd) (g_cons (g_name 3 nd) g_nil))) (b_wipe [2, 3] (b_one (s_if (t_w (w_and (t_notN (d_ix (d_var 3) d_int)) (w_and1 (t_cmp (k_eq hr) (d_ix (d_ix (d_var 0) (d_ix (d_var 3) d_int)) d_int) (d_var 2))))) (b_one (s_expr (d_append (d_var 1) (a_cons (d_ix (d_var 3) d_int) a_nil)))) (b_one (s_expr (d_append (d_var 1) (a_cons d_non a_nil))))))))
    (b_one (s_ret (d_var 1)))))
theorem ok_must_kind {f : Addr} {fd : FuncData} (F : Fun K "must_kind" "must_kind" s_must_kind f fd) {u_KINDS : Value} {vv_KINDS : V} (m_KINDS : mg "KINDS" = some u_KINDS) (r_KINDS : RelV vv_KINDS u_KINDS) (q_KINDS : ∀ G, Rv K G vv_KINDS v_KINDS) :
    FnOk P w K mg base CX0 1 f fd ["kind"] (spD K f_must_kind 1) := by
  refine fn_ok F sc_must_kind fun cdv A outer s H E hr => ?_
  have nd := sc_must_kind.nd
  exact (b_one (s_if (t_cmp k_notin (d_var 0) (d_glob rfl m_KINDS r_KINDS q_KINDS)) (b_one s_never) b_nil))
theorem ok_must_gap {f : Addr} {fd : FuncData} (F : Fun K "must_gap" "must_gap" s_must_gap f fd) {u_MOST_GAP : Value} {vv_MOST_GAP : V} (m_MOST_GAP : mg "MOST_GAP" = some u_MOST_GAP) (r_MOST_GAP : RelV vv_MOST_GAP u_MOST_GAP) (q_MOST_GAP : ∀ G, Rv K G vv_MOST_GAP v_MOST_GAP) :
    FnOk P w K mg base CX0 1 f fd ["gap"] (spD K f_must_gap 1) := by
  refine fn_ok F sc_must_gap fun cdv A outer s H E hr => ?_
  have nd := sc_must_gap.nd
  exact (b_one (s_if (t_not (t_chain k_le k_le d_int (d_var 0) (d_glob rfl m_MOST_GAP r_MOST_GAP q_MOST_GAP))) (b_one s_never) b_nil))
theorem ok_must_length {f : Addr} {fd : FuncData} (F : Fun K "must_length" "must_length" s_must_length f fd) {u_MOST_LENGTH : Value} {vv_MOST_LENGTH : V} (m_MOST_LENGTH : mg "MOST_LENGTH" = some u_MOST_LENGTH) (r_MOST_LENGTH : RelV vv_MOST_LENGTH u_MOST_LENGTH) (q_MOST_LENGTH : ∀ G, Rv K G vv_MOST_LENGTH v_MOST_LENGTH) :
    FnOk P w K mg base CX0 1 f fd ["length"] (spD K f_must_length 1) := by
  refine fn_ok F sc_must_length fun cdv A outer s H E hr => ?_
  have nd := sc_must_length.nd
  exact (b_one (s_if (t_not (t_chain k_le k_le d_int (d_var 0) (d_glob rfl m_MOST_LENGTH r_MOST_LENGTH q_MOST_LENGTH))) (b_one s_never) b_nil))
theorem ok_must_ask {f : Addr} {fd : FuncData} (F : Fun K "must_ask" "must_ask" s_must_ask f fd) (h_must_kind : Has P w K mg base "must_kind" 1 1 f_must_kind) (h_must_gap : Has P w K mg base "must_gap" 1 1 f_must_gap) (h_must_length : Has P w K mg base "must_length" 1 1 f_must_length) :
    FnOk P w K mg base CX0 2 f fd ["kind", "gap", "length"] (spD K f_must_ask 3) := by
  refine fn_ok F sc_must_ask fun cdv A outer s H E hr => ?_
  have nd := sc_must_ask.nd
  exact (b_cons (s_expr (d_def h_must_kind hr (a_cons (d_var 0) a_nil)))
    (b_cons (s_expr (d_def h_must_gap hr (a_cons (d_var 1) a_nil)))
    (b_one (s_expr (d_def h_must_length hr (a_cons (d_var 2) a_nil))))))
theorem ok_stretch {f : Addr} {fd : FuncData} (F : Fun K "stretch" "stretch" s_stretch f fd)  :
    FnOk P w K mg base CX0 1 f fd ["row", "length", "place"] (spD K f_stretch 3) := by
  refine fn_ok F sc_stretch fun cdv A outer s H E hr => ?_
  have nd := sc_stretch.nd
  exact (b_one (s_ret (d_slU false (d_var 0) (o_some (d_var 2)) (o_some (d_add false (d_var 2) (d_var 1))))))
theorem ok_count_of {f : Addr} {fd : FuncData} (F : Fun K "count_of" "count_of" s_count_of f fd) (z_len : mg "len" = none) (z_max : mg "max" = none) :
    FnOk P w K mg base CX0 1 f fd ["row", "length"] (spD K f_count_of 2) := by
  refine fn_ok F sc_count_of fun cdv A outer s H E hr => ?_
  have nd := sc_count_of.nd
  exact (b_one (s_ret (d_max2 z_max (a_cons d_int (a_cons (d_add false (d_sub (d_len z_len (a_cons (d_var 0) a_nil)) (d_var 1)) d_int) a_nil)))))
theorem ok_stretches {f : Addr} {fd : FuncData} (F : Fun K "stretches" "stretches" s_stretches f fd) (h_count_of : Has P w K mg base "count_of" 1 2 f_count_of) (h_stretch : Has P w K mg base "stretch" 1 3 f_stretch) (z_range : mg "range" = none) :
    FnOk P w K mg base CX0 2 f fd ["row", "length"] (spD K f_stretches 2) := by
  refine fn_ok F sc_stretches fun cdv A outer s H E hr => ?_
  have nd := sc_stretches.nd
  exact (b_one (s_ret (d_lc false [("place", 2)] nd (i_r1 z_range (a_cons (d_def h_count_of hr (a_cons (d_var 0) (a_cons (d_var 1) a_nil))) a_nil)) (by kernel_rfl) (fun _ _ _ _ _ => (g_name 2 nd)) (fun _ _ _ _ _ => c_nil) (fun _ _ _ _ _ => (d_def h_stretch hr (a_cons (d_var 0) (a_cons (d_var 1) (a_cons (d_var 2) a_nil))))))))
theorem ok_uneven {f : Addr} {fd : FuncData} (F : Fun K "uneven" "uneven" s_uneven f fd) (z_sum : mg "sum" = none) (z_len : mg "len" = none) :
    FnOk P w K mg base CX0 1 f fd ["numbers"] (spD K f_uneven 1) := by
  refine fn_ok F sc_uneven fun cdv A outer s H E hr => ?_
  have nd := sc_uneven.nd
  exact (b_cons (s_set 1 nd (d_sum z_sum (a_cons (d_var 0) a_nil)))
    (b_one (s_ret (d_sub (d_mulU false (d_len z_len (a_cons (d_var 0) a_nil)) (d_sum z_sum (a_cons (d_lc false [("number", 2)] nd (i_seq (d_var 0)) (by kernel_rfl) (fun _ _ _ _ _ => (g_name 2 nd)) (fun _ _ _ _ _ => c_nil) (fun _ _ _ _ _ => (d_mulU false (d_var 2) (d_var 2)))) a_nil))) (d_mulU false (d_var 1) (d_var 1))))))
theorem ok_divisor {f : Addr} {fd : FuncData} (F : Fun K "divisor" "divisor" s_divisor f fd) (z_abs : mg "abs" = none) :
    FnOk P w K mg base CX0 1 f fd ["one", "other"] (spD K f_divisor 2) := by
  refine fn_ok F sc_divisor fun cdv A outer s H E hr => ?_
  have nd := sc_divisor.nd
  exact (b_cons (s_set 0 nd (d_abs z_abs (a_cons (d_var 0) a_nil)))
    (b_cons (s_set 1 nd (d_abs z_abs (a_cons (d_var 1) a_nil)))
    (b_cons (s_while (t_cmp k_gt (d_var 1) d_int) (b_one (s_par 0 1 nd (d_var 1) (d_mod (d_var 0) (d_var 1)))))
    (b_one (s_ret (d_var 0))))))
theorem ok_made {f : Addr} {fd : FuncData} (F : Fun K "made" "made" s_made f fd) (h_divisor : Has P w K mg base "divisor" 1 2 f_divisor) :
    FnOk P w K mg base CX0 2 f fd ["top", "bottom"] (spD K f_made 2) := by
  refine fn_ok F sc_made fun cdv A outer s H E hr => ?_
  have nd := sc_made.nd
  exact (b_cons (s_set 2 nd (d_def h_divisor hr (a_cons (d_var 0) (a_cons (d_var 1) a_nil))))
    (b_cons (s_if (t_cmp k_lt (d_var 1) d_int) (b_one (s_set 2 nd (d_neg (d_var 2)))) b_nil)
    (b_one (s_ret (d_tup (a_cons (d_div (d_var 0) (d_var 2)) (a_cons (d_div (d_var 1) (d_var 2)) a_nil)))))))
theorem ok_shape_far {f : Addr} {fd : FuncData} (F : Fun K "shape_far" "shape_far" s_shape_far f fd) (h_uneven : Has P w K mg base "uneven" 1 1 f_uneven) (h_made : Has P w K mg base "made" 2 2 f_made) (z_int : mg "int" = none) (z_len : mg "len" = none) (z_zip : mg "zip" = none) (z_sum : mg "sum" = none) (z_abs : mg "abs" = none) :
    FnOk P w K mg base CX0 3 f fd ["one", "other"] (spD K f_shape_far 2) := by
  refine fn_ok F sc_shape_far fun cdv A outer s H E hr => ?_
  have nd := sc_shape_far.nd
  exact (b_cons (s_set 2 nd (d_def h_uneven (hr.mono (by decide)) (a_cons (d_var 0) a_nil)))
    (b_cons (s_set 3 nd (d_def h_uneven (hr.mono (by decide)) (a_cons (d_var 1) a_nil)))
    (b_cons (s_if (t_w (w_or (t_cmp (k_eq hr) (d_var 2) d_int) (w_or1 (t_cmp (k_eq hr) (d_var 3) d_int)))) (b_one (s_ret (d_tup (a_cons (d_intf z_int (a_cons (d_cmp (k_ne hr) (d_var 2) (d_var 3)) a_nil)) (a_cons d_int a_nil))))) b_nil)
    (b_cons (s_set 4 nd (d_sub (d_mulU false (d_len z_len (a_cons (d_var 0) a_nil)) (d_sum z_sum (a_cons (d_lc false [("a", 5), ("b", 6)] nd (i_zip z_zip (a_cons (d_var 0) (a_cons (d_var 1) a_nil))) (by kernel_rfl) (fun _ _ _ _ _ => (g_tup (g_cons (g_name 5 nd) (g_cons (g_name 6 nd) g_nil)))) (fun _ _ _ _ _ => c_nil) (fun _ _ _ _ _ => (d_mulU false (d_var 5) (d_var 6)))) a_nil))) (d_mulU false (d_sum z_sum (a_cons (d_var 0) a_nil)) (d_sum z_sum (a_cons (d_var 1) a_nil)))))
    (b_one (s_ret (d_def h_made hr (a_cons (d_sub (d_mulU false (d_var 2) (d_var 3)) (d_mulU false (d_var 4) (d_abs z_abs (a_cons (d_var 4) a_nil)))) (a_cons (d_mulU false (d_var 2) (d_var 3)) a_nil)))))))))
theorem ok_plain_far {f : Addr} {fd : FuncData} (F : Fun K "plain_far" "plain_far" s_plain_far f fd) (h_made : Has P w K mg base "made" 2 2 f_made) (z_len : mg "len" = none) (z_zip : mg "zip" = none) (z_sum : mg "sum" = none) :
    FnOk P w K mg base CX0 3 f fd ["one", "other"] (spD K f_plain_far 2) := by
  refine fn_ok F sc_plain_far fun cdv A outer s H E hr => ?_
  have nd := sc_plain_far.nd
  exact (b_one (s_ret (d_def h_made hr (a_cons (d_sum z_sum (a_cons (d_lc false [("a", 2), ("b", 3)] nd (i_zip z_zip (a_cons (d_var 0) (a_cons (d_var 1) a_nil))) (by kernel_rfl) (fun _ _ _ _ _ => (g_tup (g_cons (g_name 2 nd) (g_cons (g_name 3 nd) g_nil)))) (fun _ _ _ _ _ => c_nil) (fun _ _ _ _ _ => (d_mulU false (d_sub (d_var 2) (d_var 3)) (d_sub (d_var 2) (d_var 3))))) a_nil)) (a_cons (d_len z_len (a_cons (d_var 0) a_nil)) a_nil)))))
theorem ok_moved_far {f : Addr} {fd : FuncData} (F : Fun K "moved_far" "moved_far" s_moved_far f fd) (h_made : Has P w K mg base "made" 2 2 f_made) (h_uneven : Has P w K mg base "uneven" 1 1 f_uneven) (z_len : mg "len" = none) (z_zip : mg "zip" = none) :
    FnOk P w K mg base CX0 3 f fd ["one", "other"] (spD K f_moved_far 2) := by
  refine fn_ok F sc_moved_far fun cdv A outer s H E hr => ?_
  have nd := sc_moved_far.nd
  exact (b_one (s_ret (d_def h_made hr (a_cons (d_def h_uneven (hr.mono (by decide)) (a_cons (d_lc false [("a", 2), ("b", 3)] nd (i_zip z_zip (a_cons (d_var 0) (a_cons (d_var 1) a_nil))) (by kernel_rfl) (fun _ _ _ _ _ => (g_tup (g_cons (g_name 2 nd) (g_cons (g_name 3 nd) g_nil)))) (fun _ _ _ _ _ => c_nil) (fun _ _ _ _ _ => (d_sub (d_var 2) (d_var 3)))) a_nil)) (a_cons (d_mulU false (d_len z_len (a_cons (d_var 0) a_nil)) (d_len z_len (a_cons (d_var 0) a_nil))) a_nil)))))
theorem ok_far_told {f : Addr} {fd : FuncData} (F : Fun K "far_told" "far_told" s_far_told f fd) (h_plain_far : Has P w K mg base "plain_far" 3 2 f_plain_far) (h_moved_far : Has P w K mg base "moved_far" 3 2 f_moved_far) (h_shape_far : Has P w K mg base "shape_far" 3 2 f_shape_far) :
    FnOk P w K mg base CX0 4 f fd ["kind", "one", "other"] (spD K f_far_told 3) := by
  refine fn_ok F sc_far_told fun cdv A outer s H E hr => ?_
  have nd := sc_far_told.nd
  exact (b_cons (s_if (t_cmp (k_eq hr) (d_var 0) d_str) (b_one (s_ret (d_def h_plain_far hr (a_cons (d_var 1) (a_cons (d_var 2) a_nil))))) b_nil)
    (b_cons (s_if (t_cmp (k_eq hr) (d_var 0) d_str) (b_one (s_ret (d_def h_moved_far hr (a_cons (d_var 1) (a_cons (d_var 2) a_nil))))) b_nil)
    (b_one (s_ret (d_def h_shape_far hr (a_cons (d_var 1) (a_cons (d_var 2) a_nil)))))))
theorem ok_is_less {f : Addr} {fd : FuncData} (F : Fun K "is_less" "is_less" s_is_less f fd)  :
    FnOk P w K mg base CX0 1 f fd ["one", "other"] (spD K f_is_less 2) := by
  refine fn_ok F sc_is_less fun cdv A outer s H E hr => ?_
  have nd := sc_is_less.nd
  exact (b_one (s_ret (d_cmp k_lt (d_mulU false (d_ix (d_var 0) d_int) (d_ix (d_var 1) d_int)) (d_mulU false (d_ix (d_var 1) d_int) (d_ix (d_var 0) d_int)))))
theorem ok_place_of {f : Addr} {fd : FuncData} (F : Fun K "place_of" "place_of" s_place_of f fd) (h_far_told : Has P w K mg base "far_told" 4 3 f_far_told) (h_is_less : Has P w K mg base "is_less" 1 2 f_is_less) :
    FnOk P w K mg base CX0 5 f fd ["some", "kind", "here", "places"] (spD K f_place_of 4) := by
  refine fn_ok F sc_place_of fun cdv A outer s H E hr => ?_
  have nd := sc_place_of.nd
  exact (b_cons (s_set 4 nd d_non)
    (b_cons (s_set 5 nd d_non)
    (b_cons (s_for (i_seq (d_var 3)) (g_name 6 nd) (b_wipe [6, 7] (b_cons (s_set 7 nd (d_def h_far_told hr (a_cons (d_var 1) (a_cons (d_var 2) (a_cons (d_ix (d_var 0) (d_var 6)) a_nil)))))
      (b_one (s_if (t_w (w_or (t_isN (d_var 4)) (w_or1 (t_val (d_def h_is_less (hr.mono (by decide)) (a_cons (d_var 7) (a_cons (d_var 4) a_nil))))))) (b_cons (s_set 4 nd (d_var 7))
        (b_one (s_set 5 nd (d_var 6)))) b_nil)))))
    (b_one (s_ret (d_var 5))))))
theorem ok_nexts {f : Addr} {fd : FuncData} (F : Fun K "nexts" "nexts" s_nexts f fd) (h_must_ask : Has P w K mg base "must_ask" 2 3 f_must_ask) (h_stretches : Has P w K mg base "stretches" 2 2 f_stretches) (h_place_of : Has P w K mg base "place_of" 5 4 f_place_of) (z_len : mg "len" = none) (z_list : mg "list" = none) (z_range : mg "range" = none) (z_max : mg "max" = none) (z_enumerate : mg "enumerate" = none) :
    FnOk P w K mg base CX0 6 f fd ["row", "kind", "gap", "length"] (spD K f_nexts 4) := by
  refine fn_ok F sc_nexts fun cdv A outer s H E hr => ?_
  have nd := sc_nexts.nd
  exact (b_cons (s_expr (d_def h_must_ask (hr.mono (by decide)) (a_cons (d_var 1) (a_cons (d_var 2) (a_cons (d_var 3) a_nil)))))
    (b_cons (s_set 4 nd (d_def h_stretches (hr.mono (by decide)) (a_cons (d_var 0) (a_cons (d_var 3) a_nil))))
    (b_cons (s_set 5 nd (d_len z_len (a_cons (d_var 4) a_nil)))
    (b_cons (s_set 6 nd (d_lst true a_nil))
    (b_cons (s_for (i_en z_enumerate (a_cons (d_var 4) a_nil)) (g_tup (g_cons (g_name 7 nd) (g_cons (g_name 8 nd) g_nil))) (b_wipe [7, 8, 9, 10] (b_cons (s_set 9 nd (d_def h_place_of hr (a_cons (d_var 4) (a_cons (d_var 1) (a_cons (d_var 8) (a_cons (d_listR2 false z_list z_range (d_add false (d_var 7) (d_var 2)) (d_var 5)) a_nil))))))
      (b_cons (s_set 10 nd (d_def h_place_of hr (a_cons (d_var 4) (a_cons (d_var 1) (a_cons (d_var 8) (a_cons (d_listR1 false z_list z_range (d_max2 z_max (a_cons d_int (a_cons (d_add false (d_sub (d_var 7) (d_var 2)) d_int) a_nil)))) a_nil))))))
      (b_one (s_expr (d_append (d_var 6) (a_cons (d_tup (a_cons (d_var 9) (a_cons (d_var 10) a_nil))) a_nil))))))))
    (b_one (s_ret (d_var 6))))))))
theorem ok_chains {f : Addr} {fd : FuncData} (F : Fun K "chains" "chains" s_chains f fd) (h_leads_of : Has P w K mg base "leads_of" 1 1 f_leads_of) (h_nexts : Has P w K mg base "nexts" 6 4 f_nexts) (z_enumerate : mg "enumerate" = none) :
    FnOk P w K mg base CX0 7 f fd ["row", "kind", "gap", "length"] (spD K f_chains 4) := by
  refine fn_ok F sc_chains fun cdv A outer s H E hr => ?_
  have nd := sc_chains.nd
  exact (b_cons (s_set 4 nd (d_frz (d_def h_leads_of (hr.mono (by decide)) (a_cons (d_frz (d_def h_nexts hr (a_cons (d_var 0) (a_cons (d_var 1) (a_cons (d_var 2) (a_cons (d_var 3) a_nil)))))) a_nil))))
    (b_cons (s_set 5 nd (d_lst true a_nil))
    (b_cons (s_for (i_en z_enumerate (a_cons (d_var 4) a_nil)) (g_tup (g_cons (g_name 6 nd) (g_cons (g_name 7 nd) g_nil))) (b_wipe [6, 7, 8] (b_one (s_if (t_w (w_and (t_notN (d_var 7)) (w_and1 (t_cmp k_notin (d_var 6) (d_var 4))))) (b_cons (s_set 8 nd (d_lst true (a_cons (d_var 6) a_nil)))
        (b_cons (s_while (t_notN (d_ix (d_var 4) (d_ix (d_var 8) (d_neg d_int)))) (b_one (s_expr (d_append (d_var 8) (a_cons (d_ix (d_var 4) (d_ix (d_var 8) (d_neg d_int))) a_nil)))))
        (b_one (s_expr (d_append (d_var 5) (a_cons (d_frzC (d_var 8)) a_nil)))))) b_nil))))
    (b_one (s_ret (d_var 5))))))
theorem ok__law_number {f : Addr} {fd : FuncData} (F : Fun K "_law_number" "_law_number" s__law_number f fd) (h__law_draw : Has P w K mg base "_law_draw" 2 2 f__law_draw) :
    FnOk P w K mg base CX0 3 f fd ["_law_purse_here", "_law_way"] (spD K f__law_number 2) := by
  refine fn_ok F sc__law_number fun cdv A outer s H E hr => ?_
  have nd := sc__law_number.nd
  exact (b_cons (s_if (t_cmp (k_eq hr) (d_var 1) d_int) (b_one (s_ret (d_def h__law_draw hr (a_cons (d_var 0) (a_cons d_int a_nil))))) b_nil)
    (b_cons (s_if (t_cmp (k_eq hr) (d_var 1) d_int) (b_one (s_ret (d_sub (d_def h__law_draw hr (a_cons (d_var 0) (a_cons d_int a_nil))) d_int))) b_nil)
    (b_cons (s_if (t_cmp (k_eq hr) (d_var 1) d_int) (b_one (s_ret (d_sub (d_def h__law_draw hr (a_cons (d_var 0) (a_cons d_int a_nil))) d_int))) b_nil)
    (b_one (s_ret (d_ix (d_lst false (a_cons (d_add false (d_sub (d_def h__law_draw hr (a_cons (d_var 0) (a_cons (d_sub (d_mulU false d_int (d_pow d_int d_int)) d_int) a_nil))) (d_pow d_int d_int)) d_int) (a_cons (d_sub (d_pow d_int d_int) d_int) (a_cons (d_sub d_int (d_pow d_int d_int)) a_nil)))) (d_def h__law_draw hr (a_cons (d_var 0) (a_cons d_int a_nil)))))))))
theorem ok__law_row {f : Addr} {fd : FuncData} (F : Fun K "_law_row" "_law_row" s__law_row f fd) (h__law_draw : Has P w K mg base "_law_draw" 2 2 f__law_draw) (h__law_number : Has P w K mg base "_law_number" 3 2 f__law_number) (z_abs : mg "abs" = none) (z_int : mg "int" = none) (z_range : mg "range" = none) :
    FnOk P w K mg base CX0 4 f fd ["_law_purse_here", "_law_most"] (spD K f__law_row 2) := by
  refine fn_ok F sc__law_row fun cdv A outer s H E hr => ?_
  have nd := sc__law_row.nd
  exact (b_cons (s_set 2 nd (d_def h__law_draw (hr.mono (by decide)) (a_cons (d_var 0) (a_cons (d_add false (d_var 1) d_int) a_nil))))
    (b_cons (s_set 3 nd (d_def h__law_draw (hr.mono (by decide)) (a_cons (d_var 0) (a_cons d_int a_nil))))
    (b_cons (s_set 4 nd (d_lst true a_nil))
    (b_cons (s_for (i_r1 z_range (a_cons (d_var 2) a_nil)) (g_name 5 nd) (b_wipe [5] (b_one (s_if (t_w (w_and (t_cmp (k_eq hr) (d_var 3) d_int) (w_and (t_cmp k_gt (d_var 5) d_int) (w_and1 (t_cmp k_gt (d_def h__law_draw (hr.mono (by decide)) (a_cons (d_var 0) (a_cons d_int a_nil))) d_int))))) (b_one (s_expr (d_append (d_var 4) (a_cons (d_mulU false (d_ix (d_var 4) (d_sub (d_var 5) d_int)) (d_ix (d_lst false (a_cons d_int (a_cons d_int (a_cons d_int a_nil)))) (d_mulU false (d_mod (d_var 5) d_int) (d_intf z_int (a_cons (d_cmp k_lt (d_abs z_abs (a_cons (d_ix (d_var 4) (d_sub (d_var 5) d_int)) a_nil)) (d_pow d_int d_int)) a_nil))))) a_nil)))) (b_one (s_expr (d_append (d_var 4) (a_cons (d_def h__law_number hr (a_cons (d_var 0) (a_cons (d_mod (d_var 3) d_int) a_nil))) a_nil))))))))
    (b_one (s_ret (d_var 4)))))))
theorem ok__law_one {f : Addr} {fd : FuncData} (F : Fun K "_law_one" "_law_one" s__law_one f fd) (h__law_row : Has P w K mg base "_law_row" 4 2 f__law_row) (h__law_draw : Has P w K mg base "_law_draw" 2 2 f__law_draw) :
    FnOk P w K mg base CX0 5 f fd ["_law_purse_here"] (spD K f__law_one 1) := by
  refine fn_ok F sc__law_one fun cdv A outer s H E hr => ?_
  have nd := sc__law_one.nd
  exact (b_one (s_ret (d_def h__law_row hr (a_cons (d_var 0) (a_cons (d_ix (d_lst false (a_cons d_int (a_cons d_int (a_cons d_int a_nil)))) (d_div (d_def h__law_draw (hr.mono (by decide)) (a_cons (d_var 0) (a_cons d_int a_nil))) d_int)) a_nil)))))
theorem ok_lots {f : Addr} {fd : FuncData} (F : Fun K "lots" "lots" s_lots f fd) (h_must_ask : Has P w K mg base "must_ask" 2 3 f_must_ask) (h_stretches : Has P w K mg base "stretches" 2 2 f_stretches) (h_is_less : Has P w K mg base "is_less" 1 2 f_is_less) (h_far_told : Has P w K mg base "far_told" 4 3 f_far_told) (z_len : mg "len" = none) (z_list : mg "list" = none) (z_range : mg "range" = none) (z_abs : mg "abs" = none) (z_sorted : mg "sorted" = none) :
    FnOk P w K mg base CX0 5 f fd ["row", "kind", "gap", "length", "fraction"] (spD K f_lots 5) := by
  refine fn_ok F sc_lots fun cdv A outer s H E hr => ?_
  have nd := sc_lots.nd
  exact (b_cons (s_expr (d_def h_must_ask (hr.mono (by decide)) (a_cons (d_var 1) (a_cons (d_var 2) (a_cons (d_var 3) a_nil)))))
    (b_cons (s_set 5 nd (d_def h_stretches (hr.mono (by decide)) (a_cons (d_var 0) (a_cons (d_var 3) a_nil))))
    (b_cons (s_set 6 nd (d_lst true a_nil))
    (b_cons (s_set 7 nd (d_listR1 true z_list z_range (d_len z_len (a_cons (d_var 5) a_nil))))
    (b_cons (s_while (t_cmp k_gt (d_len z_len (a_cons (d_var 7) a_nil)) d_int) (b_wipe [8, 9, 10, 11] (b_cons (s_set 8 nd (d_lst false (a_cons (d_pop (d_var 7) (a_cons d_int a_nil)) a_nil)))
      (b_cons (s_set 9 nd d_int)
      (b_pre [10, 11] (b_cons (s_while (t_cmp k_lt (d_var 9) (d_len z_len (a_cons (d_var 8) a_nil))) (b_wipe [10, 11] (b_cons (s_set 10 nd (d_ix (d_var 8) (d_var 9)))
        (b_cons (s_set 11 nd (d_lc false [("q", 12)] nd (i_seq (d_var 7)) (by kernel_rfl) (fun _ _ _ _ _ => (g_name 12 nd)) (fun _ _ _ _ _ => (c_one (t_w (w_and (t_cmp k_ge (d_abs z_abs (a_cons (d_sub (d_var 12) (d_var 10)) a_nil)) (d_var 2)) (w_and1 (t_not (t_val (d_def h_is_less (hr.mono (by decide)) (a_cons (d_var 4) (a_cons (d_def h_far_told hr (a_cons (d_var 1) (a_cons (d_ix (d_var 5) (d_var 10)) (a_cons (d_ix (d_var 5) (d_var 12)) a_nil)))) a_nil)))))))))) (fun _ _ _ _ _ => (d_var 12))))
        (b_cons (s_set 8 nd (d_add false (d_var 8) (d_var 11)))
        (b_cons (s_setLc 7 true [("q", 12)] nd (i_seq (d_var 7)) (by kernel_rfl) (fun _ _ _ _ _ => (g_name 12 nd)) (fun _ _ _ _ _ => (c_one (t_cmp k_notin (d_var 12) (d_var 11)))) (fun _ _ _ _ _ => (d_var 12)) (sw_true rfl rfl rfl (by decide +kernel)))
        (b_one (s_aug 9 nd u_add d_int))))))))
      (b_one (s_expr (d_append (d_var 6) (a_cons (d_sorted false z_sorted (a_cons (d_var 8) a_nil)) a_nil))))))))))
    (b_one (s_ret (d_var 6))))))))
theorem ok__law_less {f : Addr} {fd : FuncData} (F : Fun K "_law_less" "_law_less" s__law_less f fd)  :
    FnOk P w K mg base CX0 1 f fd ["_law_one_here", "_law_other"] (spD K f__law_less 2) := by
  refine fn_ok F sc__law_less fun cdv A outer s H E hr => ?_
  have nd := sc__law_less.nd
  exact (b_one (s_ret (d_cmp k_lt (d_mulU false (d_ix (d_var 0) d_int) (d_ix (d_var 1) d_int)) (d_mulU false (d_ix (d_var 1) d_int) (d_ix (d_var 0) d_int)))))
theorem ok_must_place {f : Addr} {fd : FuncData} (F : Fun K "must_place" "must_place" s_must_place f fd) (h_count_of : Has P w K mg base "count_of" 1 2 f_count_of) :
    FnOk P w K mg base CX0 2 f fd ["row", "length", "place"] (spD K f_must_place 3) := by
  refine fn_ok F sc_must_place fun cdv A outer s H E hr => ?_
  have nd := sc_must_place.nd
  exact (b_one (s_if (t_not (t_chain k_le k_lt d_int (d_var 2) (d_def h_count_of hr (a_cons (d_var 0) (a_cons (d_var 1) a_nil))))) (b_one s_never) b_nil))
theorem ok_far {f : Addr} {fd : FuncData} (F : Fun K "far" "far" s_far f fd) (h_must_kind : Has P w K mg base "must_kind" 1 1 f_must_kind) (h_must_length : Has P w K mg base "must_length" 1 1 f_must_length) (h_must_place : Has P w K mg base "must_place" 2 3 f_must_place) (h_far_told : Has P w K mg base "far_told" 4 3 f_far_told) (h_stretch : Has P w K mg base "stretch" 1 3 f_stretch) :
    FnOk P w K mg base CX0 5 f fd ["row", "kind", "length", "p", "q"] (spD K f_far 5) := by
  refine fn_ok F sc_far fun cdv A outer s H E hr => ?_
  have nd := sc_far.nd
  exact (b_cons (s_expr (d_def h_must_kind (hr.mono (by decide)) (a_cons (d_var 1) a_nil)))
    (b_cons (s_expr (d_def h_must_length (hr.mono (by decide)) (a_cons (d_var 2) a_nil)))
    (b_cons (s_expr (d_def h_must_place (hr.mono (by decide)) (a_cons (d_var 0) (a_cons (d_var 2) (a_cons (d_var 3) a_nil)))))
    (b_cons (s_expr (d_def h_must_place (hr.mono (by decide)) (a_cons (d_var 0) (a_cons (d_var 2) (a_cons (d_var 4) a_nil)))))
    (b_one (s_ret (d_def h_far_told hr (a_cons (d_var 1) (a_cons (d_def h_stretch (hr.mono (by decide)) (a_cons (d_var 0) (a_cons (d_var 2) (a_cons (d_var 3) a_nil)))) (a_cons (d_def h_stretch (hr.mono (by decide)) (a_cons (d_var 0) (a_cons (d_var 2) (a_cons (d_var 4) a_nil)))) a_nil))))))))))
theorem ok__law_within {f : Addr} {fd : FuncData} (F : Fun K "_law_within" "_law_within" s__law_within f fd) (z_len : mg "len" = none) :
    FnOk P w K mg base CX0 1 f fd ["_law_finer", "_law_coarser"] (spD K f__law_within 2) := by
  refine fn_ok F sc__law_within fun cdv A outer s H E hr => ?_
  have nd := sc__law_within.nd
  exact (b_cons (s_for (i_seq (d_var 0)) (g_name 2 nd) (b_wipe [2, 3] (b_pre [3] (b_one (s_for (i_seq (d_var 1)) (g_name 3 nd) (b_wipe [3] (b_one (s_if (t_w (w_and (t_cmp k_in (d_ix (d_var 2) d_int) (d_var 3)) (w_and1 (t_cmp k_gt (d_len z_len (a_cons (d_lc false [("_law_p", 4)] nd (i_seq (d_var 2)) (by kernel_rfl) (fun _ _ _ _ _ => (g_name 4 nd)) (fun _ _ _ _ _ => (c_one (t_cmp k_notin (d_var 4) (d_var 3)))) (fun _ _ _ _ _ => (d_var 4))) a_nil)) d_int)))) (b_one (s_ret d_bl)) b_nil))))))))
    (b_one (s_ret d_bl)))
theorem ok__law_together {f : Addr} {fd : FuncData} (F : Fun K "_law_together" "_law_together" s__law_together f fd) (h__law_less : Has P w K mg base "_law_less" 1 2 f__law_less) (z_abs : mg "abs" = none) (z_len : mg "len" = none) (z_sorted : mg "sorted" = none) :
    FnOk P w K mg base CX0 2 f fd ["_law_told", "_law_fars", "_law_gap_here", "_law_mark"] (spD K f__law_together 4) := by
  refine fn_ok F sc__law_together fun cdv A outer s H E hr => ?_
  have nd := sc__law_together.nd
  exact (b_cons (s_for (i_seq (d_var 0)) (g_name 4 nd) (b_wipe [4, 5, 6, 7, 8] (b_cons (s_set 5 nd (d_lst true (a_cons (d_ix (d_var 4) d_int) a_nil)))
      (b_cons (s_set 6 nd d_int)
      (b_pre [7, 8] (b_cons (s_while (t_cmp k_lt (d_var 6) (d_len z_len (a_cons (d_var 5) a_nil))) (b_wipe [7, 8] (b_cons (s_set 7 nd (d_ix (d_var 5) (d_var 6)))
        (b_pre [8] (b_cons (s_for (i_seq (d_var 4)) (g_name 8 nd) (b_wipe [8] (b_one (s_if (t_w (w_and (t_cmp k_notin (d_var 8) (d_var 5)) (w_and (t_cmp k_ge (d_abs z_abs (a_cons (d_sub (d_var 8) (d_var 7)) a_nil)) (d_var 2)) (w_and1 (t_not (t_val (d_def h__law_less hr (a_cons (d_var 3) (a_cons (d_kget hr (d_var 1) (d_tup (a_cons (d_var 7) (a_cons (d_var 8) a_nil)))) a_nil))))))))) (b_one (s_expr (d_append (d_var 5) (a_cons (d_var 8) a_nil)))) b_nil))))
        (b_one (s_set 6 nd (d_add false (d_var 6) d_int))))))))
      (b_one (s_if (t_cmp (k_ne hr) (d_sorted false z_sorted (a_cons (d_var 5) a_nil)) (d_var 4)) (b_one (s_ret d_bl)) b_nil))))))))
    (b_one (s_ret d_bl)))
theorem ok__law_fine {f : Addr} {fd : FuncData} (F : Fun K "_law_fine" "_law_fine" s__law_fine f fd) (h__law_less : Has P w K mg base "_law_less" 1 2 f__law_less) (h__law_together : Has P w K mg base "_law_together" 2 4 f__law_together) (z_enumerate : mg "enumerate" = none) (z_sorted : mg "sorted" = none) (z_list : mg "list" = none) (z_range : mg "range" = none) (z_abs : mg "abs" = none) :
    FnOk P w K mg base CX0 3 f fd ["_law_told", "_law_fars", "_law_many", "_law_gap_here", "_law_mark"] (spD K f__law_fine 5) := by
  refine fn_ok F sc__law_fine fun cdv A outer s H E hr => ?_
  have nd := sc__law_fine.nd
  exact (b_new false 5 nd (zb_cons (z_set 6 nd (y_E (d_lst false a_nil)))
    (zb_cons (z_for (i_en z_enumerate (a_cons (d_var 0) a_nil)) (g_tup (g_cons (g_name 7 nd) (g_cons (g_name 8 nd) g_nil))) (zb_wipe [7, 8, 9] (zb_cons (z_set 6 nd (y_E (d_add false (d_var 6) (d_var 8))))
      (zb_pre [9] (zb_one (z_for (i_seq (d_var 8)) (g_name 9 nd) (zb_wipe [9] (zb_one (z_putI hr (y_name 5) (d_var 9) (y_E (d_var 7)))))))))))
    (zb_cons (z_if (yt_T (t_cmp (k_ne hr) (d_sorted false z_sorted (a_cons (d_var 6) a_nil)) (d_listR1 false z_list z_range (d_var 2)))) (zb_one (z_ret (y_E d_bl))) zb_nil)
    (zb_cons (z_forT (d_var 1) (g_tup (g_cons (g_name 10 nd) (g_cons (g_name 11 nd) g_nil))) (zb_wipe [10, 11] (zb_one (z_if (yt_w (yw_and (yt_T (t_cmp k_ge (d_abs z_abs (a_cons (d_sub (d_var 11) (d_var 10)) a_nil)) (d_var 3))) (yw_and (yt_T (t_not (t_val (d_def h__law_less (hr.mono (by decide)) (a_cons (d_var 4) (a_cons (d_kget hr (d_var 1) (d_tup (a_cons (d_var 10) (a_cons (d_var 11) a_nil)))) a_nil)))))) (yw_and1 (yt_cmp (k_ne hr) (y_get hr (y_name 5) (d_var 10)) (y_get hr (y_name 5) (d_var 11))))))) (zb_one (z_ret (y_E d_bl))) zb_nil))))
    (zb_one (z_ret (y_E (d_def h__law_together hr (a_cons (d_var 0) (a_cons (d_var 1) (a_cons (d_var 3) (a_cons (d_var 4) a_nil)))))))))))))
theorem ok_law {f : Addr} {fd : FuncData} (F : Fun K "law" "law" s_law f fd) (h__law_purse : Has P w K mg base "_law_purse" 2 2 f__law_purse) (h__law_one : Has P w K mg base "_law_one" 5 1 f__law_one) (h__law_kind : Has P w K mg base "_law_kind" 3 1 f__law_kind) (h__law_gap : Has P w K mg base "_law_gap" 3 2 f__law_gap) (h__law_length : Has P w K mg base "_law_length" 3 2 f__law_length) (h_far : Has P w K mg base "far" 5 5 f_far) (h_lots : Has P w K mg base "lots" 5 5 f_lots) (h__law_draw : Has P w K mg base "_law_draw" 2 2 f__law_draw) (h__law_less : Has P w K mg base "_law_less" 1 2 f__law_less) (h__law_fine : Has P w K mg base "_law_fine" 3 5 f__law_fine) (h__law_within : Has P w K mg base "_law_within" 1 2 f__law_within) (h_chains : Has P w K mg base "chains" 7 4 f_chains) (z_len : mg "len" = none) (z_max : mg "max" = none) (z_range : mg "range" = none) (z_int : mg "int" = none) (z_zip : mg "zip" = none) :
    FnOk P w K mg base CX0 8 f fd ["_law_script"] (spD K f_law 1) := by
  refine fn_ok F sc_law fun cdv A outer s H E hr => ?_
  have nd := sc_law.nd
  exact (b_cons (s_for (i_r1 z_range (a_cons d_int a_nil)) (g_name 1 nd) (b_wipe [1, 2, 3, 4, 5, 6, 7, 8, 9, 10, 11, 12, 13, 14, 15, 16, 17] (b_cons (s_set 2 nd (d_def h__law_purse (hr.mono (by decide)) (a_cons (d_var 0) (a_cons (d_var 1) a_nil))))
      (b_cons (s_set 3 nd (d_slU false (d_frz (d_def h__law_one (hr.mono (by decide)) (a_cons (d_var 2) a_nil))) o_none (o_some d_int)))
      (b_cons (s_set 4 nd (d_def h__law_kind (hr.mono (by decide)) (a_cons (d_var 2) a_nil)))
      (b_cons (s_set 5 nd (d_def h__law_gap (hr.mono (by decide)) (a_cons (d_var 2) (a_cons (d_var 3) a_nil))))
      (b_cons (s_set 6 nd (d_def h__law_length (hr.mono (by decide)) (a_cons (d_var 2) (a_cons (d_var 3) a_nil))))
      (b_cons (s_set 7 nd (d_max2 z_max (a_cons d_int (a_cons (d_add false (d_sub (d_len z_len (a_cons (d_var 3) a_nil)) (d_var 6)) d_int) a_nil))))
      (b_new true 8 nd (zb_pre [9, 10] (zb_cons (z_for (i_r1 z_range (a_cons (d_var 7) a_nil)) (g_name 9 nd) (zb_wipe [9, 10] (zb_pre [10] (zb_one (z_for (i_r1 z_range (a_cons (d_var 7) a_nil)) (g_name 10 nd) (zb_wipe [10] (zb_one (z_put hr (y_name 8) (a_cons (d_var 9) (a_cons (d_var 10) a_nil)) (y_E (d_def h_far (hr.mono (by decide)) (a_cons (d_var 3) (a_cons (d_var 4) (a_cons (d_var 6) (a_cons (d_var 9) (a_cons (d_var 10) a_nil)))))))))))))))
      (zb_cons (z_if (yt_T (t_cmp (k_ne hr) (d_frz (d_def h_lots (hr.mono (by decide)) (a_cons (d_var 3) (a_cons (d_var 4) (a_cons (d_var 5) (a_cons (d_var 6) (a_cons (d_tup (a_cons (d_neg d_int) (a_cons d_int a_nil))) a_nil))))))) (d_lc false [("_law_p", 9)] nd (i_r1 z_range (a_cons (d_var 7) a_nil)) (by kernel_rfl) (fun _ _ _ _ _ => (g_name 9 nd)) (fun _ _ _ _ _ => c_nil) (fun _ _ _ _ _ => (d_lst false (a_cons (d_var 9) a_nil)))))) (zb_one (z_ret (y_E d_bl))) zb_nil)
      (zb_cons (z_setLc 11 false [("_law_p", 9)] nd (i_r1 z_range (a_cons (d_var 7) a_nil)) (by kernel_rfl) (fun _ _ _ _ _ => (g_name 9 nd)) (fun _ _ _ _ _ => yc_nil) (fun _ _ _ _ _ => (y_E (d_lst false (a_cons (d_var 9) a_nil)))) (sw_true rfl rfl rfl (by decide +kernel)))
      (zb_cons (z_set 12 nd (y_E (d_tup (a_cons d_int (a_cons d_int a_nil)))))
      (zb_pre [13, 14, 15] (zb_cons (z_for (i_r1 z_range (a_cons (d_mulU false d_int (d_intf z_int (a_cons (d_cmp k_gt (d_var 7) d_int) a_nil))) a_nil)) (g_name 13 nd) (zb_wipe [13, 14, 15] (zb_cons (z_set 14 nd (y_get hr (y_name 8) (d_tup (a_cons (d_def h__law_draw (hr.mono (by decide)) (a_cons (d_var 2) (a_cons (d_var 7) a_nil))) (a_cons (d_def h__law_draw (hr.mono (by decide)) (a_cons (d_var 2) (a_cons (d_var 7) a_nil))) a_nil)))))
        (zb_cons (z_if (yt_T (t_val (d_def h__law_less (hr.mono (by decide)) (a_cons (d_var 12) (a_cons (d_var 14) a_nil))))) (zb_one (z_set 12 nd (y_E (d_var 14)))) zb_nil)
        (zb_cons (z_set 15 nd (y_E (d_frz (d_def h_lots (hr.mono (by decide)) (a_cons (d_var 3) (a_cons (d_var 4) (a_cons (d_var 5) (a_cons (d_var 6) (a_cons (d_var 12) a_nil)))))))))
        (zb_cons (z_if (yt_w (yw_or (yt_not (yt_val (y_loan h__law_fine (hr.mono (by decide)) (yk_cons (y_E (d_var 15)) (yk_self (y_name 8) (yk_cons (y_E (d_var 7)) (yk_cons (y_E (d_var 5)) (yk_cons (y_E (d_var 12)) yk_nil)))))))) (yw_or1 (yt_T (t_not (t_val (d_def h__law_within (hr.mono (by decide)) (a_cons (d_var 11) (a_cons (d_var 15) a_nil))))))))) (zb_one (z_ret (y_E d_bl))) zb_nil)
        (zb_one (z_set 11 nd (y_E (d_var 15))))))))))
      (zb_pre [9, 10, 16, 17] (zb_one (z_for (i_seq (d_frz (d_def h_chains hr (a_cons (d_var 3) (a_cons (d_var 4) (a_cons (d_var 5) (a_cons (d_var 6) a_nil))))))) (g_name 16 nd) (zb_wipe [9, 10, 16, 17] (zb_cons (z_set 17 nd (y_E (d_tup (a_cons d_int (a_cons d_int a_nil)))))
        (zb_pre [9, 10] (zb_cons (z_for (i_zip z_zip (a_cons (d_var 16) (a_cons (d_slU false (d_var 16) (o_some d_int) o_none) a_nil))) (g_tup (g_cons (g_name 9 nd) (g_cons (g_name 10 nd) g_nil))) (zb_wipe [9, 10] (zb_one (z_if (yt_val (y_def h__law_less (hr.mono (by decide)) (ya_cons (y_E (d_var 17)) (ya_cons (y_get hr (y_name 8) (d_tup (a_cons (d_var 9) (a_cons (d_var 10) a_nil)))) ya_nil)))) (zb_one (z_set 17 nd (y_get hr (y_name 8) (d_tup (a_cons (d_var 9) (a_cons (d_var 10) a_nil)))))) zb_nil))))
        (zb_one (z_if (yt_T (t_not (t_val (d_def h__law_within (hr.mono (by decide)) (a_cons (d_lst false (a_cons (d_var 16) a_nil)) (a_cons (d_frz (d_def h_lots (hr.mono (by decide)) (a_cons (d_var 3) (a_cons (d_var 4) (a_cons (d_var 5) (a_cons (d_var 6) (a_cons (d_var 17) a_nil))))))) a_nil)))))) (zb_one (z_ret (y_E d_bl))) zb_nil)))))))))))))))))))))))))
    (b_one (s_ret d_bl)))
end
theorem all_mk {l : PySem.W.OpenLaw} {w : World} {K : PySem.W.Frag} {h : Heap} {mg : Str → Option Value} {fa : Addr} (X : K.In h) (G : h.Ns mainGlobals mg) (hfa : mg "law" = some (.ref fa))
    {f1 : Addr} {od1 an1 : Option Addr} {sl1 : Array (Option Value)} {oc1 kV1 dc1 pm1 cd1 ct1 : Value}
    {f2 : Addr} {od2 an2 : Option Addr} {sl2 : Array (Option Value)} {oc2 kV2 dc2 pm2 cd2 ct2 : Value}
    {f3 : Addr} {od3 an3 : Option Addr} {sl3 : Array (Option Value)} {oc3 kV3 dc3 pm3 cd3 ct3 : Value}
    {f4 : Addr} {od4 an4 : Option Addr} {sl4 : Array (Option Value)} {oc4 kV4 dc4 pm4 cd4 ct4 : Value}
    {f5 : Addr} {od5 an5 : Option Addr} {sl5 : Array (Option Value)} {oc5 kV5 dc5 pm5 cd5 ct5 : Value}
    {f6 : Addr} {od6 an6 : Option Addr} {sl6 : Array (Option Value)} {oc6 kV6 dc6 pm6 cd6 ct6 : Value}
    {f7 : Addr} {od7 an7 : Option Addr} {sl7 : Array (Option Value)} {oc7 kV7 dc7 pm7 cd7 ct7 : Value}
    {f8 : Addr} {od8 an8 : Option Addr} {sl8 : Array (Option Value)} {oc8 kV8 dc8 pm8 cd8 ct8 : Value}
    {f9 : Addr} {od9 an9 : Option Addr} {sl9 : Array (Option Value)} {oc9 kV9 dc9 pm9 cd9 ct9 : Value}
    {f10 : Addr} {od10 an10 : Option Addr} {sl10 : Array (Option Value)} {oc10 kV10 dc10 pm10 cd10 ct10 : Value}
    {f11 : Addr} {od11 an11 : Option Addr} {sl11 : Array (Option Value)} {oc11 kV11 dc11 pm11 cd11 ct11 : Value}
    {f12 : Addr} {od12 an12 : Option Addr} {sl12 : Array (Option Value)} {oc12 kV12 dc12 pm12 cd12 ct12 : Value}
    {f13 : Addr} {od13 an13 : Option Addr} {sl13 : Array (Option Value)} {oc13 kV13 dc13 pm13 cd13 ct13 : Value}
    {f14 : Addr} {od14 an14 : Option Addr} {sl14 : Array (Option Value)} {oc14 kV14 dc14 pm14 cd14 ct14 : Value}
    {f15 : Addr} {od15 an15 : Option Addr} {sl15 : Array (Option Value)} {oc15 kV15 dc15 pm15 cd15 ct15 : Value}
    {f16 : Addr} {od16 an16 : Option Addr} {sl16 : Array (Option Value)} {oc16 kV16 dc16 pm16 cd16 ct16 : Value}
    {f17 : Addr} {od17 an17 : Option Addr} {sl17 : Array (Option Value)} {oc17 kV17 dc17 pm17 cd17 ct17 : Value}
    {f18 : Addr} {od18 an18 : Option Addr} {sl18 : Array (Option Value)} {oc18 kV18 dc18 pm18 cd18 ct18 : Value}
    {f19 : Addr} {od19 an19 : Option Addr} {sl19 : Array (Option Value)} {oc19 kV19 dc19 pm19 cd19 ct19 : Value}
    {f20 : Addr} {od20 an20 : Option Addr} {sl20 : Array (Option Value)} {oc20 kV20 dc20 pm20 cd20 ct20 : Value}
    {f21 : Addr} {od21 an21 : Option Addr} {sl21 : Array (Option Value)} {oc21 kV21 dc21 pm21 cd21 ct21 : Value}
    {f22 : Addr} {od22 an22 : Option Addr} {sl22 : Array (Option Value)} {oc22 kV22 dc22 pm22 cd22 ct22 : Value}
    {f23 : Addr} {od23 an23 : Option Addr} {sl23 : Array (Option Value)} {oc23 kV23 dc23 pm23 cd23 ct23 : Value}
    {f24 : Addr} {od24 an24 : Option Addr} {sl24 : Array (Option Value)} {oc24 kV24 dc24 pm24 cd24 ct24 : Value}
    {f25 : Addr} {od25 an25 : Option Addr} {sl25 : Array (Option Value)} {oc25 kV25 dc25 pm25 cd25 ct25 : Value}
    {f26 : Addr} {od26 an26 : Option Addr} {sl26 : Array (Option Value)} {oc26 kV26 dc26 pm26 cd26 ct26 : Value}
    {f27 : Addr} {od27 an27 : Option Addr} {sl27 : Array (Option Value)} {oc27 kV27 dc27 pm27 cd27 ct27 : Value}
    {f28 : Addr} {od28 an28 : Option Addr} {sl28 : Array (Option Value)} {oc28 kV28 dc28 pm28 cd28 ct28 : Value}
    {f29 : Addr} {od29 an29 : Option Addr} {sl29 : Array (Option Value)} {oc29 kV29 dc29 pm29 cd29 ct29 : Value}
    {f30 : Addr} {od30 an30 : Option Addr} {sl30 : Array (Option Value)} {oc30 kV30 dc30 pm30 cd30 ct30 : Value}
    {f31 : Addr} {od31 an31 : Option Addr} {sl31 : Array (Option Value)} {oc31 kV31 dc31 pm31 cd31 ct31 : Value}
    {f32 : Addr} {od32 an32 : Option Addr} {sl32 : Array (Option Value)} {oc32 kV32 dc32 pm32 cd32 ct32 : Value}
    {f33 : Addr} {od33 an33 : Option Addr} {sl33 : Array (Option Value)} {oc33 kV33 dc33 pm33 cd33 ct33 : Value}
    {f34 : Addr} {od34 an34 : Option Addr} {sl34 : Array (Option Value)} {oc34 kV34 dc34 pm34 cd34 ct34 : Value}
    {f35 : Addr} {od35 an35 : Option Addr} {sl35 : Array (Option Value)} {oc35 kV35 dc35 pm35 cd35 ct35 : Value}
    {f36 : Addr} {od36 an36 : Option Addr} {sl36 : Array (Option Value)} {oc36 kV36 dc36 pm36 cd36 ct36 : Value}
    {f37 : Addr} {od37 an37 : Option Addr} {sl37 : Array (Option Value)} {oc37 kV37 dc37 pm37 cd37 ct37 : Value}
    {ga_KINDS : Addr} {tKINDS0 tKINDS1 tKINDS2 : Tok} {gn_KINDS : Nat} {gd_KINDS : Option Addr} {gs_KINDS : Array (Option Value)}
    {gt_MOST_GAP : Tok}
    {gt_MOST_LENGTH : Tok}
    (a1 : PySem.W.nsIn K mainGlobals "_law_at" = some (some (.ref f1))) (l1 : K.lookup f1 = some ⟨oc1, od1, .func (PySem.W.fnOf "_law_at" "_law_at" (defArgs s__law_at) (defBody s__law_at) (defScope s__law_at) .none kV1 dc1 pm1 an1 cd1 ct1), sl1⟩) (c1 : PySem.W.codeIn K cd1 "_law_at" = true) (k1 : PySem.W.keepIn K (.ref f1) = true)
    (a2 : PySem.W.nsIn K mainGlobals "_law_purse" = some (some (.ref f2))) (l2 : K.lookup f2 = some ⟨oc2, od2, .func (PySem.W.fnOf "_law_purse" "_law_purse" (defArgs s__law_purse) (defBody s__law_purse) (defScope s__law_purse) .none kV2 dc2 pm2 an2 cd2 ct2), sl2⟩) (c2 : PySem.W.codeIn K cd2 "_law_purse" = true) (k2 : PySem.W.keepIn K (.ref f2) = true)
    (a3 : PySem.W.nsIn K mainGlobals "_law_mixed" = some (some (.ref f3))) (l3 : K.lookup f3 = some ⟨oc3, od3, .func (PySem.W.fnOf "_law_mixed" "_law_mixed" (defArgs s__law_mixed) (defBody s__law_mixed) (defScope s__law_mixed) .none kV3 dc3 pm3 an3 cd3 ct3), sl3⟩) (c3 : PySem.W.codeIn K cd3 "_law_mixed" = true) (k3 : PySem.W.keepIn K (.ref f3) = true)
    (a4 : PySem.W.nsIn K mainGlobals "_law_draw" = some (some (.ref f4))) (l4 : K.lookup f4 = some ⟨oc4, od4, .func (PySem.W.fnOf "_law_draw" "_law_draw" (defArgs s__law_draw) (defBody s__law_draw) (defScope s__law_draw) .none kV4 dc4 pm4 an4 cd4 ct4), sl4⟩) (c4 : PySem.W.codeIn K cd4 "_law_draw" = true) (k4 : PySem.W.keepIn K (.ref f4) = true)
    (a5 : PySem.W.nsIn K mainGlobals "_law_kind" = some (some (.ref f5))) (l5 : K.lookup f5 = some ⟨oc5, od5, .func (PySem.W.fnOf "_law_kind" "_law_kind" (defArgs s__law_kind) (defBody s__law_kind) (defScope s__law_kind) .none kV5 dc5 pm5 an5 cd5 ct5), sl5⟩) (c5 : PySem.W.codeIn K cd5 "_law_kind" = true) (k5 : PySem.W.keepIn K (.ref f5) = true)
    (a6 : PySem.W.nsIn K mainGlobals "_law_gap" = some (some (.ref f6))) (l6 : K.lookup f6 = some ⟨oc6, od6, .func (PySem.W.fnOf "_law_gap" "_law_gap" (defArgs s__law_gap) (defBody s__law_gap) (defScope s__law_gap) .none kV6 dc6 pm6 an6 cd6 ct6), sl6⟩) (c6 : PySem.W.codeIn K cd6 "_law_gap" = true) (k6 : PySem.W.keepIn K (.ref f6) = true)
    (a7 : PySem.W.nsIn K mainGlobals "_law_length" = some (some (.ref f7))) (l7 : K.lookup f7 = some ⟨oc7, od7, .func (PySem.W.fnOf "_law_length" "_law_length" (defArgs s__law_length) (defBody s__law_length) (defScope s__law_length) .none kV7 dc7 pm7 an7 cd7 ct7), sl7⟩) (c7 : PySem.W.codeIn K cd7 "_law_length" = true) (k7 : PySem.W.keepIn K (.ref f7) = true)
    (a8 : PySem.W.nsIn K mainGlobals "leads_of" = some (some (.ref f8))) (l8 : K.lookup f8 = some ⟨oc8, od8, .func (PySem.W.fnOf "leads_of" "leads_of" (defArgs s_leads_of) (defBody s_leads_of) (defScope s_leads_of) .none kV8 dc8 pm8 an8 cd8 ct8), sl8⟩) (c8 : PySem.W.codeIn K cd8 "leads_of" = true) (k8 : PySem.W.keepIn K (.ref f8) = true)
    (a9 : PySem.W.nsIn K mainGlobals "must_kind" = some (some (.ref f9))) (l9 : K.lookup f9 = some ⟨oc9, od9, .func (PySem.W.fnOf "must_kind" "must_kind" (defArgs s_must_kind) (defBody s_must_kind) (defScope s_must_kind) .none kV9 dc9 pm9 an9 cd9 ct9), sl9⟩) (c9 : PySem.W.codeIn K cd9 "must_kind" = true) (k9 : PySem.W.keepIn K (.ref f9) = true)
    (a10 : PySem.W.nsIn K mainGlobals "must_gap" = some (some (.ref f10))) (l10 : K.lookup f10 = some ⟨oc10, od10, .func (PySem.W.fnOf "must_gap" "must_gap" (defArgs s_must_gap) (defBody s_must_gap) (defScope s_must_gap) .none kV10 dc10 pm10 an10 cd10 ct10), sl10⟩) (c10 : PySem.W.codeIn K cd10 "must_gap" = true) (k10 : PySem.W.keepIn K (.ref f10) = true)
    (a11 : PySem.W.nsIn K mainGlobals "must_length" = some (some (.ref f11))) (l11 : K.lookup f11 = some ⟨oc11, od11, .func (PySem.W.fnOf "must_length" "must_length" (defArgs s_must_length) (defBody s_must_length) (defScope s_must_length) .none kV11 dc11 pm11 an11 cd11 ct11), sl11⟩) (c11 : PySem.W.codeIn K cd11 "must_length" = true) (k11 : PySem.W.keepIn K (.ref f11) = true)
    (a12 : PySem.W.nsIn K mainGlobals "must_ask" = some (some (.ref f12))) (l12 : K.lookup f12 = some ⟨oc12, od12, .func (PySem.W.fnOf "must_ask" "must_ask" (defArgs s_must_ask) (defBody s_must_ask) (defScope s_must_ask) .none kV12 dc12 pm12 an12 cd12 ct12), sl12⟩) (c12 : PySem.W.codeIn K cd12 "must_ask" = true) (k12 : PySem.W.keepIn K (.ref f12) = true)
    (a13 : PySem.W.nsIn K mainGlobals "stretch" = some (some (.ref f13))) (l13 : K.lookup f13 = some ⟨oc13, od13, .func (PySem.W.fnOf "stretch" "stretch" (defArgs s_stretch) (defBody s_stretch) (defScope s_stretch) .none kV13 dc13 pm13 an13 cd13 ct13), sl13⟩) (c13 : PySem.W.codeIn K cd13 "stretch" = true) (k13 : PySem.W.keepIn K (.ref f13) = true)
    (a14 : PySem.W.nsIn K mainGlobals "count_of" = some (some (.ref f14))) (l14 : K.lookup f14 = some ⟨oc14, od14, .func (PySem.W.fnOf "count_of" "count_of" (defArgs s_count_of) (defBody s_count_of) (defScope s_count_of) .none kV14 dc14 pm14 an14 cd14 ct14), sl14⟩) (c14 : PySem.W.codeIn K cd14 "count_of" = true) (k14 : PySem.W.keepIn K (.ref f14) = true)
    (a15 : PySem.W.nsIn K mainGlobals "stretches" = some (some (.ref f15))) (l15 : K.lookup f15 = some ⟨oc15, od15, .func (PySem.W.fnOf "stretches" "stretches" (defArgs s_stretches) (defBody s_stretches) (defScope s_stretches) .none kV15 dc15 pm15 an15 cd15 ct15), sl15⟩) (c15 : PySem.W.codeIn K cd15 "stretches" = true) (k15 : PySem.W.keepIn K (.ref f15) = true)
    (a16 : PySem.W.nsIn K mainGlobals "uneven" = some (some (.ref f16))) (l16 : K.lookup f16 = some ⟨oc16, od16, .func (PySem.W.fnOf "uneven" "uneven" (defArgs s_uneven) (defBody s_uneven) (defScope s_uneven) .none kV16 dc16 pm16 an16 cd16 ct16), sl16⟩) (c16 : PySem.W.codeIn K cd16 "uneven" = true) (k16 : PySem.W.keepIn K (.ref f16) = true)
    (a17 : PySem.W.nsIn K mainGlobals "divisor" = some (some (.ref f17))) (l17 : K.lookup f17 = some ⟨oc17, od17, .func (PySem.W.fnOf "divisor" "divisor" (defArgs s_divisor) (defBody s_divisor) (defScope s_divisor) .none kV17 dc17 pm17 an17 cd17 ct17), sl17⟩) (c17 : PySem.W.codeIn K cd17 "divisor" = true) (k17 : PySem.W.keepIn K (.ref f17) = true)
    (a18 : PySem.W.nsIn K mainGlobals "made" = some (some (.ref f18))) (l18 : K.lookup f18 = some ⟨oc18, od18, .func (PySem.W.fnOf "made" "made" (defArgs s_made) (defBody s_made) (defScope s_made) .none kV18 dc18 pm18 an18 cd18 ct18), sl18⟩) (c18 : PySem.W.codeIn K cd18 "made" = true) (k18 : PySem.W.keepIn K (.ref f18) = true)
    (a19 : PySem.W.nsIn K mainGlobals "shape_far" = some (some (.ref f19))) (l19 : K.lookup f19 = some ⟨oc19, od19, .func (PySem.W.fnOf "shape_far" "shape_far" (defArgs s_shape_far) (defBody s_shape_far) (defScope s_shape_far) .none kV19 dc19 pm19 an19 cd19 ct19), sl19⟩) (c19 : PySem.W.codeIn K cd19 "shape_far" = true) (k19 : PySem.W.keepIn K (.ref f19) = true)
    (a20 : PySem.W.nsIn K mainGlobals "plain_far" = some (some (.ref f20))) (l20 : K.lookup f20 = some ⟨oc20, od20, .func (PySem.W.fnOf "plain_far" "plain_far" (defArgs s_plain_far) (defBody s_plain_far) (defScope s_plain_far) .none kV20 dc20 pm20 an20 cd20 ct20), sl20⟩) (c20 : PySem.W.codeIn K cd20 "plain_far" = true) (k20 : PySem.W.keepIn K (.ref f20) = true)
    (a21 : PySem.W.nsIn K mainGlobals "moved_far" = some (some (.ref f21))) (l21 : K.lookup f21 = some ⟨oc21, od21, .func (PySem.W.fnOf "moved_far" "moved_far" (defArgs s_moved_far) (defBody s_moved_far) (defScope s_moved_far) .none kV21 dc21 pm21 an21 cd21 ct21), sl21⟩) (c21 : PySem.W.codeIn K cd21 "moved_far" = true) (k21 : PySem.W.keepIn K (.ref f21) = true)
    (a22 : PySem.W.nsIn K mainGlobals "far_told" = some (some (.ref f22))) (l22 : K.lookup f22 = some ⟨oc22, od22, .func (PySem.W.fnOf "far_told" "far_told" (defArgs s_far_told) (defBody s_far_told) (defScope s_far_told) .none kV22 dc22 pm22 an22 cd22 ct22), sl22⟩) (c22 : PySem.W.codeIn K cd22 "far_told" = true) (k22 : PySem.W.keepIn K (.ref f22) = true)
    (a23 : PySem.W.nsIn K mainGlobals "is_less" = some (some (.ref f23))) (l23 : K.lookup f23 = some ⟨oc23, od23, .func (PySem.W.fnOf "is_less" "is_less" (defArgs s_is_less) (defBody s_is_less) (defScope s_is_less) .none kV23 dc23 pm23 an23 cd23 ct23), sl23⟩) (c23 : PySem.W.codeIn K cd23 "is_less" = true) (k23 : PySem.W.keepIn K (.ref f23) = true)
    (a24 : PySem.W.nsIn K mainGlobals "place_of" = some (some (.ref f24))) (l24 : K.lookup f24 = some ⟨oc24, od24, .func (PySem.W.fnOf "place_of" "place_of" (defArgs s_place_of) (defBody s_place_of) (defScope s_place_of) .none kV24 dc24 pm24 an24 cd24 ct24), sl24⟩) (c24 : PySem.W.codeIn K cd24 "place_of" = true) (k24 : PySem.W.keepIn K (.ref f24) = true)
    (a25 : PySem.W.nsIn K mainGlobals "nexts" = some (some (.ref f25))) (l25 : K.lookup f25 = some ⟨oc25, od25, .func (PySem.W.fnOf "nexts" "nexts" (defArgs s_nexts) (defBody s_nexts) (defScope s_nexts) .none kV25 dc25 pm25 an25 cd25 ct25), sl25⟩) (c25 : PySem.W.codeIn K cd25 "nexts" = true) (k25 : PySem.W.keepIn K (.ref f25) = true)
    (a26 : PySem.W.nsIn K mainGlobals "chains" = some (some (.ref f26))) (l26 : K.lookup f26 = some ⟨oc26, od26, .func (PySem.W.fnOf "chains" "chains" (defArgs s_chains) (defBody s_chains) (defScope s_chains) .none kV26 dc26 pm26 an26 cd26 ct26), sl26⟩) (c26 : PySem.W.codeIn K cd26 "chains" = true) (k26 : PySem.W.keepIn K (.ref f26) = true)
    (a27 : PySem.W.nsIn K mainGlobals "_law_number" = some (some (.ref f27))) (l27 : K.lookup f27 = some ⟨oc27, od27, .func (PySem.W.fnOf "_law_number" "_law_number" (defArgs s__law_number) (defBody s__law_number) (defScope s__law_number) .none kV27 dc27 pm27 an27 cd27 ct27), sl27⟩) (c27 : PySem.W.codeIn K cd27 "_law_number" = true) (k27 : PySem.W.keepIn K (.ref f27) = true)
    (a28 : PySem.W.nsIn K mainGlobals "_law_row" = some (some (.ref f28))) (l28 : K.lookup f28 = some ⟨oc28, od28, .func (PySem.W.fnOf "_law_row" "_law_row" (defArgs s__law_row) (defBody s__law_row) (defScope s__law_row) .none kV28 dc28 pm28 an28 cd28 ct28), sl28⟩) (c28 : PySem.W.codeIn K cd28 "_law_row" = true) (k28 : PySem.W.keepIn K (.ref f28) = true)
    (a29 : PySem.W.nsIn K mainGlobals "_law_one" = some (some (.ref f29))) (l29 : K.lookup f29 = some ⟨oc29, od29, .func (PySem.W.fnOf "_law_one" "_law_one" (defArgs s__law_one) (defBody s__law_one) (defScope s__law_one) .none kV29 dc29 pm29 an29 cd29 ct29), sl29⟩) (c29 : PySem.W.codeIn K cd29 "_law_one" = true) (k29 : PySem.W.keepIn K (.ref f29) = true)
    (a30 : PySem.W.nsIn K mainGlobals "lots" = some (some (.ref f30))) (l30 : K.lookup f30 = some ⟨oc30, od30, .func (PySem.W.fnOf "lots" "lots" (defArgs s_lots) (defBody s_lots) (defScope s_lots) .none kV30 dc30 pm30 an30 cd30 ct30), sl30⟩) (c30 : PySem.W.codeIn K cd30 "lots" = true) (k30 : PySem.W.keepIn K (.ref f30) = true)
    (a31 : PySem.W.nsIn K mainGlobals "_law_less" = some (some (.ref f31))) (l31 : K.lookup f31 = some ⟨oc31, od31, .func (PySem.W.fnOf "_law_less" "_law_less" (defArgs s__law_less) (defBody s__law_less) (defScope s__law_less) .none kV31 dc31 pm31 an31 cd31 ct31), sl31⟩) (c31 : PySem.W.codeIn K cd31 "_law_less" = true) (k31 : PySem.W.keepIn K (.ref f31) = true)
    (a32 : PySem.W.nsIn K mainGlobals "must_place" = some (some (.ref f32))) (l32 : K.lookup f32 = some ⟨oc32, od32, .func (PySem.W.fnOf "must_place" "must_place" (defArgs s_must_place) (defBody s_must_place) (defScope s_must_place) .none kV32 dc32 pm32 an32 cd32 ct32), sl32⟩) (c32 : PySem.W.codeIn K cd32 "must_place" = true) (k32 : PySem.W.keepIn K (.ref f32) = true)
    (a33 : PySem.W.nsIn K mainGlobals "far" = some (some (.ref f33))) (l33 : K.lookup f33 = some ⟨oc33, od33, .func (PySem.W.fnOf "far" "far" (defArgs s_far) (defBody s_far) (defScope s_far) .none kV33 dc33 pm33 an33 cd33 ct33), sl33⟩) (c33 : PySem.W.codeIn K cd33 "far" = true) (k33 : PySem.W.keepIn K (.ref f33) = true)
    (a34 : PySem.W.nsIn K mainGlobals "_law_within" = some (some (.ref f34))) (l34 : K.lookup f34 = some ⟨oc34, od34, .func (PySem.W.fnOf "_law_within" "_law_within" (defArgs s__law_within) (defBody s__law_within) (defScope s__law_within) .none kV34 dc34 pm34 an34 cd34 ct34), sl34⟩) (c34 : PySem.W.codeIn K cd34 "_law_within" = true) (k34 : PySem.W.keepIn K (.ref f34) = true)
    (a35 : PySem.W.nsIn K mainGlobals "_law_together" = some (some (.ref f35))) (l35 : K.lookup f35 = some ⟨oc35, od35, .func (PySem.W.fnOf "_law_together" "_law_together" (defArgs s__law_together) (defBody s__law_together) (defScope s__law_together) .none kV35 dc35 pm35 an35 cd35 ct35), sl35⟩) (c35 : PySem.W.codeIn K cd35 "_law_together" = true) (k35 : PySem.W.keepIn K (.ref f35) = true)
    (a36 : PySem.W.nsIn K mainGlobals "_law_fine" = some (some (.ref f36))) (l36 : K.lookup f36 = some ⟨oc36, od36, .func (PySem.W.fnOf "_law_fine" "_law_fine" (defArgs s__law_fine) (defBody s__law_fine) (defScope s__law_fine) .none kV36 dc36 pm36 an36 cd36 ct36), sl36⟩) (c36 : PySem.W.codeIn K cd36 "_law_fine" = true) (k36 : PySem.W.keepIn K (.ref f36) = true)
    (a37 : PySem.W.nsIn K mainGlobals "law" = some (some (.ref f37))) (l37 : K.lookup f37 = some ⟨oc37, od37, .func (PySem.W.fnOf "law" "law" (defArgs s_law) (defBody s_law) (defScope s_law) .none kV37 dc37 pm37 an37 cd37 ct37), sl37⟩) (c37 : PySem.W.codeIn K cd37 "law" = true) (k37 : PySem.W.keepIn K (.ref f37) = true)
    (zz_len : PySem.W.nsIn K mainGlobals "len" = some none)
    (zz_max : PySem.W.nsIn K mainGlobals "max" = some none)
    (zz_int : PySem.W.nsIn K mainGlobals "int" = some none)
    (zz_range : PySem.W.nsIn K mainGlobals "range" = some none)
    (zz_min : PySem.W.nsIn K mainGlobals "min" = some none)
    (zz_enumerate : PySem.W.nsIn K mainGlobals "enumerate" = some none)
    (zz_sum : PySem.W.nsIn K mainGlobals "sum" = some none)
    (zz_abs : PySem.W.nsIn K mainGlobals "abs" = some none)
    (zz_zip : PySem.W.nsIn K mainGlobals "zip" = some none)
    (zz_list : PySem.W.nsIn K mainGlobals "list" = some none)
    (zz_sorted : PySem.W.nsIn K mainGlobals "sorted" = some none)
    (ga1_KINDS : PySem.W.nsIn K mainGlobals "KINDS" = some (some (.ref ga_KINDS))) (ga2_KINDS : K.lookup ga_KINDS = some ⟨.type "tuple", gd_KINDS, .seq #[.str "plain" tKINDS0, .str "moved" tKINDS1, .str "shape" tKINDS2] gn_KINDS, gs_KINDS⟩)
    (ga1_MOST_GAP : PySem.W.nsIn K mainGlobals "MOST_GAP" = some (some (.int 200 gt_MOST_GAP)))
    (ga1_MOST_LENGTH : PySem.W.nsIn K mainGlobals "MOST_LENGTH" = some (some (.int 40 gt_MOST_LENGTH))) :
    ∃ fd : FuncData, (∀ (s : Shared) (v : Value), BindsTo s fd ⟨[v], []⟩ [("_law_script", v)]) ∧ ∀ base : Heap, K.In base → base.Ns mainGlobals mg → FnOk l.prog w K mg base CX0 8 fa fd ["_law_script"] (spD K f_law 1) := by
  have e := hfa.symm.trans (PySem.W.mg_of X G a37)
  cases e
  have z_len := PySem.W.mg_none_of X G zz_len
  have z_max := PySem.W.mg_none_of X G zz_max
  have z_int := PySem.W.mg_none_of X G zz_int
  have z_range := PySem.W.mg_none_of X G zz_range
  have z_min := PySem.W.mg_none_of X G zz_min
  have z_enumerate := PySem.W.mg_none_of X G zz_enumerate
  have z_sum := PySem.W.mg_none_of X G zz_sum
  have z_abs := PySem.W.mg_none_of X G zz_abs
  have z_zip := PySem.W.mg_none_of X G zz_zip
  have z_list := PySem.W.mg_none_of X G zz_list
  have z_sorted := PySem.W.mg_none_of X G zz_sorted
  have q_KINDS : ∀ G, Rv K G (.ref ga_KINDS) v_KINDS := fun G => .tup (xs := [.str "plain", .str "moved", .str "shape"]) (.inr ⟨_, _, _, ga2_KINDS, rfl, rfl, by show 3 ≤ sizeLine; decide, .cons ⟨_, rfl⟩ (.cons ⟨_, rfl⟩ (.cons ⟨_, rfl⟩ (.nil)))⟩) (.cons (.str _) (.cons (.str _) (.cons (.str _) (.nil))))
  have m_KINDS := PySem.W.mg_of X G ga1_KINDS
  have r_KINDS : RelV (.ref ga_KINDS) (.ref ga_KINDS) := rfl
  have q_MOST_GAP : ∀ G, Rv K G (.int 200) v_MOST_GAP := fun G => .int _
  have m_MOST_GAP := PySem.W.mg_of X G ga1_MOST_GAP
  have r_MOST_GAP : RelV (.int 200) (.int 200 gt_MOST_GAP) := ⟨_, rfl⟩
  have q_MOST_LENGTH : ∀ G, Rv K G (.int 40) v_MOST_LENGTH := fun G => .int _
  have m_MOST_LENGTH := PySem.W.mg_of X G ga1_MOST_LENGTH
  have r_MOST_LENGTH : RelV (.int 40) (.int 40 gt_MOST_LENGTH) := ⟨_, rfl⟩
  have F1 := fun_mk (st := s__law_at) l1 c1 k1
  have b1 := F1.binds (ps := ["_law_script", "_law_k"]) fun _ _ _ _ _ _ us hl => match us, hl with | [_, _], _ => rfl
  have F2 := fun_mk (st := s__law_purse) l2 c2 k2
  have b2 := F2.binds (ps := ["_law_script", "_law_at_here"]) fun _ _ _ _ _ _ us hl => match us, hl with | [_, _], _ => rfl
  have F3 := fun_mk (st := s__law_mixed) l3 c3 k3
  have b3 := F3.binds (ps := ["_law_cell", "_law_k"]) fun _ _ _ _ _ _ us hl => match us, hl with | [_, _], _ => rfl
  have F4 := fun_mk (st := s__law_draw) l4 c4 k4
  have b4 := F4.binds (ps := ["_law_purse_here", "_law_out_of"]) fun _ _ _ _ _ _ us hl => match us, hl with | [_, _], _ => rfl
  have F5 := fun_mk (st := s__law_kind) l5 c5 k5
  have b5 := F5.binds (ps := ["_law_purse_here"]) fun _ _ _ _ _ _ us hl => match us, hl with | [_], _ => rfl
  have F6 := fun_mk (st := s__law_gap) l6 c6 k6
  have b6 := F6.binds (ps := ["_law_purse_here", "_law_row_here"]) fun _ _ _ _ _ _ us hl => match us, hl with | [_, _], _ => rfl
  have F7 := fun_mk (st := s__law_length) l7 c7 k7
  have b7 := F7.binds (ps := ["_law_purse_here", "_law_row_here"]) fun _ _ _ _ _ _ us hl => match us, hl with | [_, _], _ => rfl
  have F8 := fun_mk (st := s_leads_of) l8 c8 k8
  have b8 := F8.binds (ps := ["rows"]) fun _ _ _ _ _ _ us hl => match us, hl with | [_], _ => rfl
  have F9 := fun_mk (st := s_must_kind) l9 c9 k9
  have b9 := F9.binds (ps := ["kind"]) fun _ _ _ _ _ _ us hl => match us, hl with | [_], _ => rfl
  have F10 := fun_mk (st := s_must_gap) l10 c10 k10
  have b10 := F10.binds (ps := ["gap"]) fun _ _ _ _ _ _ us hl => match us, hl with | [_], _ => rfl
  have F11 := fun_mk (st := s_must_length) l11 c11 k11
  have b11 := F11.binds (ps := ["length"]) fun _ _ _ _ _ _ us hl => match us, hl with | [_], _ => rfl
  have F12 := fun_mk (st := s_must_ask) l12 c12 k12
  have b12 := F12.binds (ps := ["kind", "gap", "length"]) fun _ _ _ _ _ _ us hl => match us, hl with | [_, _, _], _ => rfl
  have F13 := fun_mk (st := s_stretch) l13 c13 k13
  have b13 := F13.binds (ps := ["row", "length", "place"]) fun _ _ _ _ _ _ us hl => match us, hl with | [_, _, _], _ => rfl
  have F14 := fun_mk (st := s_count_of) l14 c14 k14
  have b14 := F14.binds (ps := ["row", "length"]) fun _ _ _ _ _ _ us hl => match us, hl with | [_, _], _ => rfl
  have F15 := fun_mk (st := s_stretches) l15 c15 k15
  have b15 := F15.binds (ps := ["row", "length"]) fun _ _ _ _ _ _ us hl => match us, hl with | [_, _], _ => rfl
  have F16 := fun_mk (st := s_uneven) l16 c16 k16
  have b16 := F16.binds (ps := ["numbers"]) fun _ _ _ _ _ _ us hl => match us, hl with | [_], _ => rfl
  have F17 := fun_mk (st := s_divisor) l17 c17 k17
  have b17 := F17.binds (ps := ["one", "other"]) fun _ _ _ _ _ _ us hl => match us, hl with | [_, _], _ => rfl
  have F18 := fun_mk (st := s_made) l18 c18 k18
  have b18 := F18.binds (ps := ["top", "bottom"]) fun _ _ _ _ _ _ us hl => match us, hl with | [_, _], _ => rfl
  have F19 := fun_mk (st := s_shape_far) l19 c19 k19
  have b19 := F19.binds (ps := ["one", "other"]) fun _ _ _ _ _ _ us hl => match us, hl with | [_, _], _ => rfl
  have F20 := fun_mk (st := s_plain_far) l20 c20 k20
  have b20 := F20.binds (ps := ["one", "other"]) fun _ _ _ _ _ _ us hl => match us, hl with | [_, _], _ => rfl
  have F21 := fun_mk (st := s_moved_far) l21 c21 k21
  have b21 := F21.binds (ps := ["one", "other"]) fun _ _ _ _ _ _ us hl => match us, hl with | [_, _], _ => rfl
  have F22 := fun_mk (st := s_far_told) l22 c22 k22
  have b22 := F22.binds (ps := ["kind", "one", "other"]) fun _ _ _ _ _ _ us hl => match us, hl with | [_, _, _], _ => rfl
  have F23 := fun_mk (st := s_is_less) l23 c23 k23
  have b23 := F23.binds (ps := ["one", "other"]) fun _ _ _ _ _ _ us hl => match us, hl with | [_, _], _ => rfl
  have F24 := fun_mk (st := s_place_of) l24 c24 k24
  have b24 := F24.binds (ps := ["some", "kind", "here", "places"]) fun _ _ _ _ _ _ us hl => match us, hl with | [_, _, _, _], _ => rfl
  have F25 := fun_mk (st := s_nexts) l25 c25 k25
  have b25 := F25.binds (ps := ["row", "kind", "gap", "length"]) fun _ _ _ _ _ _ us hl => match us, hl with | [_, _, _, _], _ => rfl
  have F26 := fun_mk (st := s_chains) l26 c26 k26
  have b26 := F26.binds (ps := ["row", "kind", "gap", "length"]) fun _ _ _ _ _ _ us hl => match us, hl with | [_, _, _, _], _ => rfl
  have F27 := fun_mk (st := s__law_number) l27 c27 k27
  have b27 := F27.binds (ps := ["_law_purse_here", "_law_way"]) fun _ _ _ _ _ _ us hl => match us, hl with | [_, _], _ => rfl
  have F28 := fun_mk (st := s__law_row) l28 c28 k28
  have b28 := F28.binds (ps := ["_law_purse_here", "_law_most"]) fun _ _ _ _ _ _ us hl => match us, hl with | [_, _], _ => rfl
  have F29 := fun_mk (st := s__law_one) l29 c29 k29
  have b29 := F29.binds (ps := ["_law_purse_here"]) fun _ _ _ _ _ _ us hl => match us, hl with | [_], _ => rfl
  have F30 := fun_mk (st := s_lots) l30 c30 k30
  have b30 := F30.binds (ps := ["row", "kind", "gap", "length", "fraction"]) fun _ _ _ _ _ _ us hl => match us, hl with | [_, _, _, _, _], _ => rfl
  have F31 := fun_mk (st := s__law_less) l31 c31 k31
  have b31 := F31.binds (ps := ["_law_one_here", "_law_other"]) fun _ _ _ _ _ _ us hl => match us, hl with | [_, _], _ => rfl
  have F32 := fun_mk (st := s_must_place) l32 c32 k32
  have b32 := F32.binds (ps := ["row", "length", "place"]) fun _ _ _ _ _ _ us hl => match us, hl with | [_, _, _], _ => rfl
  have F33 := fun_mk (st := s_far) l33 c33 k33
  have b33 := F33.binds (ps := ["row", "kind", "length", "p", "q"]) fun _ _ _ _ _ _ us hl => match us, hl with | [_, _, _, _, _], _ => rfl
  have F34 := fun_mk (st := s__law_within) l34 c34 k34
  have b34 := F34.binds (ps := ["_law_finer", "_law_coarser"]) fun _ _ _ _ _ _ us hl => match us, hl with | [_, _], _ => rfl
  have F35 := fun_mk (st := s__law_together) l35 c35 k35
  have b35 := F35.binds (ps := ["_law_told", "_law_fars", "_law_gap_here", "_law_mark"]) fun _ _ _ _ _ _ us hl => match us, hl with | [_, _, _, _], _ => rfl
  have F36 := fun_mk (st := s__law_fine) l36 c36 k36
  have b36 := F36.binds (ps := ["_law_told", "_law_fars", "_law_many", "_law_gap_here", "_law_mark"]) fun _ _ _ _ _ _ us hl => match us, hl with | [_, _, _, _, _], _ => rfl
  have F37 := fun_mk (st := s_law) l37 c37 k37
  refine ⟨PySem.W.fnOf "law" "law" (defArgs s_law) (defBody s_law) (defScope s_law) .none kV37 dc37 pm37 an37 cd37 ct37, fun s v => .of_eq rfl, fun base _ _ => ?_⟩
  have h__law_at : Has l.prog w K mg base "_law_at" 1 2 f__law_at := ⟨_, _, _, ok__law_at F1 z_len, PySem.W.mg_of X G a1, k1, b1⟩
  have h__law_purse : Has l.prog w K mg base "_law_purse" 2 2 f__law_purse := ⟨_, _, _, ok__law_purse F2 h__law_at z_max, PySem.W.mg_of X G a2, k2, b2⟩
  have h__law_mixed : Has l.prog w K mg base "_law_mixed" 1 2 f__law_mixed := ⟨_, _, _, ok__law_mixed F3 , PySem.W.mg_of X G a3, k3, b3⟩
  have h__law_draw : Has l.prog w K mg base "_law_draw" 2 2 f__law_draw := ⟨_, _, _, ok__law_draw F4 h__law_mixed z_int z_range, PySem.W.mg_of X G a4, k4, b4⟩
  have h__law_kind : Has l.prog w K mg base "_law_kind" 3 1 f__law_kind := ⟨_, _, _, ok__law_kind F5 h__law_draw, PySem.W.mg_of X G a5, k5, b5⟩
  have h__law_gap : Has l.prog w K mg base "_law_gap" 3 2 f__law_gap := ⟨_, _, _, ok__law_gap F6 h__law_draw z_len z_max, PySem.W.mg_of X G a6, k6, b6⟩
  have h__law_length : Has l.prog w K mg base "_law_length" 3 2 f__law_length := ⟨_, _, _, ok__law_length F7 h__law_draw z_len z_min z_max, PySem.W.mg_of X G a7, k7, b7⟩
  have h_leads_of : Has l.prog w K mg base "leads_of" 1 1 f_leads_of := ⟨_, _, _, ok_leads_of F8 z_enumerate, PySem.W.mg_of X G a8, k8, b8⟩
  have h_must_kind : Has l.prog w K mg base "must_kind" 1 1 f_must_kind := ⟨_, _, _, ok_must_kind F9 m_KINDS r_KINDS q_KINDS, PySem.W.mg_of X G a9, k9, b9⟩
  have h_must_gap : Has l.prog w K mg base "must_gap" 1 1 f_must_gap := ⟨_, _, _, ok_must_gap F10 m_MOST_GAP r_MOST_GAP q_MOST_GAP, PySem.W.mg_of X G a10, k10, b10⟩
  have h_must_length : Has l.prog w K mg base "must_length" 1 1 f_must_length := ⟨_, _, _, ok_must_length F11 m_MOST_LENGTH r_MOST_LENGTH q_MOST_LENGTH, PySem.W.mg_of X G a11, k11, b11⟩
  have h_must_ask : Has l.prog w K mg base "must_ask" 2 3 f_must_ask := ⟨_, _, _, ok_must_ask F12 h_must_kind h_must_gap h_must_length, PySem.W.mg_of X G a12, k12, b12⟩
  have h_stretch : Has l.prog w K mg base "stretch" 1 3 f_stretch := ⟨_, _, _, ok_stretch F13 , PySem.W.mg_of X G a13, k13, b13⟩
  have h_count_of : Has l.prog w K mg base "count_of" 1 2 f_count_of := ⟨_, _, _, ok_count_of F14 z_len z_max, PySem.W.mg_of X G a14, k14, b14⟩
  have h_stretches : Has l.prog w K mg base "stretches" 2 2 f_stretches := ⟨_, _, _, ok_stretches F15 h_count_of h_stretch z_range, PySem.W.mg_of X G a15, k15, b15⟩
  have h_uneven : Has l.prog w K mg base "uneven" 1 1 f_uneven := ⟨_, _, _, ok_uneven F16 z_sum z_len, PySem.W.mg_of X G a16, k16, b16⟩
  have h_divisor : Has l.prog w K mg base "divisor" 1 2 f_divisor := ⟨_, _, _, ok_divisor F17 z_abs, PySem.W.mg_of X G a17, k17, b17⟩
  have h_made : Has l.prog w K mg base "made" 2 2 f_made := ⟨_, _, _, ok_made F18 h_divisor, PySem.W.mg_of X G a18, k18, b18⟩
  have h_shape_far : Has l.prog w K mg base "shape_far" 3 2 f_shape_far := ⟨_, _, _, ok_shape_far F19 h_uneven h_made z_int z_len z_zip z_sum z_abs, PySem.W.mg_of X G a19, k19, b19⟩
  have h_plain_far : Has l.prog w K mg base "plain_far" 3 2 f_plain_far := ⟨_, _, _, ok_plain_far F20 h_made z_len z_zip z_sum, PySem.W.mg_of X G a20, k20, b20⟩
  have h_moved_far : Has l.prog w K mg base "moved_far" 3 2 f_moved_far := ⟨_, _, _, ok_moved_far F21 h_made h_uneven z_len z_zip, PySem.W.mg_of X G a21, k21, b21⟩
  have h_far_told : Has l.prog w K mg base "far_told" 4 3 f_far_told := ⟨_, _, _, ok_far_told F22 h_plain_far h_moved_far h_shape_far, PySem.W.mg_of X G a22, k22, b22⟩
  have h_is_less : Has l.prog w K mg base "is_less" 1 2 f_is_less := ⟨_, _, _, ok_is_less F23 , PySem.W.mg_of X G a23, k23, b23⟩
  have h_place_of : Has l.prog w K mg base "place_of" 5 4 f_place_of := ⟨_, _, _, ok_place_of F24 h_far_told h_is_less, PySem.W.mg_of X G a24, k24, b24⟩
  have h_nexts : Has l.prog w K mg base "nexts" 6 4 f_nexts := ⟨_, _, _, ok_nexts F25 h_must_ask h_stretches h_place_of z_len z_list z_range z_max z_enumerate, PySem.W.mg_of X G a25, k25, b25⟩
  have h_chains : Has l.prog w K mg base "chains" 7 4 f_chains := ⟨_, _, _, ok_chains F26 h_leads_of h_nexts z_enumerate, PySem.W.mg_of X G a26, k26, b26⟩
  have h__law_number : Has l.prog w K mg base "_law_number" 3 2 f__law_number := ⟨_, _, _, ok__law_number F27 h__law_draw, PySem.W.mg_of X G a27, k27, b27⟩
  have h__law_row : Has l.prog w K mg base "_law_row" 4 2 f__law_row := ⟨_, _, _, ok__law_row F28 h__law_draw h__law_number z_abs z_int z_range, PySem.W.mg_of X G a28, k28, b28⟩
  have h__law_one : Has l.prog w K mg base "_law_one" 5 1 f__law_one := ⟨_, _, _, ok__law_one F29 h__law_row h__law_draw, PySem.W.mg_of X G a29, k29, b29⟩
  have h_lots : Has l.prog w K mg base "lots" 5 5 f_lots := ⟨_, _, _, ok_lots F30 h_must_ask h_stretches h_is_less h_far_told z_len z_list z_range z_abs z_sorted, PySem.W.mg_of X G a30, k30, b30⟩
  have h__law_less : Has l.prog w K mg base "_law_less" 1 2 f__law_less := ⟨_, _, _, ok__law_less F31 , PySem.W.mg_of X G a31, k31, b31⟩
  have h_must_place : Has l.prog w K mg base "must_place" 2 3 f_must_place := ⟨_, _, _, ok_must_place F32 h_count_of, PySem.W.mg_of X G a32, k32, b32⟩
  have h_far : Has l.prog w K mg base "far" 5 5 f_far := ⟨_, _, _, ok_far F33 h_must_kind h_must_length h_must_place h_far_told h_stretch, PySem.W.mg_of X G a33, k33, b33⟩
  have h__law_within : Has l.prog w K mg base "_law_within" 1 2 f__law_within := ⟨_, _, _, ok__law_within F34 z_len, PySem.W.mg_of X G a34, k34, b34⟩
  have h__law_together : Has l.prog w K mg base "_law_together" 2 4 f__law_together := ⟨_, _, _, ok__law_together F35 h__law_less z_abs z_len z_sorted, PySem.W.mg_of X G a35, k35, b35⟩
  have h__law_fine : Has l.prog w K mg base "_law_fine" 3 5 f__law_fine := ⟨_, _, _, ok__law_fine F36 h__law_less h__law_together z_enumerate z_sorted z_list z_range z_abs, PySem.W.mg_of X G a36, k36, b36⟩
  exact ok_law F37 h__law_purse h__law_one h__law_kind h__law_gap h__law_length h_far h_lots h__law_draw h__law_less h__law_fine h__law_within h_chains z_len z_max z_range z_int z_zip
end Lk70
end PWk70
section PMk70
set_option linter.all false
set_option maxHeartbeats 4000000
set_option maxRecDepth 100000
namespace Lk70
open Rw
open PySem (Str)
/-! ### lots, told exactly: both askings tell the same -/
def srtN (fr : List Nat) : List Nat := fr.mergeSort fun a b => decide (a ≤ b)
theorem srtN_len {fr : List Nat} : (srtN fr).length = fr.length := by simp [srtN]
theorem srtN_mem {fr : List Nat} {x : Nat} : x ∈ srtN fr ↔ x ∈ fr := by simp [srtN]
theorem srt_map {fr : List Nat} : (fr.map fun q : Nat => (q : Int)).mergeSort (fun a b => decide (a ≤ b)) = (srtN fr).map fun q : Nat => (q : Int) := by
  unfold srtN
  rw [List.map_mergeSort]
  intro a _ b _
  simp
theorem srt_eq {M : DSt} {fr : List Nat} : oSorted false [.d (.lst (natsD fr))] M = some (.d (.lst (natsD (srtN fr))), M) := by
  simp [oSorted, lv, ints_nats, mkL, srt_map]
  simp [natsD]
def inQ (g : Nat → Nat → Bool) : Nat → List Nat → List Nat → Nat → List Nat × List Nat
  | 0, lt, lf, _ => (lt, lf)
  | m + 1, lt, lf, a => match lt[a]? with
    | some p => inQ g m (lt ++ lf.filter (g p)) (lf.filter fun q => !(lf.filter (g p)).contains q) (a + 1)
    | none => (lt, lf)
theorem inQ_s {g : Nat → Nat → Bool} {m a p : Nat} {lt lf : List Nat} (h : lt[a]? = some p) : inQ g (m + 1) lt lf a = inQ g m (lt ++ lf.filter (g p)) (lf.filter fun q => !(lf.filter (g p)).contains q) (a + 1) := by
  simp only [inQ, h]
theorem inQ_e {g : Nat → Nat → Bool} {m a : Nat} {lt lf : List Nat} (h : lt.length ≤ a) : inQ g m lt lf a = (lt, lf) := by
  cases m with
  | zero => rfl
  | succ m =>
    have : lt[a]? = none := List.getElem?_eq_none h
    simp only [inQ, this]
inductive LoR (g : Nat → Nat → Bool) : List Nat → List D → Prop
  | nil : LoR g [] []
  | cons {p lf lt lf' fs} : inQ g (lf.length + 1) [p] lf 0 = (lt, lf') → LoR g lf' fs → LoR g (p :: lf) (.lst (natsD (srtN lt)) :: fs)
theorem LoR.det {g : Nat → Nat → Bool} {l : List Nat} {a b : List D} (h : LoR g l a) : LoR g l b → a = b := by
  intro h2
  induction h generalizing b with
  | nil => cases h2; rfl
  | cons e _ ih =>
    cases h2 with
    | cons e2 h3 =>
      rw [e] at e2
      cases e2
      rw [ih h3]
def Ls (N : Nat) (fs : List D) : Prop := fs.length ≤ N ∧ ∀ x ∈ fs, ∃ ys : List Nat, x = .lst (natsD ys) ∧ ys.length ≤ N ∧ ∀ y ∈ ys, y < N
def LoI3 (g : Nat → Nat → Bool) (M : DSt) (N : Nat) (env : Nat → DEnv) (m : Nat) (ρ : DEnv) (M1 : DSt) : Prop := ∃ (fs : List D) (lf : List Nat) (c : Nat), Top M.length M M.length fs M1 ∧ (fs.length + lf.length ≤ N ∧ (∀ x ∈ fs, ∃ ys : List Nat, x = .lst (natsD ys) ∧ ys.length ≤ N ∧ ∀ y ∈ ys, y < N) ∧ ∀ rest, LoR g lf rest → LoR g (List.range N) (fs ++ rest)) ∧ M.length < c ∧ M1[c]? = some (some (natsD lf)) ∧ (∀ q ∈ lf, q < N) ∧ m = lf.length ∧ ρ = env c
def LoJ3 (g : Nat → Nat → Bool) (R : List Nat × List Nat) (M : DSt) (N T : Nat) (fs : List D) (env : Nat → List Nat → Nat → DEnv) (m : Nat) (ρ : DEnv) (M1 : DSt) : Prop := ∃ (lt lf : List Nat) (at' c : Nat), Top M.length M M.length fs M1 ∧ M.length < c ∧ M1[c]? = some (some (natsD lf)) ∧ (∀ q ∈ lf, q < N) ∧ (∀ q ∈ lt, q < N) ∧ (at' ≤ lt.length ∧ inQ g m lt lf at' = R) ∧ lt.length + lf.length = T ∧ 1 ≤ lt.length ∧ m + at' = T ∧ ρ = env c lt at'
theorem lotsF_ok {M : DSt} {l : Nat} {xs : List Int} {gap : Nat} {mk : Int × Int} (half : Bn 47 mk.1 ∧ Bn 47 mk.2) (kd : Kd) (hx : Row 9 xs) (l0 : 1 ≤ l) (l1 : l ≤ 40) (g0 : 1 ≤ gap) (g1 : gap ≤ 200) :
    Ok (f_lots [.d (rowD xs), .d kd.s, .d (.int gap), .d (.int l), .d (frD mk)] M) fun r => ∃ fs, LoR (nearM mk kd (stretchesZ xs l) gap) (List.range (stretchesZ xs l).length) fs ∧ Ls (stretchesZ xs l).length fs ∧ r = (.c M.length, M ++ [some fs]) := by
  unfold f_lots
  rw [ok_fn]
  have e1 := fun M => must_ask_eq (M := M) kd g0 g1 l0 l1
  have e2 := fun M => stretches_eq (M := M) (xs := xs) (l := l) (by omega) hx.2
  have hs : ∀ s ∈ stretchesZ xs l, Row 9 s ∧ s.length = l := by
    intro s hs
    obtain ⟨p, hp, rfl⟩ := List.mem_map.mp hs
    have := List.mem_range.mp hp
    exact ⟨cutZ_rw hx, cutZ_len (by omega)⟩
  have hn := (stretches_fine hx (show 0 < l by omega)).2
  generalize stretchesZ xs l = ss at *
  simp only [b_lots, startD]
  simp [↓okE (e1 _), -seqP_nx]
  refine seqP_nx.mpr ?_
  simp [-seqP_nx, ↓okE (e2 _)]
  refine seqP_nx.mpr ?_
  simp [-seqP_nx, rowsD_len]
  refine seqP_nx.mpr ?_
  simp [-seqP_nx, rowsD_len]
  have o1 : ∀ M, oListR1 true [.d (.int ss.length)] M = some (.c M.length, M ++ [some (natsD (List.range ss.length))]) := by
    intro M
    simp only [oListR1]
    rw [grd_ok (by omega), ← rng0_nats]
    simp [mkL]
  simp [-seqP_nx, ↓okE (o1 _)]
  refine seqP_nx.mpr ?_
  rw [ok_seq]
  refine while_by (LoI3 (nearM mk kd ss gap) M ss.length fun c => [some (.d (rowD xs)), some (.d kd.s), some (.d (.int gap)), some (.d (.int l)), some (.d (frD mk)), some (.d (.lst (rowsD ss))), some (.c M.length), some (.c c), none, none, none, none, none]) ss.length ⟨[], List.range ss.length, M.length + 1, ⟨by simp, by simp, Nat.le_refl _, by simp⟩, ⟨by simp, by simp, fun rest h => h⟩, by omega, by simp, fun q hq => List.mem_range.mp hq, by simp, by simp⟩ ?_
  rintro m ρ M1 ⟨fs, lf, c, tp, ⟨hT, fs8, fsR⟩, hc0, hc, hlf, rfl, rfl⟩
  cases lf with
  | nil =>
    simp [celOk hc, natsD]
    exact (ok_finC (Nat.le_refl _) tp.1).mpr ⟨fs, by simpa using fsR [] .nil, ⟨by omega, fs8⟩, by rw [tp.2.1]⟩
  | cons p lf =>
    have hl1 : (0 : Int) < ((natsD (p :: lf)).length : Int) := by simp [natsD]
    have hc' : M1[c]? = some (some (.int p :: natsD lf)) := hc
    have hcl : c < M1.length := (List.getElem?_eq_some_iff.mp hc).1
    simp only [List.length_cons] at hT
    have hne : M.length ≠ c := by omega
    simp [celOk hc, hl1, ↓pop0 hc', -seqP_nx, -ok_seq]
    rw [ok_seq]
    simp [-seqP_nx, -ok_seq, ↓pop0 hc']
    refine seqP_nx.mpr ?_
    rw [ok_seq]
    simp [-seqP_nx, -ok_seq]
    refine seqP_nx.mpr ?_
    simp [-seqP_nx, -ok_seq]
    rw [ok_seq]
    have tp2 : Top M.length M M.length fs (M1.set c (some (natsD lf))) := ⟨by rw [List.getElem?_set_ne (by omega)]; exact tp.1, by rw [List.take_set_of_le (by omega)]; exact tp.2.1, Nat.le_refl _, by simpa using tp.2.2.2⟩
    have hc2 : (M1.set c (some (natsD lf)))[c]? = some (some (natsD lf)) := by rw [List.getElem?_set_self hcl]
    generalize M1.set c (some (natsD lf)) = M2 at *
    refine while_by (LoJ3 (nearM mk kd ss gap) (inQ (nearM mk kd ss gap) (lf.length + 1) [p] lf 0) M ss.length (lf.length + 1) fs fun c lt a => [some (.d (rowD xs)), some (.d kd.s), some (.d (.int gap)), some (.d (.int l)), some (.d (frD mk)), some (.d (.lst (rowsD ss))), some (.c M.length), some (.c c), some (.d (.lst (natsD lt))), some (.d (.int a)), none, none, none]) (lf.length + 1) ⟨[p], lf, 0, c, tp2, hc0, hc2, fun q hq => hlf q (by simp [hq]), fun q hq => hlf q (by simp at hq; simp [hq]), ⟨by simp, rfl⟩, by simp; omega, by simp, by omega, by simp [natsD]⟩ ?_
    rintro m ρ M3 ⟨lt, lf2, a, c2, tp3, hcc, hc3, h1, h2, ⟨h3, hin⟩, h4, h5, h6, rfl⟩
    have hlen : ((natsD lt).length : Int) = (lt.length : Int) := by simp [natsD]
    by_cases ha : a < lt.length
    · have ha' : (a : Int) < (lt.length : Int) := by omega
      obtain ⟨p1, ep⟩ : ∃ p1, lt[a]? = some p1 := ⟨lt[a], List.getElem?_eq_getElem ha⟩
      have hp1 := h2 p1 (List.mem_of_getElem? ep)
      have ea : (natsD lt)[a]? = some (.int (p1 : Int)) := by simp [natsD, ep]
      simp [hlen, ha', -seqP_nx, -ok_seq]
      rw [ok_seq]
      simp [-seqP_nx, -ok_seq, ok_atN ea]
      refine seqP_nx.mpr ?_
      rw [ok_seq]
      simp [-seqP_nx, -ok_seq]
      rw [hc3]
      have hL : (natsD lf2).length ≤ 1000000 := by simp [natsD]; omega
      have hN : natsD lf2 = lf2.map fun q : Nat => D.int q := rfl
      rw [show (some (some (natsD lf2))).join = some (natsD lf2) from rfl, ok_some]
      refine ⟨hL, ?_⟩
      have ep1 := rowsD_at hp1
      have rp1 := hs _ (getD_mem hp1)
      rw [hN]
      refine comp_fm (fun q => if nearM mk kd ss gap p1 q then some (.int q) else none) (by simp [stand]) ?_ ?_
      · intro q hq
        have hq0 := h1 q hq
        have eq1 := rowsD_at hq0
        have rq := hs _ (getD_mem hq0)
        have fe := fun M => far_told_eq (M := M) kd rp1.1 rq.1 (by decide) (by omega)
        have fb := farZ_bn kd rp1.1 rq.1
        have le := fun M => is_less_eq (M := M) half fb (by omega)
        have hab : ((gap : Int) ≤ if (q : Int) - (p1 : Int) < 0 then -((q : Int) - (p1 : Int)) else (q : Int) - (p1 : Int)) ↔ apartB gap p1 q = true := by
          unfold apartB
          simp only [decide_eq_true_eq]
          split <;> omega
        by_cases hA : apartB gap p1 q = true
        · have hA' := hab.mpr hA
          cases hl : lessZ mk (farZ kd (nthZ ss p1) (nthZ ss q)) <;> simp [hA', hA, nearM, hl, ok_atN ep1, ok_atN eq1, rowD, ↓okE (fe _), ↓okE (le _)]
        · have hA' : ¬ ((gap : Int) ≤ if (q : Int) - (p1 : Int) < 0 then -((q : Int) - (p1 : Int)) else (q : Int) - (p1 : Int)) := fun h => hA (hab.mp h)
          simp [hA', hA, nearM]
      have hf : lf2.filterMap (fun q => if nearM mk kd ss gap p1 q then some (D.int q) else none) = natsD (lf2.filter (nearM mk kd ss gap p1)) := by
        exact fm_filter
      rw [hf]
      refine seqP_nx.mpr ?_
      rw [ok_seq]
      have hlz : (natsD lt).length + (natsD (lf2.filter (nearM mk kd ss gap p1))).length ≤ big := by
        have := List.length_filter_le (nearM mk kd ss gap p1) lf2
        simp [natsD, big]
        omega
      simp [-seqP_nx, -ok_seq, hlz]
      refine seqP_nx.mpr ?_
      rw [ok_seq]
      simp [-seqP_nx, -ok_seq]
      rw [hc3, show (some (some (natsD lf2))).join = some (natsD lf2) from rfl, ok_some]
      refine ⟨hL, ?_⟩
      have hnap : natsD lt ++ natsD (lf2.filter (nearM mk kd ss gap p1)) = natsD (lt ++ lf2.filter (nearM mk kd ss gap p1)) := by simp [natsD]
      rw [hnap]
      have hfl := fm_len (P := nearM mk kd ss gap p1) (fr := lf2)
      have hmem : ∀ q ∈ lf2.filter (nearM mk kd ss gap p1), q < ss.length := fun q hq => h1 q (List.mem_filter.mp hq).1
      have hin2 : inQ (nearM mk kd ss gap) (m - 1) (lt ++ lf2.filter (nearM mk kd ss gap p1)) (lf2.filter fun q => !(lf2.filter (nearM mk kd ss gap p1)).contains q) (a + 1) = inQ (nearM mk kd ss gap) (lf.length + 1) [p] lf 0 := by
        rw [← hin, show m = (m - 1) + 1 by omega, inQ_s ep]
        rfl
      generalize lf2.filter (nearM mk kd ss gap p1) = nr at *
      rw [hN]
      refine comp_fm (fun q => if !nr.contains q then some (.int q) else none) (by simp [stand]) ?_ ?_
      · intro q hq
        have ni := fun M => nin_eq (M := M) (fr := nr) (q := q)
        cases hb : nr.contains q <;> simp only [hb] at ni <;> simp [↓okE (ni _), hb]
        done
      rw [fm_filter (P := fun q => !nr.contains q)]
      refine seqP_nx.mpr ?_
      simp
      refine ⟨m - 1, by omega, lt ++ nr, lf2.filter (fun q => !nr.contains q), a + 1, M3.length, ?_, ?_, ?_, ?_, ?_, ?_, ?_, ?_, ?_, ?_⟩
      · refine ⟨?_, ?_, Nat.le_refl _, ?_⟩
        · rw [List.getElem?_append_left tp3.2.2.2]
          exact tp3.1
        · rw [List.take_append_of_le_length (Nat.le_of_lt tp3.2.2.2)]
          exact tp3.2.1
        · have := tp3.2.2.2
          simp
          omega
      · exact tp3.2.2.2
      · simp
      · intro q hq
        exact h1 q (List.mem_filter.mp hq).1
      · intro q hq
        rcases List.mem_append.mp hq with h | h
        · exact h2 q h
        · exact hmem q h
      · refine ⟨by simp; omega, hin2⟩
      · rw [List.length_append]
        omega
      · simp
        omega
      · omega
      · simp
    · have ha' : ¬ (a : Int) < (lt.length : Int) := by omega
      have hR := hin
      rw [inQ_e (by omega)] at hR
      have hy := srt_eq (M := M3) (fr := lt)
      simp [hlen, ha', -seqP_nx, ↓okE hy]
      refine seqP_nx.mpr ?_
      simp [↓okE hy, celOk tp3.1]
      have hlt := tp3.2.2.2
      refine ⟨by omega, lf2.length, by omega, fs ++ [.lst (natsD (srtN lt))], lf2, c2, ⟨?_, ?_, Nat.le_refl _, by simpa using hlt⟩, ?_, hcc, ?_, h1, rfl, rfl⟩
      · rw [List.getElem?_set_self hlt]
      · rw [List.take_set_of_le (Nat.le_refl _)]
        exact tp3.2.1
      · refine ⟨by simp; omega, ?_, ?_⟩
        · intro x hx
          rcases List.mem_append.mp hx with h | h
          · exact fs8 x h
          · simp at h
            exact ⟨srtN lt, h, by rw [srtN_len]; omega, fun y hy => h2 y (srtN_mem.mp hy)⟩
        · intro rest hr
          have := fsR (.lst (natsD (srtN lt)) :: rest) (.cons hR.symm hr)
          simpa using this
      · rw [List.getElem?_set_ne (by omega)]
        exact hc3

/-! ### lots as classes -/
theorem BI.upto {n : Nat} {R : Nat → Nat → Bool} {g : Nat → Nat} {a i : Nat} {left lot : List Nat} (h : BI n R g a left lot i) (hj : lot.length ≤ i) : BI n R g a left lot lot.length :=
  ⟨h.mem, h.nd, h.sub, h.gs, fun j x hj2 hx y hy hyn => h.no j x (by omega) hx y hy hyn⟩
theorem flt_c {left lot near : List Nat} : ((left.filter fun q => decide (q ∉ lot)).filter fun q => !near.contains q) = left.filter fun q => decide (q ∉ lot ++ near) := by
  rw [flt]
  apply List.filter_congr
  intro x _
  by_cases h : x ∈ near <;> simp [h]
theorem inQ_cls {n : Nat} {R : Nat → Nat → Bool} {g : Nat → Nat} (G : GS n R g) {p : Nat} {lf0 : List Nat} (hl : ∀ x ∈ p :: lf0, x < n) (hn : lf0.Nodup) (hg : g p = p) (hall : ∀ x, x < n → g x = p → x ∈ p :: lf0) :
    ∀ (m a : Nat) (lt lt' lf' : List Nat), m + a = lf0.length + 1 → BI n R g p lf0 lt a → inQ R m lt (lf0.filter fun q => decide (q ∉ lt)) a = (lt', lf') →
      lt'.Nodup ∧ (∀ x, x ∈ lt' ↔ x < n ∧ g x = p) ∧ lf' = lf0.filter fun q => decide (q ∉ lt') := by
  intro m
  induction m with
  | zero =>
    intro a lt lt' lf' hm h e
    simp only [inQ, Prod.mk.injEq] at e
    obtain ⟨rfl, rfl⟩ := e
    have hlen := le_of_nodup h.nd h.sub
    simp only [List.length_cons] at hlen
    exact ⟨h.nd, (BI.upto h (by omega)).fin G hl hg hall, rfl⟩
  | succ m ih =>
    intro a lt lt' lf' hm h e
    cases ep : lt[a]? with
    | some q =>
      rw [inQ_s ep, flt_c] at e
      exact ih (a + 1) _ lt' lf' (by omega) (h.step G hl hn ep) e
    | none =>
      simp only [inQ, ep, Prod.mk.injEq] at e
      obtain ⟨rfl, rfl⟩ := e
      have := List.getElem?_eq_none_iff.mp ep
      exact ⟨h.nd, (BI.upto h this).fin G hl hg hall, rfl⟩
theorem srt_cls {n a : Nat} {g : Nat → Nat} {lot : List Nat} (nd : lot.Nodup) (hl : ∀ x, x ∈ lot ↔ x < n ∧ g x = a) : srtN lot = cls n g a := by
  have h := lot_sorted nd hl
  rw [srt_map] at h
  exact (List.map_inj_right (fun a b h => by omega)).mp h
theorem LoR.cls {n : Nat} {R : Nat → Nat → Bool} {g : Nat → Nat} (G : GS n R g) {left : List Nat} {fs : List D} (h : LoR R left fs) : ∀ {done : List Nat}, OutI n g done left → fs = (left.filter fun r => g r == r).map fun a => .lst (natsD (Lk70.cls n g a)) := by
  induction h with
  | nil => intro done _; rfl
  | @cons p lf lt lf' fs e _ ih =>
    intro done o
    obtain ⟨hg, hp, hl, nd, hpl, _, hall⟩ := o.head G
    have b0 : BI n R g p lf [p] 0 := ⟨by simp, by simp, by simp, by simp [hg], fun j x hj => by omega⟩
    have e0 : (lf.filter fun q => decide (q ∉ [p])) = lf := by
      rw [List.filter_eq_self]
      intro x hx
      have : x ≠ p := fun q => hpl (q ▸ hx)
      simp [this]
    obtain ⟨n1, m1, l1⟩ := inQ_cls G hl nd hg hall (lf.length + 1) 0 [p] lt lf' (by omega) b0 (by rw [e0]; exact e)
    have o2 := o.next G m1
    rw [← l1] at o2
    rw [srt_cls n1 m1, ih o2, List.filter_cons, if_pos (by simp [hg]), List.map_cons]
    congr 1
    have : (lf.filter fun r => g r == r) = lf'.filter fun r => g r == r := by
      rw [l1, List.filter_filter]
      apply List.filter_congr
      intro x hx
      by_cases k : g x = x
      · have : x ∉ lt := by
          intro q
          have := ((m1 x).mp q).2
          rw [k] at this
          subst this
          exact hpl hx
        simp [k, this]
      · simp [k]
    rw [this]
theorem LoR.all {n : Nat} {R : Nat → Nat → Bool} {g : Nat → Nat} (G : GS n R g) {fs : List D} (h : LoR R (List.range n) fs) : fs = lotsD n g := by
  have := h.cls G (done := []) ⟨by simp [roots], (List.filter_eq_self.mpr (by simp)).symm⟩
  exact this
def gN (kd : Kd) (ss : List (List Int)) (gap : Nat) (F : Int × Int) : Nat → Nat := gZ ss.length gap (nearM F kd ss gap)
theorem gN_spec {kd : Kd} {ss : List (List Int)} {gap : Nat} {F : Int × Int} (he : Even ss) (g0 : 1 ≤ gap) : GS ss.length (nearM F kd ss gap) (gN kd ss gap F) := by
  refine gZ_spec ?_ ?_ g0
  · intro p q hp hq
    have := farAt_comm (kd := kd) he hp hq
    unfold farAt at this
    unfold nearM apartB
    rw [this, Nat.add_comm]
  · intro p q h
    unfold nearM apartB at h
    simp at h
    exact h.1
theorem lots_eq {M : DSt} {l : Nat} {xs : List Int} {gap : Nat} {F : Int × Int} (kd : Kd) (hF : Bn 47 F.1 ∧ Bn 47 F.2) (hx : Row 9 xs) (l0 : 1 ≤ l) (l1 : l ≤ 40) (g0 : 1 ≤ gap) (g1 : gap ≤ 200) :
    f_lots [.d (rowD xs), .d kd.s, .d (.int gap), .d (.int l), .d (frD F)] M = some (.c M.length, M ++ [some (lotsD (stretchesZ xs l).length (gN kd (stretchesZ xs l) gap F))]) := by
  apply ok_eq
  refine (lotsF_ok hF kd hx l0 l1 g0 g1).mono ?_
  rintro _ ⟨fs, h, _, rfl⟩
  rw [h.all (gN_spec stretches_even g0)]
/-! ### within -/
theorem nat_inL {neg : Bool} {q : Nat} {l : List Nat} {M : DSt} : oIn neg (.d (.int q)) (.d (.lst (natsD l))) M = some (.d (.bl (xor neg (decide (q ∈ l)))), M) := by
  apply ok_eq
  rw [ok_inN]
theorem within_eq {M : DSt} {A B : List (List Nat)} (hA : A.length ≤ 100) (hB : B.length ≤ 100) (hl : ∀ a ∈ A, a.length ≤ 100 ∧ ∃ x, a.head? = some x ∧ ∀ b ∈ B, x ∈ b → ∀ y ∈ a, y ∈ b) : f__law_within [.d (.lst (A.map cD)), .d (.lst (B.map cD))] M = some (.d (.bl true), M) := by
  apply ok_eq
  unfold f__law_within
  rw [ok_fn]
  simp [b__law_within, startD, -seqP_nx]
  refine forL_by _ (fun _ ρ M' => M' = M ∧ ρ = [some (.d (.lst (A.map cD))), some (.d (.lst (B.map cD))), none, none, none]) ⟨rfl, rfl⟩ ?_ ?_
  · rintro i x ρ M' hx ⟨rfl, rfl⟩
    refine ⟨by simp, ?_⟩
    rw [List.getElem?_map, Option.map_eq_some_iff] at hx
    obtain ⟨a, ha, rfl⟩ := hx
    have ha := List.mem_of_getElem? ha
    obtain ⟨al, x, hx, hb⟩ := hl a ha
    simp [-seqP_nx]
    refine forL_by _ (fun _ ρ M2 => M2 = M' ∧ ρ = [some (.d (.lst (A.map cD))), some (.d (.lst (B.map cD))), some (.d (cD a)), none, none]) ⟨rfl, rfl⟩ ?_ ?_
    · rintro j y ρ M2 hy ⟨rfl, rfl⟩
      refine ⟨by simp, ?_⟩
      rw [List.getElem?_map, Option.map_eq_some_iff] at hy
      obtain ⟨b, hb2, rfl⟩ := hy
      have hb2 := List.mem_of_getElem? hb2
      have e0 : (natsD a)[0]? = some (.int (x : Int)) := by
        cases a with
        | nil => simp at hx
        | cons u r => simp at hx; subst hx; rfl
      have i1 := fun M => nat_inL (neg := false) (q := x) (l := b) (M := M)
      have e1 : atD (natsD a) 0 = some (.int (x : Int)) := ok_eq ((ok_atN (P := fun y => y = .int (x : Int)) (k := 0) e0).mpr rfl)
      simp only [cD]
      simp [↓okE e1, ↓okE (i1 _)]
      intro hxb
      have hab := hb b hb2 hxb
      refine ⟨by simp [natsD]; omega, ?_⟩
      have hN : natsD a = a.map fun q : Nat => D.int q := rfl
      rw [hN]
      refine comp_fm (fun q => none) (by simp [stand]) ?_ ?_
      · intro q hq
        have i2 := fun M => nat_inL (neg := true) (q := q) (l := b) (M := M)
        simp only [← hN]
        simp [↓okE (i2 _), hab q hq]
      · simp
    · rintro ρ M2 ⟨rfl, rfl⟩
      simp
  · rintro ρ M' ⟨rfl, rfl⟩
    simp
/-- the fars of all two places -/
structure FarT (kd : Kd) (ss : List (List Int)) (T : Tb) : Prop where
  at_ : ∀ p q : Nat, p < ss.length → q < ss.length → look T [(p : Int), (q : Int)] = some (frD (farAt kd ss p q))
  key : ∀ x ∈ T, ∃ p q : Nat, p < ss.length ∧ q < ss.length ∧ x.1 = [(p : Int), (q : Int)]
theorem cls_head {n a : Nat} {R : Nat → Nat → Bool} {g : Nat → Nat} (G : GS n R g) (ha : a < n) (hg : g a = a) : ∃ lf, cls n g a = a :: lf ∧ lf.Nodup ∧ a ∉ lf := by
  have hm : a ∈ cls n g a := List.mem_filter.mpr ⟨List.mem_range.mpr ha, by simp [hg]⟩
  have hs : (cls n g a).Pairwise (· < ·) := List.pairwise_lt_range.filter _
  have hmin : ∀ x ∈ cls n g a, a ≤ x := by
    intro x hx
    obtain ⟨h1, h2⟩ := List.mem_filter.mp hx
    have := G.le x (List.mem_range.mp h1)
    have e : g x = a := by simpa using h2
    omega
  cases hc : cls n g a with
  | nil => rw [hc] at hm; simp at hm
  | cons b lf =>
    rw [hc] at hm hs hmin
    have h1 := List.pairwise_cons.mp hs
    have e : a = b := by
      rcases List.mem_cons.mp hm with e | e
      · exact e
      · have := h1.1 a e
        have := hmin b (by simp)
        omega
    subst e
    exact ⟨lf, rfl, h1.2.imp fun h => Nat.ne_of_lt h, fun h => absurd (h1.1 a h) (Nat.lt_irrefl _)⟩
theorem cls_mem {n a x : Nat} {g : Nat → Nat} : x ∈ cls n g a ↔ x < n ∧ g x = a := by
  simp [cls]
theorem cls_len {n a : Nat} {g : Nat → Nat} : (cls n g a).length ≤ n := by
  have : (cls n g a).length ≤ (List.range n).length := List.length_filter_le ..
  simpa using this
theorem root_mem {n a : Nat} {g : Nat → Nat} : a ∈ roots n g ↔ a < n ∧ g a = a := by
  simp [roots]
theorem inC {neg : Bool} {q c : Nat} {l : List Nat} {M : DSt} (h : M[c]? = some (some (natsD l))) : oIn neg (.d (.int q)) (.c c) M = some (.d (.bl (xor neg (decide (q ∈ l)))), M) := by
  have := nat_inL (neg := neg) (q := q) (l := l) (M := M)
  unfold oIn at this ⊢
  simp only [sv, lv] at this ⊢
  rw [h]
  simpa using this
def TgI (M : DSt) (env : DEnv) (i : Nat) (ρ : DEnv) (M1 : DSt) : Prop := (∃ J, M1 = M ++ J) ∧ ρ = env
def TgW (n : Nat) (R : Nat → Nat → Bool) (g : Nat → Nat) (a : Nat) (lf : List Nat) (M : DSt) (env : Nat → DEnv) (m : Nat) (ρ : DEnv) (M1 : DSt) : Prop := ∃ (lt : List Nat) (i : Nat), BI n R g a lf lt i ∧ m + i = lf.length + 1 ∧ i ≤ lt.length ∧ M1 = M ++ [some (natsD lt)] ∧ ρ = env i
def TgF (R : Nat → Nat → Bool) (lot lt : List Nat) (p : Nat) (M : DSt) (env : DEnv) (j : Nat) (ρ : DEnv) (M1 : DSt) : Prop := M1 = M ++ [some (natsD (lt ++ (lot.take j).filter fun q => decide (q ∉ lt) && R p q))] ∧ ρ = env
theorem tg_next {n : Nat} {R : Nat → Nat → Bool} {g : Nat → Nat} {a i p : Nat} {lf lt : List Nat} (h : BI n R g a lf lt i) : ((a :: lf).filter fun q => decide (q ∉ lt) && R p q) = (lf.filter fun q => decide (q ∉ lt)).filter fun q => R p q := by
  rw [List.filter_cons, if_neg (by simp [h.mem]), List.filter_filter]
  apply List.filter_congr
  intro x _
  rw [Bool.and_comm]
theorem srtC {M : DSt} {fr : List Nat} {c : Nat} (h : M[c]? = some (some (natsD fr))) : oSorted false [.c c] M = some (.d (.lst (natsD (srtN fr))), M) := by
  have := srt_eq (M := M) (fr := fr)
  unfold oSorted at this ⊢
  simp only [lv] at this ⊢
  rw [h]
  simpa using this
theorem together_eq {M : DSt} {ss : List (List Int)} {gap : Nat} {F : Int × Int} {T : Tb} {g : Nat → Nat} (kd : Kd) (hs : Fine 9 ss) (hF : Bn 47 F.1 ∧ Bn 47 F.2) (hT : FarT kd ss T) (G : GS ss.length (nearM F kd ss gap) g) :
    f__law_together [.d (.lst (lotsD ss.length g)), .k true T, .d (.int gap), .d (frD F)] M = some (.d (.bl true), M) := by
  apply ok_eq
  unfold f__law_together
  rw [ok_fn]
  have hn := hs.2
  generalize hnn : ss.length = n at *
  simp [b__law_together, startD, -seqP_nx]
  let env0 : DEnv := [some (.d (.lst (lotsD n g))), some (.k true T), some (.d (.int gap)), some (.d (frD F)), none, none, none, none, none]
  refine forL_by _ (TgI M env0) ⟨⟨[], by simp⟩, rfl⟩ ?_ ?_
  · rintro i x ρ M1 hx ⟨⟨J, rfl⟩, rfl⟩
    refine ⟨by simp, ?_⟩
    unfold lotsD at hx
    rw [List.getElem?_map, Option.map_eq_some_iff] at hx
    obtain ⟨a, ha, rfl⟩ := hx
    obtain ⟨han, hga⟩ := root_mem.mp (List.mem_of_getElem? ha)
    obtain ⟨lf, hc, nd, hal⟩ := cls_head G han hga
    have hcl : ∀ x ∈ a :: lf, x < n ∧ g x = a := fun x hx => cls_mem.mp (by rw [hc]; exact hx)
    have hclen : lf.length + 1 ≤ n := by have := cls_len (n := n) (a := a) (g := g); rw [hc] at this; simpa using this
    generalize hM0 : M ++ J = M0
    simp only [env0]
    have ez : ((0 : Nat) : Int) = 0 := rfl
    have e1 : atD (natsD (cls n g a)) 0 = some (.int (a : Int)) := ok_eq ((ok_atN (P := fun y => y = .int (a : Int)) (k := 0) (by rw [hc]; rfl)).mpr rfl)
    simp [-seqP_nx, ↓okE e1]
    refine seqP_nx.mpr ?_
    simp [-seqP_nx]
    refine seqP_nx.mpr ?_
    simp [-seqP_nx, -ok_seq]
    rw [ok_seq]
    let envW : Nat → DEnv := fun i => [some (.d (.lst (lotsD n g))), some (.k true T), some (.d (.int gap)), some (.d (frD F)), some (.d (.lst (natsD (cls n g a)))), some (.c M0.length), some (.d (.int i)), none, none]
    have b0 : BI n (nearM F kd ss gap) g a lf [a] 0 := ⟨by simp, by simp, by simp, by simp [hga], fun j x hj => by omega⟩
    refine while_by (TgW n (nearM F kd ss gap) g a lf M0 envW) (lf.length + 1) ⟨[a], 0, b0, by omega, by omega, by simp [natsD], rfl⟩ ?_
    rintro m ρ M2 ⟨lt, i, bi, hm, hil, rfl, rfl⟩
    have hcel : (M0 ++ [some (natsD lt)])[M0.length]? = some (some (natsD lt)) := by simp
    have hll := le_of_nodup bi.nd bi.sub
    simp only [List.length_cons] at hll
    have hlen : ((natsD lt).length : Int) = (lt.length : Int) := by simp [natsD]
    simp only [envW]
    by_cases hi : i < lt.length
    · have hi' : (i : Int) < (lt.length : Int) := by omega
      obtain ⟨p, ep⟩ : ∃ p, lt[i]? = some p := ⟨lt[i], List.getElem?_eq_getElem hi⟩
      have hp := (hcl p (bi.sub p (List.mem_of_getElem? ep))).1
      have ea : (natsD lt)[i]? = some (.int (p : Int)) := by simp [natsD, ep]
      simp [celOk hcel, natsD_len, hi, -seqP_nx, -ok_seq]
      rw [ok_seq]
      simp [celOk hcel, -seqP_nx, -ok_seq, ok_atN ea]
      refine seqP_nx.mpr ?_
      simp [-seqP_nx, -ok_seq]
      rw [ok_seq]
      let envF : DEnv := [some (.d (.lst (lotsD n g))), some (.k true T), some (.d (.int gap)), some (.d (frD F)), some (.d (.lst (natsD (cls n g a)))), some (.c M0.length), some (.d (.int i)), some (.d (.int p)), none]
      simp [-seqP_nx, -ok_seq]
      refine forL_by _ (TgF (nearM F kd ss gap) (a :: lf) lt p M0 envF) ⟨by simp, rfl⟩ ?_ ?_
      · rintro j x ρ M3 hx ⟨rfl, rfl⟩
        refine ⟨by simp, ?_⟩
        rw [hc] at hx
        simp only [natsD, List.getElem?_map] at hx
        rw [Option.map_eq_some_iff] at hx
        obtain ⟨q, hq, rfl⟩ := hx
        have hqn := (hcl q (List.mem_of_getElem? hq)).1
        have tk : (a :: lf).take (j + 1) = (a :: lf).take j ++ [q] := by rw [List.take_succ, hq]; rfl
        have ndc : (a :: lf).Nodup := List.nodup_cons.mpr ⟨hal, nd⟩
        have hqt : q ∉ (a :: lf).take j := by
          intro hm
          have := ndc.sublist (List.take_sublist (j + 1) (a :: lf))
          rw [tk] at this
          exact (List.nodup_append.mp this).2.2 q hm q (by simp) rfl
        generalize hcur : (lt ++ ((a :: lf).take j).filter fun q => decide (q ∉ lt) && nearM F kd ss gap p q) = cur
        have hqc : q ∈ cur ↔ q ∈ lt := by
          rw [← hcur, List.mem_append]
          constructor
          · rintro (h | h)
            · exact h
            · exact absurd (List.mem_filter.mp h).1 hqt
          · exact .inl
        have hcurl : cur.length ≤ 1000 := by
          rw [← hcur, List.length_append]
          have h1 := List.length_filter_le (fun q => decide (q ∉ lt) && nearM F kd ss gap p q) ((a :: lf).take j)
          have h2 := List.length_take_le j (a :: lf)
          simp only [List.length_take, List.length_cons] at h1
          omega
        have hc3 : (M0 ++ [some (natsD cur)])[M0.length]? = some (some (natsD cur)) := by simp
        have i1 := inC (neg := true) (q := q) hc3
        have lk := hT.at_ p q (by omega) (by omega)
        have fb := farAt_bn kd hs (p := p) (q := q) (by omega) (by omega)
        have le := fun M => less_eq (M := M) hF fb (by omega)
        have ky : keyI true (.tup [.int (p : Int), .int (q : Int)]) = some [(p : Int), (q : Int)] := rfl
        have hnm : nearM F kd ss gap p q = (apartB gap p q && !lessZ F (farAt kd ss p q)) := rfl
        have hab : ((gap : Int) ≤ if (q : Int) - (p : Int) < 0 then -((q : Int) - (p : Int)) else (q : Int) - (p : Int)) ↔ apartB gap p q = true := by
          unfold apartB
          simp only [decide_eq_true_eq]
          split <;> omega
        have hcb : cur.length < 1000000 := by omega
        simp only [envF]
        simp [-seqP_nx, ↓okE i1, hqc]
        have nx : (lt ++ ((a :: lf).take (j + 1)).filter fun q => decide (q ∉ lt) && nearM F kd ss gap p q) = cur ++ if q ∉ lt ∧ nearM F kd ss gap p q = true then [q] else [] := by
          rw [tk, List.filter_append, ← List.append_assoc, hcur]
          congr 1
          by_cases h1 : q ∈ lt
          · simp [h1]
          · cases h2 : nearM F kd ss gap p q <;> simp [h1, h2]
        unfold TgF
        rw [nx, hnm]
        by_cases h1 : q ∈ lt
        · simp [h1]
        · by_cases hA : apartB gap p q = true
          · have hA' := hab.mpr hA
            cases hl : lessZ F (farAt kd ss p q) with
            | true => simp [h1, hA, hA', ky, lk, ↓okE (le _), hl]
            | false => simp [h1, hA, hA', ky, lk, ↓okE (le _), hl, celOk hc3, natsD_len, hcb]; simp [natsD]
          · have hA' : ¬ ((gap : Int) ≤ if (q : Int) - (p : Int) < 0 then -((q : Int) - (p : Int)) else (q : Int) - (p : Int)) := fun h => hA (hab.mp h)
            simp [h1, hA, hA']
      · rintro ρ M3 ⟨rfl, rfl⟩
        refine ⟨by simp, ?_⟩
        simp [envF]
        have tl : (a :: lf).take (natsD (cls n g a)).length = a :: lf := by rw [natsD_len, hc]; exact List.take_length
        have bs := bi.step G (fun x hx => (hcl x hx).1) nd ep
        rw [tl]
        refine ⟨m - 1, by omega, lt ++ (lf.filter fun q => decide (q ∉ lt)).filter fun q => nearM F kd ss gap p q, i + 1, bs, by omega, by simp; omega, ?_, by simp [envW]⟩
        have := tg_next (p := p) bi
        simp only [decide_not] at this ⊢
        rw [this]
    · have hi' : ¬ (i : Int) < (lt.length : Int) := by omega
      have fin := (BI.upto bi (by omega)).fin G (fun x hx => (hcl x hx).1) hga (fun x hx hg => by have := cls_mem.mpr ⟨hx, hg⟩; rw [hc] at this; exact this)
      have so := srt_cls bi.nd fin
      have hy := srt_eq (M := M0 ++ [some (natsD lt)]) (fr := lt)
      simp [celOk hcel, natsD_len, hi, -seqP_nx]
      refine seqP_nx.mpr ?_
      simp [↓okE (srtC hcel), so, ↓ok_neSame nats_shp]
      exact ⟨⟨J ++ [some (natsD lt)], by rw [← hM0]; simp⟩, rfl⟩
  · rintro ρ M1 ⟨⟨J, rfl⟩, rfl⟩
    simp [env0]
def evZ (n : Nat) (g : Nat → Nat) (i : Nat) : List Nat := ((roots n g).take i).flatMap (cls n g)
def FiI (n : Nat) (g : Nat → Nat) (M : DSt) (env : List Nat → DEnv) (i : Nat) (ρ : DEnv) (M1 : DSt) (T : Tb) : Prop := M1 = M ∧ ρ = env (evZ n g i) ∧ T.length ≤ (evZ n g i).length ∧ ∀ p, p < n → g p ∈ (roots n g).take i → ∃ j, (roots n g)[j]? = some (g p) ∧ look T [(p : Int)] = some (.int (j : Nat))
theorem ev_nodup {n : Nat} {R : Nat → Nat → Bool} {g : Nat → Nat} (G : GS n R g) : ∀ i, (evZ n g i).Nodup := by
  intro i
  unfold evZ
  unfold List.Nodup
  rw [List.pairwise_flatMap]
  refine ⟨fun a _ => (List.pairwise_lt_range.filter _).imp fun h => Nat.ne_of_lt h, ?_⟩
  have : (roots n g).Pairwise (· < ·) := List.pairwise_lt_range.filter _
  refine (this.sublist (List.take_sublist i _)).imp fun {a b} h => ?_
  intro x h1 y h2
  have := (cls_mem.mp h1).2
  have := (cls_mem.mp h2).2
  intro e
  subst e
  omega
theorem ev_mem {n : Nat} {R : Nat → Nat → Bool} {g : Nat → Nat} (G : GS n R g) {x : Nat} : x ∈ evZ n g (roots n g).length ↔ x < n := by
  unfold evZ
  rw [List.take_length, List.mem_flatMap]
  constructor
  · rintro ⟨a, _, h⟩
    exact (cls_mem.mp h).1
  · intro h
    exact ⟨g x, root_mem.mpr ⟨Nat.lt_of_le_of_lt (G.le x h) h, G.fix x h⟩, cls_mem.mpr ⟨h, rfl⟩⟩
theorem ev_len {n : Nat} {R : Nat → Nat → Bool} {g : Nat → Nat} (G : GS n R g) (i : Nat) : (evZ n g i).length ≤ n := by
  have := le_of_nodup (ev_nodup G i) (l2 := List.range n) (fun x hx => by
    obtain ⟨a, _, h⟩ := List.mem_flatMap.mp hx
    exact List.mem_range.mpr (cls_mem.mp h).1)
  simpa using this
theorem ev_sort {n : Nat} {R : Nat → Nat → Bool} {g : Nat → Nat} (G : GS n R g) : srtN (evZ n g (roots n g).length) = List.range n := by
  have h1 : (List.range n).Perm (evZ n g (roots n g).length) := (List.perm_ext_iff_of_nodup List.nodup_range (ev_nodup G _)).mpr fun x => by rw [ev_mem G, List.mem_range]
  have h := sorted_one (h1.map fun p : Nat => (p : Int)) (List.pairwise_map.mpr (List.pairwise_lt_range.imp fun h => by omega))
  rw [srt_map] at h
  exact (List.map_inj_right (fun a b h => by omega)).mp h
theorem ev_succ {n i a : Nat} {g : Nat → Nat} (h : (roots n g)[i]? = some a) : evZ n g (i + 1) = evZ n g i ++ cls n g a := by
  unfold evZ
  rw [List.take_succ, h]
  simp
theorem roots_nodup {n : Nat} {g : Nat → Nat} : (roots n g).Nodup := (List.pairwise_lt_range.filter _).imp fun h => Nat.ne_of_lt h
theorem fine_eq {M : DSt} {ss : List (List Int)} {gap : Nat} {F : Int × Int} {T : Tb} {g : Nat → Nat} (kd : Kd) (hs : Fine 9 ss) (hF : Bn 47 F.1 ∧ Bn 47 F.2) (hT : FarT kd ss T) (G : GS ss.length (nearM F kd ss gap) g) :
    f__law_fine [.d (.lst (lotsD ss.length g)), .k true T, .d (.int ss.length), .d (.int gap), .d (frD F)] M = some (.d (.bl true), M) := by
  apply ok_eq
  unfold f__law_fine
  rw [ok_fn]
  have hn := hs.2
  have tg := fun M => together_eq (M := M) (gap := gap) kd hs hF hT G
  have fb : ∀ p q, p < ss.length → q < ss.length → Bn 47 (farAt kd ss p q).1 ∧ Bn 47 (farAt kd ss p q).2 := fun p q hp hq => farAt_bn (k := 9) kd hs hp hq
  have le := fun M p q (hp : p < ss.length) (hq : q < ss.length) => less_eq (M := M) hF (fb p q hp hq) (by omega)
  have hat := hT.at_
  have hkey := hT.key
  have hnm : ∀ p q, nearM F kd ss gap p q = (apartB gap p q && !lessZ F (farAt kd ss p q)) := fun _ _ => rfl
  generalize hnn : ss.length = n at *
  simp only [b__law_fine, startD]
  simp [-seqP_nx]
  refine seqK_nx.mpr ?_
  let env : List Nat → DEnv := fun ev => [some (.d (.lst (lotsD n g))), some (.k true T), some (.d (.int n)), some (.d (.int gap)), some (.d (frD F)), none, some (.d (.lst (natsD ev))), none, none, none, none, none]
  rw [ok_kSeq, ok_kFor]
  simp
  refine forK_by _ (FiI n g M env) ⟨rfl, rfl, by simp, by simp⟩ ?_ ?_
  · rintro i x ρ M1 T1 hx ⟨rfl, rfl, h2, h3⟩
    refine ⟨by simp, ?_⟩
    obtain ⟨y, hy, rfl⟩ := enumD_at.mp hx
    unfold lotsD at hy
    rw [List.getElem?_map, Option.map_eq_some_iff] at hy
    obtain ⟨a, ha, rfl⟩ := hy
    have e0 : ((0 + i : Nat) : Int) = (i : Int) := by omega
    rw [e0]
    have es := ev_succ (n := n) (g := g) ha
    have el := ev_len G (i + 1)
    rw [es, List.length_append] at el
    simp only [env]
    simp [natsD_len]
    refine ⟨by omega, ?_⟩
    refine seqK_nx.mpr ?_
    have eap : natsD (evZ n g i) ++ natsD (cls n g a) = natsD (evZ n g (i + 1)) := by rw [es, natsD_app]
    simp only [eap]
    let env3 : DEnv := [some (.d (.lst (lotsD n g))), some (.k true T), some (.d (.int n)), some (.d (.int gap)), some (.d (frD F)), none, some (.d (.lst (natsD (evZ n g (i + 1))))), some (.d (.int i)), some (.d (.lst (natsD (cls n g a)))), none, none, none]
    refine forK_by _ (fun j ρ M2 T2 => M2 = M1 ∧ ρ = env3 ∧ T2.length ≤ (evZ n g i).length + j ∧ ∀ p, p < n → (g p ∈ (roots n g).take i ∨ p ∈ (cls n g a).take j) → ∃ j', (roots n g)[j']? = some (g p) ∧ look T2 [(p : Int)] = some (.int (j' : Nat))) ⟨rfl, rfl, by omega, fun p hp h => by
      rcases h with h | h
      · exact h3 p hp h
      · simp at h⟩ ?_ ?_
    · rintro j x ρ M2 T2 hx2 ⟨rfl, rfl, k2, k3⟩
      refine ⟨by simp, ?_⟩
      simp only [natsD, List.getElem?_map] at hx2
      rw [Option.map_eq_some_iff] at hx2
      obtain ⟨q, hq, rfl⟩ := hx2
      have hqc := cls_mem.mp (List.mem_of_getElem? hq)
      have hjl := (List.getElem?_eq_some_iff.mp hq).1
      simp only [env3]
      simp
      refine ⟨by omega, ?_, ?_⟩
      · have := tput_len (T := T2) (k := [(q : Int)]) (v := .int (i : Int))
        omega
      · intro p hp h
        rw [look_put]
        by_cases e : p = q
        · subst e
          exact ⟨i, by rw [hqc.2]; exact ha, by simp⟩
        · have ne : ¬ ([(p : Int)] = [(q : Int)]) := by simp; omega
          rw [if_neg ne]
          refine k3 p hp ?_
          rcases h with h | h
          · exact .inl h
          · rw [List.take_succ, hq] at h
            rcases List.mem_append.mp h with h | h
            · exact .inr h
            · simp at h
              exact absurd h e
    · rintro ρ M2 T2 ⟨rfl, rfl, k2, k3⟩
      refine ⟨by simp, ?_⟩
      simp only [env3]
      simp
      refine ⟨rfl, rfl, ?_, ?_⟩
      · rw [es, List.length_append]
        simpa [natsD] using k2
      · intro p hp h
        refine k3 p hp ?_
        rw [List.take_succ, ha] at h
        rcases List.mem_append.mp h with h | h
        · exact .inl h
        · simp at h
          refine .inr ?_
          rw [List.take_of_length_le (by simp [natsD])]
          exact cls_mem.mpr ⟨hp, h⟩
  · rintro ρ M1 T1 ⟨rfl, rfl, h2, h3⟩
    refine ⟨by simp, ?_⟩
    have ll : (enumD 0 (lotsD n g)).length = (roots n g).length := by rw [enumD_len]; simp [lotsD]
    rw [ll] at h2 h3 ⊢
    have so := ev_sort G
    have sq := fun M : DSt => srt_eq (M := M) (fr := evZ n g (roots n g).length)
    simp only [so] at sq
    have o1 : ∀ M : DSt, oListR1 false [.d (.int n)] M = some (.d (.lst (natsD (List.range n))), M) := by
      intro M
      simp only [oListR1]
      rw [grd_ok (by omega), ← rng0_nats]
      simp [mkL]
    simp only [env]
    refine seqK_nx.mpr ?_
    simp [↓okE (sq _), ↓okE (o1 _), ↓ok_neSame nats_shp]
    refine seqK_nx.mpr ?_
    rw [ok_kSeq, ok_kForT rfl]
    let env4 : DEnv := [some (.d (.lst (lotsD n g))), some (.k true T), some (.d (.int n)), some (.d (.int gap)), some (.d (frD F)), none, some (.d (.lst (natsD (evZ n g (roots n g).length)))), none, none, none, none, none]
    refine forK_by _ (fun _ ρ M2 T2 => M2 = M1 ∧ ρ = env4 ∧ T2 = T1) ⟨rfl, rfl, rfl⟩ ?_ ?_
    · rintro j x ρ M2 T2 hx2 ⟨rfl, rfl, rfl⟩
      refine ⟨by simp, ?_⟩
      simp only [keysT, List.getElem?_map] at hx2
      rw [Option.map_eq_some_iff] at hx2
      obtain ⟨y, hy, rfl⟩ := hx2
      obtain ⟨p, q, hp, hq, ey⟩ := hkey y (List.mem_of_getElem? hy)
      rw [ey]
      obtain ⟨j1, r1, w1⟩ := h3 p hp (by rw [List.take_length]; exact root_mem.mpr ⟨Nat.lt_of_le_of_lt (G.le p hp) hp, G.fix p hp⟩)
      obtain ⟨j2, r2, w2⟩ := h3 q hq (by rw [List.take_length]; exact root_mem.mpr ⟨Nat.lt_of_le_of_lt (G.le q hq) hq, G.fix q hq⟩)
      have ky : keyI true (.tup [.int (p : Int), .int (q : Int)]) = some [(p : Int), (q : Int)] := rfl
      have kp : ∀ p : Nat, keyI false (.int (p : Int)) = some [(p : Int)] := fun _ => rfl
      have lk := hat p q hp hq
      have hab : ((gap : Int) ≤ if (q : Int) - (p : Int) < 0 then -((q : Int) - (p : Int)) else (q : Int) - (p : Int)) ↔ apartB gap p q = true := by
        unfold apartB
        simp only [decide_eq_true_eq]
        split <;> omega
      have le1 := fun M => le M p q hp hq
      have edge := G.edge p q hp hq
      rw [hnm] at edge
      simp only [env4]
      simp
      by_cases hA : apartB gap p q = true
      · have hA' := hab.mpr hA
        cases hl : lessZ F (farAt kd ss p q) with
        | true => simp [hA', ky, lk, ↓okE (le1 _), hl]
        | false =>
          have eg := edge (by simp [hA, hl])
          have ej : j1 = j2 := by
            rw [eg] at r1
            obtain ⟨a1, b1⟩ := List.getElem?_eq_some_iff.mp r1
            obtain ⟨a2, b2⟩ := List.getElem?_eq_some_iff.mp r2
            exact (List.getElem_inj roots_nodup).mp (b1.trans b2.symm)
          subst ej
          have ns : (D.int (j1 : Int)).shp 9 = true := rfl
          simp [hA', ky, lk, ↓okE (le1 _), hl, kp, w1, w2, ↓ok_neSame ns]
      · have hA' : ¬ ((gap : Int) ≤ if (q : Int) - (p : Int) < 0 then -((q : Int) - (p : Int)) else (q : Int) - (p : Int)) := fun h => hA (hab.mp h)
        simp [hA']
    · rintro ρ M2 T2 ⟨rfl, rfl, rfl⟩
      refine ⟨by simp, ?_⟩
      simp only [env4]
      refine seqK_nx.mpr ?_
      simp [↓okE (tg _)]
/-! ### classes against classes -/
theorem Con.same {n : Nat} {R : Nat → Nat → Bool} {g : Nat → Nat} (he : ∀ p q, p < n → q < n → R p q = true → g p = g q) {p q : Nat} (h : Con n R p q) : g p = g q := by
  induction h with
  | refl => rfl
  | step _ a b c ih => exact ih.trans (he _ _ a b c)
theorem finer {n : Nat} {R1 R2 : Nat → Nat → Bool} {g1 g2 : Nat → Nat} (G1 : GS n R1 g1) (G2 : GS n R2 g2) (h : ∀ p q, p < n → q < n → R1 p q = true → R2 p q = true) {p q : Nat} (hp : p < n) (hq : q < n) (e : g1 p = g1 q) : g2 p = g2 q :=
  (G1.con p q hp hq e).same fun p q hp hq r => G2.edge p q hp hq (h p q hp hq r)
theorem single {n : Nat} {R : Nat → Nat → Bool} {g : Nat → Nat} (G : GS n R g) (h : ∀ p q, p < n → q < n → R p q = false) {p : Nat} (hp : p < n) : g p = p := by
  have hg : g p < n := Nat.lt_of_le_of_lt (G.le p hp) hp
  have hc := G.con (g p) p hg hp (G.fix p hp)
  exact hc.same (g := fun x => x) fun p q hp hq r => by rw [h p q hp hq] at r; cases r
theorem lots_single {n : Nat} {g : Nat → Nat} (h : ∀ p, p < n → g p = p) : lotsD n g = (List.range n).map fun p : Nat => D.lst [.int p] := by
  have hr : roots n g = List.range n := by
    unfold roots
    rw [List.filter_eq_self]
    intro x hx
    simp [h x (List.mem_range.mp hx)]
  unfold lotsD
  rw [hr]
  apply List.map_congr_left
  intro p hp
  have hp := List.mem_range.mp hp
  have e : cls n g p = [p] := by
    have hs : (cls n g p).Pairwise (· < ·) := List.pairwise_lt_range.filter _
    have hm : ∀ x, x ∈ cls n g p ↔ x = p := by
      intro x
      rw [cls_mem]
      constructor
      · rintro ⟨h1, h2⟩
        rw [h x h1] at h2
        exact h2
      · rintro rfl
        exact ⟨hp, h x hp⟩
    cases hc : cls n g p with
    | nil => have := (hm p).mpr rfl; rw [hc] at this; simp at this
    | cons a r =>
      rw [hc] at hs hm
      have ha := (hm a).mp (by simp)
      cases r with
      | nil => rw [ha]
      | cons b r =>
        have hb := (hm b).mp (by simp)
        have := (List.pairwise_cons.mp hs).1 b (by simp)
        omega
  rw [e]
  rfl
theorem id_spec {n : Nat} : GS n (fun _ _ => false) fun p => p :=
  ⟨fun p q _ _ h => by have h : p = q := h; subst h; exact .refl _, fun p q _ _ h => (by cases h), fun p _ => Nat.le_refl _, fun p _ => rfl⟩
theorem lots_map {n : Nat} {g : Nat → Nat} : D.lst (lotsD n g) = .lst (((roots n g).map (cls n g)).map cD) := by
  unfold lotsD
  rw [List.map_map]
  rfl
theorem cls_hd {n a : Nat} {R : Nat → Nat → Bool} {g : Nat → Nat} (G : GS n R g) (h : a ∈ roots n g) : (cls n g a).head? = some a := by
  obtain ⟨h1, h2⟩ := root_mem.mp h
  obtain ⟨lf, e, _⟩ := cls_head G h1 h2
  rw [e]
  rfl
theorem roots_len {n : Nat} {g : Nat → Nat} : (roots n g).length ≤ n := by
  have : (roots n g).length ≤ (List.range n).length := List.length_filter_le ..
  simpa using this
theorem within_lots {M : DSt} {n : Nat} {R1 R2 : Nat → Nat → Bool} {g1 g2 : Nat → Nat} (hn : n ≤ 100) (G1 : GS n R1 g1) (G2 : GS n R2 g2) (h : ∀ p q, p < n → q < n → R1 p q = true → R2 p q = true) : f__law_within [.d (.lst (lotsD n g1)), .d (.lst (lotsD n g2))] M = some (.d (.bl true), M) := by
  rw [lots_map, lots_map]
  refine within_eq (by have := roots_len (n := n) (g := g1); simp; omega) (by have := roots_len (n := n) (g := g2); simp; omega) ?_
  intro l hl
  obtain ⟨a, ha, rfl⟩ := List.mem_map.mp hl
  have ha1 := root_mem.mp ha
  refine ⟨by have := cls_len (n := n) (g := g1) (a := a); omega, a, cls_hd G1 ha, ?_⟩
  intro b hb hab y hy
  obtain ⟨c, hc, rfl⟩ := List.mem_map.mp hb
  have h1 := cls_mem.mp hab
  have h2 := cls_mem.mp hy
  refine cls_mem.mpr ⟨h2.1, ?_⟩
  rw [← h1.2]
  exact finer G1 G2 h h2.1 ha1.1 (by rw [h2.2, ha1.2])
theorem within_one {M : DSt} {n : Nat} {R : Nat → Nat → Bool} {g : Nat → Nat} {p : Nat} {r : List Nat} (hn : n ≤ 100) (G : GS n R g) (hl : (p :: r).length ≤ 100) (hc : ∀ x ∈ p :: r, x < n ∧ g x = g p) : f__law_within [.d (.lst [cD (p :: r)]), .d (.lst (lotsD n g))] M = some (.d (.bl true), M) := by
  rw [lots_map]
  refine within_eq (A := [p :: r]) (by simp) (by have := roots_len (n := n) (g := g); simp; omega) ?_
  intro l hl2
  simp at hl2
  subst hl2
  refine ⟨hl, p, rfl, ?_⟩
  intro b hb hab y hy
  obtain ⟨c, hc2, rfl⟩ := List.mem_map.mp hb
  have h1 := cls_mem.mp hab
  have h2 := hc y hy
  exact cls_mem.mpr ⟨h2.1, by rw [h2.2]; exact h1.2⟩
/-! ### marks -/
theorem near_mono {F F' : Int × Int} {kd : Kd} {ss : List (List Int)} {gap : Nat} (hs : ∀ s ∈ ss, 0 < s.length) (hF : 0 < F.2) (hF' : 0 < F'.2) (h : F = F' ∨ lessZ F F' = true) : ∀ p q, p < ss.length → q < ss.length → nearM F kd ss gap p q = true → nearM F' kd ss gap p q = true := by
  intro p q hp hq hr
  rcases h with rfl | h
  · exact hr
  · unfold nearM at hr ⊢
    have pos : 0 < (farZ kd (nthZ ss p) (nthZ ss q)).2 := farZ_pos kd (hs _ (getD_mem hp))
    generalize farZ kd (nthZ ss p) (nthZ ss q) = f at *
    simp only [Bool.and_eq_true, Bool.not_eq_true'] at hr ⊢
    refine ⟨hr.1, ?_⟩
    cases h2 : lessZ F' f with
    | false => rfl
    | true =>
      have := less_trans hF hF' pos h h2
      rw [this] at hr
      exact absurd hr.2 (by simp)
theorem near_neg {kd : Kd} {ss : List (List Int)} {gap : Nat} (hs : ∀ s ∈ ss, 0 < s.length) (he : Even ss) : ∀ p q, p < ss.length → q < ss.length → nearM (-1, 7) kd ss gap p q = false := by
  intro p q hp hq
  unfold nearM
  have pos : 0 < (farZ kd (nthZ ss p) (nthZ ss q)).2 := farZ_pos kd (hs _ (getD_mem hp))
  obtain ⟨l, hl⟩ := he
  have nn := far_nn (kd := kd) (xs := nthZ ss p) (ys := nthZ ss q) (by rw [hl _ (getD_mem hp), hl _ (getD_mem hq)]) (hs _ (getD_mem hp))
  generalize farZ kd (nthZ ss p) (nthZ ss q) = f at *
  have : lessZ (-1, 7) f = true := by
    rw [← Bool.not_eq_true, lessZ_iff] at nn
    rw [lessZ_iff]
    simp only at nn ⊢
    omega
  simp [this]
/-! ### chains -/
theorem chain_one {g : Nat → Nat} : ∀ {r : List Nat} {p : Nat}, (∀ x ∈ nb (p :: r), g x.1 = g x.2) → ∀ x ∈ p :: r, g x = g p
  | [], p, _, x, hx => by simp at hx; rw [hx]
  | q :: r, p, h, x, hx => by
    rcases List.mem_cons.mp hx with rfl | hx
    · rfl
    · have h1 := h (p, q) (by rw [nb_cons]; simp)
      have := chain_one (r := r) (p := q) (fun y hy => h y (by rw [nb_cons]; exact List.mem_cons_of_mem _ hy)) x hx
      rw [this]
      exact h1.symm
theorem lead_edge {kd : Kd} {ss : List (List Int)} {gap p q : Nat} (hs : ∀ s ∈ ss, 0 < s.length) (hp : p < ss.length) (h : leadZ (nextZ kd ss gap) p = some q) : p + gap ≤ q ∧ q < ss.length := next_gt1 hs hp (lead_iff.mp h).1
def mostI (kd : Kd) (ss : List (List Int)) (c : List Nat) (i : Nat) (m : Int × Int) : Prop := 0 < m.2 ∧ (Bn 47 m.1 ∧ Bn 47 m.2) ∧ ∀ x ∈ (nb c).take i, lessZ m (farAt kd ss x.1 x.2) = false
theorem most_next {kd : Kd} {ss : List (List Int)} {c : List Nat} {i : Nat} {m : Int × Int} {x : Nat × Nat} (hs : Fine 9 ss) (hs0 : ∀ s ∈ ss, 0 < s.length) (hc : ∀ y ∈ nb c, y.1 < ss.length ∧ y.2 < ss.length) (hx : (nb c)[i]? = some x) (h : mostI kd ss c i m) :
    mostI kd ss c (i + 1) (if lessZ m (farAt kd ss x.1 x.2) = true then farAt kd ss x.1 x.2 else m) := by
  have hxm := hc x (List.mem_of_getElem? hx)
  have px : 0 < (farAt kd ss x.1 x.2).2 := farZ_pos kd (hs0 _ (getD_mem hxm.1))
  have bx : Bn 47 (farAt kd ss x.1 x.2).1 ∧ Bn 47 (farAt kd ss x.1 x.2).2 := farAt_bn (k := 9) kd hs hxm.1 hxm.2
  have tk : (nb c).take (i + 1) = (nb c).take i ++ [x] := by rw [List.take_succ, hx]; rfl
  obtain ⟨h1, h2, h3⟩ := h
  by_cases hl : lessZ m (farAt kd ss x.1 x.2) = true
  · rw [if_pos hl]
    refine ⟨px, bx, fun y hy => ?_⟩
    rw [tk] at hy
    rcases List.mem_append.mp hy with hy | hy
    · have hyn := hc y (List.mem_of_mem_take hy)
      cases e : lessZ (farAt kd ss x.1 x.2) (farAt kd ss y.1 y.2) with
      | false => rfl
      | true =>
        have := less_trans h1 px (farZ_pos kd (hs0 _ (getD_mem hyn.1))) hl e
        have h3 := h3 y hy
        unfold farAt at h3
        unfold farAt at this
        rw [h3] at this
        cases this
    · simp at hy
      subst hy
      exact lessZ_irr
  · rw [if_neg hl]
    refine ⟨h1, h2, fun y hy => ?_⟩
    rw [tk] at hy
    rcases List.mem_append.mp hy with hy | hy
    · exact h3 y hy
    · simp at hy
      subst hy
      simpa using hl
theorem tput_key {T : Tb} {k : List Int} {v : D} {x : List Int × D} (h : x ∈ tput T k v) : x.1 = k ∨ ∃ y ∈ T, x.1 = y.1 := by
  unfold tput at h
  split at h
  · obtain ⟨y, hy, rfl⟩ := List.mem_map.mp h
    refine .inr ⟨y, hy, ?_⟩
    split <;> rfl
  · rcases List.mem_append.mp h with h | h
    · exact .inr ⟨x, h, rfl⟩
    · simp at h
      exact .inl (by rw [h])
structure Fill (kd : Kd) (ss : List (List Int)) (i j : Nat) (T : Tb) : Prop where
  len : T.length ≤ i * ss.length + j
  at_ : ∀ p q : Nat, p < ss.length → q < ss.length → p < i ∨ (p = i ∧ q < j) → look T [(p : Int), (q : Int)] = some (frD (farAt kd ss p q))
  key : ∀ x ∈ T, ∃ p q : Nat, p < ss.length ∧ q < ss.length ∧ x.1 = [(p : Int), (q : Int)]
theorem Fill.put {kd : Kd} {ss : List (List Int)} {i j : Nat} {T : Tb} (h : Fill kd ss i j T) (hi : i < ss.length) (hj : j < ss.length) : Fill kd ss i (j + 1) (tput T [(i : Int), (j : Int)] (frD (farAt kd ss i j))) := by
  refine ⟨?_, ?_, ?_⟩
  · have := tput_len (T := T) (k := [(i : Int), (j : Int)]) (v := frD (farAt kd ss i j))
    have := h.len
    omega
  · intro p q hp hq hc
    rw [look_put]
    by_cases e : p = i ∧ q = j
    · obtain ⟨rfl, rfl⟩ := e
      simp
    · have ne : ¬ ([(p : Int), (q : Int)] = [(i : Int), (j : Int)]) := by
        simp
        intro h1 h2
        omega
      rw [if_neg ne]
      exact h.at_ p q hp hq (by omega)
  · intro x hx
    rcases tput_key hx with e | ⟨y, hy, e⟩
    · exact ⟨i, j, hi, hj, e⟩
    · obtain ⟨p, q, h1, h2, h3⟩ := h.key y hy
      exact ⟨p, q, h1, h2, by rw [e, h3]⟩
theorem Fill.row {kd : Kd} {ss : List (List Int)} {i : Nat} {T : Tb} (h : Fill kd ss i ss.length T) : Fill kd ss (i + 1) 0 T := by
  refine ⟨?_, fun p q hp hq hc => h.at_ p q hp hq (by omega), h.key⟩
  have := h.len
  rw [Nat.add_mul]
  omega
theorem Fill.all {kd : Kd} {ss : List (List Int)} {T : Tb} (h : Fill kd ss ss.length 0 T) : FarT kd ss T := ⟨fun p q hp hq => h.at_ p q hp hq (by omega), h.key⟩
theorem fill_nil {kd : Kd} {ss : List (List Int)} : Fill kd ss 0 0 [] := ⟨by simp, fun p q hp hq hc => by omega, by simp⟩
theorem chain_facts {L : Nat → Option Nat} {n : Nat} {c : List Nat} (hR : Rise L n) (h : c ∈ chainsZ L n) : ∃ p r, c = p :: r ∧ c.length ≤ n ∧ (∀ x ∈ c, x < n) ∧ ∀ a b, (a, b) ∈ nb c → a < n ∧ L a = some b := by
  unfold chainsZ at h
  obtain ⟨p, hp, rfl⟩ := List.mem_map.mp h
  have hpn := (st_mem.mp hp).1
  obtain ⟨r, hr⟩ := ch_head hR p hpn
  have hm : ∀ x ∈ chN L n p, x < n := fun x hx => (ch_mem hR p hpn x hx).2
  have nd : (chN L n p).Nodup := (ch_up hR p hpn).imp fun h => Nat.ne_of_lt h
  have hl := le_of_nodup nd (l2 := List.range n) (fun x hx => List.mem_range.mpr (hm x hx))
  refine ⟨p, r, hr, by simpa using hl, hm, fun a b hab => ?_⟩
  obtain ⟨h1, h2⟩ := (ch_nb hR p hpn a b).mp hab
  exact ⟨hm a h1, h2⟩
def mostS (kd : Kd) (ss : List (List Int)) (bs : DEnv) (la mk : D) (c : List Nat) (T : Tb) (M5 : DSt) (i : Nat) (ρ : DEnv) (M : DSt) (T' : Tb) : Prop := T' = T ∧ M = M5 ∧ ∃ m, mostI kd ss c i m ∧ ρ = bs ++ [none, none, some (.d la), some (.d mk), none, none, none, some (.d (cD c)), some (.d (frD m))]
def TuI (kd : Kd) (ss : List (List Int)) (gap m : Nat) (envT : D → D → DEnv) (T : Tb) (j : Nat) (ρ : DEnv) (M : DSt) (T' : Tb) : Prop := T' = T ∧ ∃ (R1 : Nat → Nat → Bool) (g1 : Nat → Nat) (F : Int × Int), GS ss.length R1 g1 ∧ 0 < F.2 ∧ (Bn 47 F.1 ∧ Bn 47 F.2) ∧ (∀ p q, p < ss.length → q < ss.length → R1 p q = true → nearM F kd ss gap p q = true) ∧ Pu (10 ^ 7 + 8 * j) m M ∧ ρ = envT (.lst (lotsD ss.length g1)) (frD F)
theorem law_true (ns : List Int) (hl : ns.length ≤ 63) (hb : ∀ z ∈ ns, z.natAbs.log2 < 1048577) : ∃ M, f_law [.r (ns.map D.int)] [] = some (.d (.bl true), M) := by
  suffices h : Ok (f_law [.r (ns.map D.int)] []) fun p => p.1 = .d (.bl true) by
    obtain ⟨⟨v, M⟩, e, h⟩ := h
    simp only at h
    subst h
    exact ⟨M, e⟩
  unfold f_law
  rw [ok_fn]
  simp [b_law, startD, -seqP_nx]
  refine forL_by _ (fun _ ρ _ => ρ = [some (.r (ns.map D.int)), none, none, none, none, none, none, none, none, none, none, none, none, none, none, none, none, none]) rfl ?_ ?_
  · rintro i x ρ M hx rfl
    obtain ⟨hi, rfl⟩ := rng_at.mp hx
    refine ⟨by simp, ?_⟩
    simp [-seqP_nx]
    refine (purse_ok (by omega)).mono ?_
    rintro _ ⟨x, rfl, a, c, q, rfl, q0, q1⟩
    have h0 : Pu 1000000 M.length (M ++ [some [.int a, .int c, .int q]]) := ⟨a, c, q, by simp, q0, q1⟩
    generalize M ++ [some [.int a, .int c, .int q]] = M0 at *
    generalize M.length = m at *
    simp [-seqP_nx]
    refine seqP_nx.mpr ?_
    simp [-seqP_nx]
    refine (one_ok h0 (by decide)).mono ?_
    rintro _ ⟨xs, M1, rx, xl, hM1, rfl⟩
    simp [-seqP_nx, ↓ok_frz hM1.len, cut24]
    refine seqP_nx.mpr ?_
    have ry := row_take rx 24
    have yl : (xs.take 24).length ≤ 24 := by simp; omega
    try rw [← List.map_take]
    generalize xs.take 24 = ys at *
    clear rx xl xs
    have P1 := hM1.1
    clear hM1 h0
    simp [-seqP_nx]
    refine (kind_ok P1 (by decide)).mono ?_
    rintro ⟨v, M2⟩ ⟨kd, hv, hM2⟩
    simp only at hv
    subst hv
    have P2 := hM2.1
    simp [-seqP_nx]
    refine seqP_nx.mpr ?_
    simp [-seqP_nx]
    have gk := gap_ok (xs := ys) (by omega) P2 (by decide)
    simp only [rowD] at gk
    refine gk.mono ?_
    rintro ⟨v, M3⟩ ⟨gap, g0, g1, hv, hM3⟩
    simp only at hv
    subst hv
    have P3 := hM3.1
    simp [-seqP_nx]
    refine seqP_nx.mpr ?_
    simp [-seqP_nx]
    have lk := length_ok (xs := ys) P3 (by decide)
    simp only [rowD] at lk
    refine lk.mono ?_
    rintro ⟨v, M4⟩ ⟨l, l0, l1, hv, hM4⟩
    simp only at hv
    subst hv
    have P4 : Pu (10 ^ 7) m M4 := hM4.1.mono (by decide)
    clear hM4 hM3 hM2 P1 P2 P3 gk lk
    have hs := stretches_fine ry (show 0 < l by omega)
    have he : Even (stretchesZ ys l) := stretches_even
    have hlen : (stretchesZ ys l).length = ys.length + 1 - l := stretches_len
    have hs0 : ∀ s ∈ stretchesZ ys l, 0 < s.length := fun s h => (hs.1 s h).2
    have hR := lead_rise (kd := kd) (ss := stretchesZ ys l) hs0 g0
    have e1 := fun M p q (hp : p < (stretchesZ ys l).length) (hq : q < (stretchesZ ys l).length) => far_eq (M := M) (p := p) (q := q) kd ry (by decide) l0 l1 (by omega) (by omega)
    have e2 := fun M => chainsF_ok (M := M) kd ry l0 l1 g0 g1
    have e3 := fun M F hF => lots_eq (M := M) (F := F) kd hF ry l0 l1 g0 g1
    have hG := fun F => gN_spec (kd := kd) (gap := gap) (F := F) he g0
    have hmany : (if (0 : Int) < (ys.length : Int) - (l : Int) + 1 then (ys.length : Int) - (l : Int) + 1 else 0) = ((stretchesZ ys l).length : Int) := by
      rw [hlen]
      split <;> omega
    have hmono := fun F F' h h' h2 => near_mono (F := F) (F' := F') (kd := kd) (gap := gap) hs0 h h' h2
    have hneg := near_neg (kd := kd) (gap := gap) hs0 he
    have hlead := fun p q hp h => lead_edge (kd := kd) (gap := gap) (p := p) (q := q) hs0 hp h
    have hfine := fun M F T g hF hT G => fine_eq (M := M) (gap := gap) (F := F) (T := T) (g := g) kd hs hF hT G
    generalize stretchesZ ys l = ss at *
    have hn := hs.2
    have hn24 : ss.length ≤ 24 := by omega
    simp [-seqP_nx]
    refine seqP_nx.mpr ?_
    simp [-seqP_nx]
    rw [hmany]
    clear hmany
    refine seqP_nx.mpr ?_
    simp [-seqP_nx]
    refine ⟨by omega, ?_⟩
    let bs : DEnv := [some (.r (ns.map D.int)), some (.d (.int i)), some (.c m), some (.d (.lst (ys.map D.int))), some (.d kd.s), some (.d (.int gap)), some (.d (.int l)), some (.d (.int ss.length)), none]
    refine Ok.mono (P := fun o => ∃ T, FarT kd ss T ∧ o = (.nx (bs ++ [none, none, none, none, none, none, none, none, none]) M4, T)) ?_ ?_
    · refine forK_by _ (fun p ρ M T => M = M4 ∧ ρ = bs ++ [none, none, none, none, none, none, none, none, none] ∧ Fill kd ss p 0 T) ⟨rfl, rfl, fill_nil⟩ ?_ ?_
      · rintro p x ρ M T hx ⟨rfl, rfl, fi⟩
        obtain ⟨hp, rfl⟩ := rng_at.mp hx
        refine ⟨by simp, ?_⟩
        simp only [bs]
        simp
        refine ⟨by omega, ?_⟩
        refine forK_by _ (fun q ρ M1 T => M1 = M ∧ ρ = bs ++ [some (.d (.int p)), none, none, none, none, none, none, none, none] ∧ Fill kd ss p q T) ⟨rfl, by simp [bs], fi⟩ ?_ ?_
        · rintro q x ρ M1 T hx2 ⟨rfl, rfl, fi⟩
          obtain ⟨hq, rfl⟩ := rng_at.mp hx2
          refine ⟨by simp, ?_⟩
          have e1' := fun M => e1 M p q hp hq
          simp only [rowD] at e1'
          simp only [bs]
          simp [↓okE (e1' _)]
          have h1 := fi.len
          have h2 : p * ss.length ≤ 24 * 24 := Nat.mul_le_mul (by omega) hn24
          exact ⟨[(p : Int), (q : Int)], rfl, ⟨by simp, by omega⟩, fi.put hp hq⟩
        · rintro ρ M1 T ⟨rfl, rfl, fi⟩
          refine ⟨by simp, ?_⟩
          simp only [rng_len] at fi
          simp only [bs]
          simp
          exact fi.row
      · rintro ρ M T ⟨rfl, rfl, fi⟩
        refine ⟨by simp, ?_⟩
        simp only [rng_len] at fi
        exact ⟨T, fi.all, rfl⟩
    rintro _ ⟨T, hT, rfl⟩
    simp only [bs]
    refine seqK_nx.mpr ?_
    have bM : Bn 47 (-1 : Int) ∧ Bn 47 (7 : Int) := ⟨(Bn.lit (k := 10) (by omega) (by omega)).mono (by decide), (Bn.lit (k := 10) (by omega) (by omega)).mono (by decide)⟩
    have l0' := fun M => e3 M (-1, 7) bM
    have sing := lots_single (n := ss.length) (g := gN kd ss gap (-1, 7)) (fun p hp => single (hG (-1, 7)) hneg hp)
    rw [sing] at l0'
    have f17 : frD (-1, 7) = D.tup [.int (-1), .int 7] := rfl
    simp only [rowD, f17] at l0'
    have shS : (D.lst ((List.range ss.length).map fun p : Nat => D.lst [.int p])).shp 9 = true := by simp [D.shp]
    simp [↓okE (l0' _), ↓ok_frz rfl]
    refine ⟨by omega, by omega, ?_⟩
    rw [rng0]
    refine comp_map (fun p : Nat => .lst [.int (p : Int)]) (by simp) ?_ ?_
    · intro p hp
      simp
    simp [↓ok_neSame shS]
    refine seqK_nx.mpr ?_
    simp
    refine ⟨by omega, by omega, ?_⟩
    rw [rng0]
    refine comp_map (fun p : Nat => .lst [.int (p : Int)]) (by simp) ?_ ?_
    · intro p hp
      simp
    simp
    refine seqK_nx.mpr ?_
    simp
    refine seqK_nx.mpr ?_
    simp
    clear sing l0' shS f17 bM e1 hneg
    refine ⟨by split <;> omega, ?_⟩
    have hat := hT.at_
    let envT : D → D → DEnv := fun la mk => bs ++ [none, none, some (.d la), some (.d mk), none, none, none, none, none]
    refine Ok.mono (P := fun o => ∃ M5 la mk, o = (.nx (envT la mk) M5, T)) ?_ ?_
    · refine forK_by _ (TuI kd ss gap m envT T) ⟨rfl, fun _ _ => false, fun p => p, (0, 1), id_spec, by decide, ⟨(Bn.lit (k := 10) (by omega) (by omega)).mono (by decide), (Bn.lit (k := 10) (by omega) (by omega)).mono (by decide)⟩, by simp, by simpa using P4, ?_⟩ ?_ ?_
      · rw [lots_single (fun _ _ => rfl)]
        rfl
      · rintro j x ρ M T' hx ⟨rfl, R1, g1, F, G1, F0, bF, hR1, pu, rfl⟩
        obtain ⟨hj, rfl⟩ := rng_at.mp hx
        have hn0 : 0 < ss.length := by
          by_cases h : 0 < ss.length
          · exact h
          · simp [h] at hj
        have hj3 : j < 3 := by
          simp [hn0] at hj
          exact hj
        refine ⟨by simp, ?_⟩
        simp only [envT, bs]
        simp
        refine (draw_ok pu (by omega) (by omega) (by omega)).mono ?_
        rintro ⟨v, M5⟩ ⟨r1, hr1, hv, hM5⟩
        simp only at hv
        subst hv
        have pu5 := hM5.1
        simp
        refine (draw_ok pu5 (by omega) (by omega) (by omega)).mono ?_
        rintro ⟨v, M6⟩ ⟨r2, hr2, hv, hM6⟩
        simp only at hv
        subst hv
        have pu6 := hM6.1
        simp only at pu6
        clear hM5 hM6 pu pu5
        have ky : keyI true (.tup [.int (r1 : Int), .int (r2 : Int)]) = some [(r1 : Int), (r2 : Int)] := rfl
        have lk := hat r1 r2 (by omega) (by omega)
        have fp : 0 < (farAt kd ss r1 r2).2 := farZ_pos kd (hs0 _ (getD_mem (by omega)))
        have fb : Bn 47 (farAt kd ss r1 r2).1 ∧ Bn 47 (farAt kd ss r1 r2).2 := farAt_bn (k := 9) kd hs (by omega) (by omega)
        have le := fun M => less_eq (M := M) bF fb (by omega)
        simp [ky, lk]
        refine seqK_nx.mpr ?_
        generalize farAt kd ss r1 r2 = f at *
        obtain ⟨F', hF', F0', bF', hc⟩ : ∃ F' : Int × Int, F' = (if lessZ F f = true then f else F) ∧ 0 < F'.2 ∧ (Bn 47 F'.1 ∧ Bn 47 F'.2) ∧ (F = F' ∨ lessZ F F' = true) := by
          by_cases h : lessZ F f = true
          · exact ⟨f, by rw [if_pos h], fp, fb, .inr h⟩
          · exact ⟨F, by rw [if_neg h], F0, bF, .inl rfl⟩
        rw [ok_kSeq]
        refine Ok.mono (P := fun o => o = (.nx (bs ++ [none, none, some (.d (.lst (lotsD ss.length g1))), some (.d (frD F')), some (.d (.int j)), some (.d (frD f)), none, none, none]) M6, T')) ?_ ?_
        · simp only [bs]
          simp [↓okE (le _)]
          rw [hF']
          cases lessZ F f <;> simp
        rintro _ rfl
        simp only [bs]
        refine seqK_nx.mpr ?_
        have lo := fun M => e3 M F' bF'
        simp only [rowD] at lo
        simp [↓okE (lo _), ↓ok_frz rfl]
        refine seqK_nx.mpr ?_
        have fi := fun M => hfine M F' T' (gN kd ss gap F') bF' hT (hG F')
        have wi := fun M => within_lots (M := M) hn G1 (hG F') (fun p q hp hq h => hmono F F' F0 F0' hc p q hp hq (hR1 p q hp hq h))
        simp
        rw [ok_loan (M1 := M6) (vs := [.d (.lst (lotsD ss.length (gN kd ss gap F'))), .k true T', .d (.int ss.length), .d (.int gap), .d (frD F')]) (by simp) (fi M6)]
        simp [↓okE (wi _)]
        refine seqK_nx.mpr ?_
        simp
        exact ⟨rfl, nearM F' kd ss gap, gN kd ss gap F', F', hG F', F0', bF', fun _ _ _ _ h => h, pu6.mono (by omega), by simp [envT, bs]⟩
      · rintro ρ M T' ⟨rfl, R1, g1, F, _, _, _, _, _, rfl⟩
        exact ⟨by simp, M, _, _, rfl⟩
    rintro _ ⟨M5, la, mk, rfl⟩
    simp only [envT, bs]
    refine seqK_nx.mpr ?_
    have ec := fun M => e2 M
    simp only [rowD] at ec
    simp [↓okE (ec _), ↓ok_frz rfl]
    refine forK_by _ (fun _ ρ M T' => M = M5 ∧ T' = T ∧ ρ = bs ++ [none, none, some (.d la), some (.d mk), none, none, none, none, none]) ⟨rfl, rfl, rfl⟩ ?_ ?_
    · rintro j x ρ M T' hx ⟨rfl, rfl, rfl⟩
      refine ⟨by simp, ?_⟩
      rw [List.getElem?_map, Option.map_eq_some_iff] at hx
      obtain ⟨c, hc, rfl⟩ := hx
      obtain ⟨p, r, ecp, cl, cn, ce⟩ := chain_facts hR (List.mem_of_getElem? hc)
      have hnb : ∀ y ∈ nb c, y.1 < ss.length ∧ y.2 < ss.length := fun y hy => by
        obtain ⟨h1, h2⟩ := ce y.1 y.2 hy
        exact ⟨h1, (hlead y.1 y.2 h1 h2).2⟩
      simp only [bs]
      simp
      refine seqK_nx.mpr ?_
      simp
      have f01 : D.tup [.int 0, .int 1] = frD (0, 1) := rfl
      simp only [f01]
      have sl : ∀ M : DSt, slU false (.d (cD c)) (some 1) none M = some (.d (.lst (cutD (natsD c) (some 1) none)), M) := fun M => by
        apply ok_eq
        simp [cD]
      have lc : ∀ M : DSt, lv M (.d (cD c)) = some (natsD c) := fun _ => rfl
      rw [okE (sl _)]
      simp [lc, zip_nb]
      refine Ok.mono (P := fun o => ∃ ms, mostI kd ss c (nb c).length ms ∧ o = (.nx (bs ++ [none, none, some (.d la), some (.d mk), none, none, none, some (.d (cD c)), some (.d (frD ms))]) M, T')) ?_ ?_
      · refine forK_by _ (mostS kd ss bs la mk c T' M) ⟨rfl, rfl, (0, 1), ⟨by decide, ⟨(Bn.lit (k := 10) (by omega) (by omega)).mono (by decide), (Bn.lit (k := 10) (by omega) (by omega)).mono (by decide)⟩, by simp⟩, rfl⟩ ?_ ?_
        · rintro u x ρ M2 T2 hx2 ⟨rfl, rfl, ms, hms, rfl⟩
          refine ⟨by simp, ?_⟩
          rw [List.getElem?_map, Option.map_eq_some_iff] at hx2
          obtain ⟨y, hy, rfl⟩ := hx2
          have hyn := hnb y (List.mem_of_getElem? hy)
          have ky : keyI true (.tup [.int (y.1 : Int), .int (y.2 : Int)]) = some [(y.1 : Int), (y.2 : Int)] := rfl
          have lk := hat y.1 y.2 hyn.1 hyn.2
          have fb : Bn 47 (farAt kd ss y.1 y.2).1 ∧ Bn 47 (farAt kd ss y.1 y.2).2 := farAt_bn (k := 9) kd hs hyn.1 hyn.2
          have le := fun M => less_eq (M := M) hms.2.1 fb (by omega)
          have nx := most_next hs hs0 hnb hy hms
          simp only [bs, pD]
          simp [ky, lk, ↓okE (le _)]
          cases hl : lessZ ms (farAt kd ss y.1 y.2) with
          | true =>
            simp [hl] at nx
            simp [ky, lk]
            exact ⟨rfl, rfl, _, nx, rfl⟩
          | false =>
            simp [hl] at nx
            simp
            exact ⟨rfl, rfl, _, nx, rfl⟩
        · rintro ρ M2 T2 ⟨rfl, rfl, ms, hms, rfl⟩
          refine ⟨by simp, ms, ?_, rfl⟩
          simpa using hms
      rintro _ ⟨ms, ⟨ms0, msB, msL⟩, rfl⟩
      rw [List.take_length] at msL
      simp only [bs]
      refine seqK_nx.mpr ?_
      have lo := fun M => e3 M ms msB
      simp only [rowD] at lo
      have wi := fun M => within_one (M := M) (p := p) (r := r) hn (hG ms) (by rw [← ecp]; omega) (by
        rw [← ecp]
        intro x hx
        refine ⟨cn x hx, ?_⟩
        rw [ecp] at hx
        refine chain_one (g := gN kd ss gap ms) (r := r) (p := p) ?_ x hx
        intro y hy
        rw [← ecp] at hy
        obtain ⟨h1, h2⟩ := ce y.1 y.2 hy
        have h3 := hlead y.1 y.2 h1 h2
        refine (hG ms).edge y.1 y.2 h1 h3.2 ?_
        have h4 := msL y hy
        unfold farAt at h4
        unfold nearM apartB
        simp [h4]
        omega)
      rw [← ecp] at wi
      simp [↓okE (lo _), ↓ok_frz rfl, ↓okE (wi _)]
    · rintro ρ M T' ⟨rfl, rfl, rfl⟩
      refine ⟨by simp, ?_⟩
      simp [bs]
  · rintro ρ M rfl
    simp
end Lk70
end PMk70
section PZk70
open PySem PySem.W PyProof.Rows
set_option Elab.async false
set_option maxRecDepth 100000 in
set_option maxHeartbeats 0 in
theorem PySem.Challenge.cw_rowecho_k70_whole_lots_holds : PySem.Challenge.rw_rowecho_k70_whole_lots.Holds := by
  w_on; o_law; k_head; (case hw => w_witness2)
  k_fill
  refine L2.walk_ofB (l := PySem.Challenge.rw_rowecho_k70_whole_lots) (n := 63) (k := 8) (x := "_law_script") (CX := fun _ => L2.CX0) (sp := fun w => Rw.spD _ Lk70.f_law 1) rfl (by decide) rfl ⟨rfl, by decide, by decide⟩ (fun w h Y => PySem.W.kIn_of Y) ?F (fun _ _ a ns hl hb _ hS => (Lk70.law_true ns hl (Rw.bits_log hb)).elim fun _ h => Rw.law_sp hS h) (fun _ _ _ _ _ h => h)
  case F =>
    intro w mg fa h KX G hmg
    refine' Lk70.all_mk KX G hmg ?a1 ?l1 ?c1 ?k1 ?a2 ?l2 ?c2 ?k2 ?a3 ?l3 ?c3 ?k3 ?a4 ?l4 ?c4 ?k4 ?a5 ?l5 ?c5 ?k5 ?a6 ?l6 ?c6 ?k6 ?a7 ?l7 ?c7 ?k7 ?a8 ?l8 ?c8 ?k8 ?a9 ?l9 ?c9 ?k9 ?a10 ?l10 ?c10 ?k10 ?a11 ?l11 ?c11 ?k11 ?a12 ?l12 ?c12 ?k12 ?a13 ?l13 ?c13 ?k13 ?a14 ?l14 ?c14 ?k14 ?a15 ?l15 ?c15 ?k15 ?a16 ?l16 ?c16 ?k16 ?a17 ?l17 ?c17 ?k17 ?a18 ?l18 ?c18 ?k18 ?a19 ?l19 ?c19 ?k19 ?a20 ?l20 ?c20 ?k20 ?a21 ?l21 ?c21 ?k21 ?a22 ?l22 ?c22 ?k22 ?a23 ?l23 ?c23 ?k23 ?a24 ?l24 ?c24 ?k24 ?a25 ?l25 ?c25 ?k25 ?a26 ?l26 ?c26 ?k26 ?a27 ?l27 ?c27 ?k27 ?a28 ?l28 ?c28 ?k28 ?a29 ?l29 ?c29 ?k29 ?a30 ?l30 ?c30 ?k30 ?a31 ?l31 ?c31 ?k31 ?a32 ?l32 ?c32 ?k32 ?a33 ?l33 ?c33 ?k33 ?a34 ?l34 ?c34 ?k34 ?a35 ?l35 ?c35 ?k35 ?a36 ?l36 ?c36 ?k36 ?a37 ?l37 ?c37 ?k37 ?zz_len ?zz_max ?zz_int ?zz_range ?zz_min ?zz_enumerate ?zz_sum ?zz_abs ?zz_zip ?zz_list ?zz_sorted ?ga1_KINDS ?ga2_KINDS ?ga1_MOST_GAP ?ga1_MOST_LENGTH
    (case a1 => k_is)
    (case l1 => k_is)
    (case c1 => k_is)
    (case k1 => k_is)
    (case a2 => k_is)
    (case l2 => k_is)
    (case c2 => k_is)
    (case k2 => k_is)
    (case a3 => k_is)
    (case l3 => k_is)
    (case c3 => k_is)
    (case k3 => k_is)
    (case a4 => k_is)
    (case l4 => k_is)
    (case c4 => k_is)
    (case k4 => k_is)
    (case a5 => k_is)
    (case l5 => k_is)
    (case c5 => k_is)
    (case k5 => k_is)
    (case a6 => k_is)
    (case l6 => k_is)
    (case c6 => k_is)
    (case k6 => k_is)
    (case a7 => k_is)
    (case l7 => k_is)
    (case c7 => k_is)
    (case k7 => k_is)
    (case a8 => k_is)
    (case l8 => k_is)
    (case c8 => k_is)
    (case k8 => k_is)
    (case a9 => k_is)
    (case l9 => k_is)
    (case c9 => k_is)
    (case k9 => k_is)
    (case a10 => k_is)
    (case l10 => k_is)
    (case c10 => k_is)
    (case k10 => k_is)
    (case a11 => k_is)
    (case l11 => k_is)
    (case c11 => k_is)
    (case k11 => k_is)
    (case a12 => k_is)
    (case l12 => k_is)
    (case c12 => k_is)
    (case k12 => k_is)
    (case a13 => k_is)
    (case l13 => k_is)
    (case c13 => k_is)
    (case k13 => k_is)
    (case a14 => k_is)
    (case l14 => k_is)
    (case c14 => k_is)
    (case k14 => k_is)
    (case a15 => k_is)
    (case l15 => k_is)
    (case c15 => k_is)
    (case k15 => k_is)
    (case a16 => k_is)
    (case l16 => k_is)
    (case c16 => k_is)
    (case k16 => k_is)
    (case a17 => k_is)
    (case l17 => k_is)
    (case c17 => k_is)
    (case k17 => k_is)
    (case a18 => k_is)
    (case l18 => k_is)
    (case c18 => k_is)
    (case k18 => k_is)
    (case a19 => k_is)
    (case l19 => k_is)
    (case c19 => k_is)
    (case k19 => k_is)
    (case a20 => k_is)
    (case l20 => k_is)
    (case c20 => k_is)
    (case k20 => k_is)
    (case a21 => k_is)
    (case l21 => k_is)
    (case c21 => k_is)
    (case k21 => k_is)
    (case a22 => k_is)
    (case l22 => k_is)
    (case c22 => k_is)
    (case k22 => k_is)
    (case a23 => k_is)
    (case l23 => k_is)
    (case c23 => k_is)
    (case k23 => k_is)
    (case a24 => k_is)
    (case l24 => k_is)
    (case c24 => k_is)
    (case k24 => k_is)
    (case a25 => k_is)
    (case l25 => k_is)
    (case c25 => k_is)
    (case k25 => k_is)
    (case a26 => k_is)
    (case l26 => k_is)
    (case c26 => k_is)
    (case k26 => k_is)
    (case a27 => k_is)
    (case l27 => k_is)
    (case c27 => k_is)
    (case k27 => k_is)
    (case a28 => k_is)
    (case l28 => k_is)
    (case c28 => k_is)
    (case k28 => k_is)
    (case a29 => k_is)
    (case l29 => k_is)
    (case c29 => k_is)
    (case k29 => k_is)
    (case a30 => k_is)
    (case l30 => k_is)
    (case c30 => k_is)
    (case k30 => k_is)
    (case a31 => k_is)
    (case l31 => k_is)
    (case c31 => k_is)
    (case k31 => k_is)
    (case a32 => k_is)
    (case l32 => k_is)
    (case c32 => k_is)
    (case k32 => k_is)
    (case a33 => k_is)
    (case l33 => k_is)
    (case c33 => k_is)
    (case k33 => k_is)
    (case a34 => k_is)
    (case l34 => k_is)
    (case c34 => k_is)
    (case k34 => k_is)
    (case a35 => k_is)
    (case l35 => k_is)
    (case c35 => k_is)
    (case k35 => k_is)
    (case a36 => k_is)
    (case l36 => k_is)
    (case c36 => k_is)
    (case k36 => k_is)
    (case a37 => k_is)
    (case l37 => k_is)
    (case c37 => k_is)
    (case k37 => k_is)
    (case zz_len => k_is)
    (case zz_max => k_is)
    (case zz_int => k_is)
    (case zz_range => k_is)
    (case zz_min => k_is)
    (case zz_enumerate => k_is)
    (case zz_sum => k_is)
    (case zz_abs => k_is)
    (case zz_zip => k_is)
    (case zz_list => k_is)
    (case zz_sorted => k_is)
    (case ga1_KINDS => k_is)
    (case ga2_KINDS => k_is)
    (case ga1_MOST_GAP => k_is)
    (case ga1_MOST_LENGTH => k_is)
#print axioms PySem.Challenge.cw_rowecho_k70_whole_lots_holds
end PZk70
