import PyProof.Rows.All
import Wide.All
import OpenK.AllK
import Wide.FinOn
import PyProof.EqAt
import PyProof.EqKinds
import PyProof.TupleCall
import HandS.ForMost
import HandS.Walk
import HandS.Wide
import HandS.Evl
import HandS.EndBits
import HandS.IsInst
import HandS.SortInts
import HandS.Exc
import HandS.TupAny
import HandS.Style
import HandS.Conv
import HandS.More
import HandS.NoneIn
import HandS.Iter
import HandS.TupLe
import HandS.TryOnly
import HandS.ExcOwn
import HandS.WordsExc
import HandS.ExcIs
import KE.KIsAll
import HandS.ExcValue
import HandS.Text
import HandS.Zip
import HandS.Deep
import HandS.Defaults
import HandS.Remove
import KE.DataMinMax
import KE.SortData
import KE.DataFind
import PySem.Challenge.RW_rowecho_k95_whole_bent_papers
section PRwSem
set_option autoImplicit false
set_option linter.all false
/-! RwSem: a pure reading of the program: data D, values Dv (data, a cell of the store, the script), an environment by slots, a store of lists that may change. Every construct is a function; nothing of the model is in sight. -/
namespace Rw
open PySem (Str)
noncomputable section

inductive D where
  | non | bl (b : Bool) | int (i : Int) | str (s : Str) | ty (n : String) | lst (xs : List D) | tup (xs : List D)
/-- a value: data that never changes, a cell of the store, a list that is only read (the script) -/
inductive Dv where
  | d (x : D) | c (n : Nat) | r (xs : List D)

abbrev DEnv := List (Option Dv)
abbrev DSt := List (Option (List D))
abbrev DE := DEnv → DSt → Option (Dv × DSt)
abbrev DT := DEnv → DSt → Option (Bool × DSt)
abbrev DA := DEnv → DSt → Option (List Dv × DSt)
abbrev DF := List Dv → DSt → Option (Dv × DSt)
inductive Out where
  | nx (ρ : DEnv) (M : DSt) | rt (v : Dv) (M : DSt) | bk (ρ : DEnv) (M : DSt) | ct (ρ : DEnv) (M : DSt)
abbrev DS := DEnv → DSt → Option Out
abbrev DI := DEnv → DSt → Option (List D × List Nat × DSt)

/-- the bound of lists here -/
abbrev big : Nat := 1000000
/-- only where p holds -/
def grd {α : Type} (p : Prop) (o : Option α) : Option α := open Classical in if p then o else none
theorem grd_ok {α : Type} {p : Prop} {o : Option α} (h : p) : grd p o = o := if_pos h
theorem grd_some {α : Type} {p : Prop} {o : Option α} {x : α} (h : grd p o = some x) : p ∧ o = some x := by
  unfold grd at h
  split at h
  · exact ⟨by assumption, h⟩
  · cases h

/-- the list that a value is -/
def lv (M : DSt) : Dv → Option (List D)
  | .d (.lst xs) => some xs
  | .c n => (M[n]?).join
  | .r xs => some xs
  | _ => none
/-- .. but the script -/
def lw (M : DSt) : Dv → Option (List D)
  | .d (.lst xs) => some xs
  | .c n => (M[n]?).join
  | _ => none
/-- a list or a tuple -/
def sv (M : DSt) : Dv → Option (List D)
  | .d (.tup xs) => some xs
  | v => lv M v
/-- data: a cell is read -/
def dv (M : DSt) : Dv → Option D
  | .d x => some x
  | .c n => ((M[n]?).join).map D.lst
  | .r xs => some (.lst xs)
/-- a new list: a cell (c), or data -/
def mkL (c : Bool) (xs : List D) (M : DSt) : Option (Dv × DSt) := match c with
  | true => some (.c M.length, M ++ [some xs])
  | false => some (.d (.lst xs), M)

/-! ### expressions -/
def eVar (i : Nat) : DE := fun ρ M => match ρ[i]? with
  | some (some x) => some (x, M)
  | _ => none
def eC (x : D) : DE := fun _ M => some (.d x, M)
def e1 (f : Dv → DSt → Option (Dv × DSt)) (a : DE) : DE := fun ρ M => match a ρ M with
  | some (x, M1) => f x M1
  | none => none
def e2 (f : Dv → Dv → DSt → Option (Dv × DSt)) (a b : DE) : DE := fun ρ M => match a ρ M with
  | some (x, M1) => match b ρ M1 with
    | some (y, M2) => f x y M2
    | none => none
  | none => none
def aNil : DA := fun _ M => some ([], M)
def aCons (a : DE) (as : DA) : DA := fun ρ M => match a ρ M with
  | some (x, M1) => match as ρ M1 with
    | some (xs, M2) => some (x :: xs, M2)
    | none => none
  | none => none
def eA (f : List Dv → DSt → Option (Dv × DSt)) (as : DA) : DE := fun ρ M => match as ρ M with
  | some (xs, M1) => f xs M1
  | none => none
/-- a chain of two comparisons -/
def eChain (f g : Dv → Dv → DSt → Option (Dv × DSt)) (a b c : DE) : DE := fun ρ M => match a ρ M with
  | some (x, M1) => match b ρ M1 with
    | some (y, M2) => match f x y M2 with
      | some (.d (.bl true), M3) => match c ρ M3 with
        | some (z, M4) => g y z M4
        | none => none
      | some (.d (.bl false), M3) => some (.d (.bl false), M3)
      | _ => none
    | none => none
  | none => none
def tVal (a : DE) : DT := fun ρ M => match a ρ M with
  | some (.d (.bl b), M1) => some (b, M1)
  | _ => none
def tAnd (a b : DT) : DT := fun ρ M => match a ρ M with
  | some (true, M1) => b ρ M1
  | some (false, M1) => some (false, M1)
  | none => none
def tOr (a b : DT) : DT := fun ρ M => match a ρ M with
  | some (true, M1) => some (true, M1)
  | some (false, M1) => b ρ M1
  | none => none
def tNot (a : DT) : DT := fun ρ M => match a ρ M with
  | some (b, M1) => some (!b, M1)
  | none => none
def tYes : DT := fun _ M => some (true, M)
def eIf (t : DT) (a b : DE) : DE := fun ρ M => match t ρ M with
  | some (true, M1) => a ρ M1
  | some (false, M1) => b ρ M1
  | none => none
def eAnd (a b : DE) : DE := fun ρ M => match a ρ M with
  | some (.d (.bl true), M1) => b ρ M1
  | some (.d (.bl false), M1) => some (.d (.bl false), M1)
  | _ => none
def eOr (a b : DE) : DE := fun ρ M => match a ρ M with
  | some (.d (.bl true), M1) => some (.d (.bl true), M1)
  | some (.d (.bl false), M1) => b ρ M1
  | _ => none
def eNot (a : DE) : DE := fun ρ M => match a ρ M with
  | some (.d (.bl b), M1) => some (.d (.bl (!b)), M1)
  | _ => none
/-- data alone -/
def allD : List Dv → Option (List D)
  | [] => some []
  | .d x :: r => (allD r).map (x :: ·)
  | _ :: _ => none
def eTup (as : DA) : DE := eA (fun vs M => match allD vs with
  | some xs => grd (xs.length ≤ big) (some (.d (.tup xs), M))
  | none => none) as
def eLst (c : Bool) (as : DA) : DE := eA (fun vs M => match allD vs with
  | some xs => grd (xs.length ≤ big) (mkL c xs M)
  | none => none) as
/-- a value that is handed on as data: a list that was just made (the last cell) is no cell any more -/
def frz (b : Nat) : Dv × DSt → Option (Dv × DSt)
  | (.d x, M) => some (.d x, M)
  | (.c n, M) => if n = b ∧ M.length = b + 1 then match (M[n]?).join with
      | some xs => some (.d (.lst xs), M.take b)
      | none => none
    else none
  | _ => none
def eFrz (a : DE) : DE := fun ρ M => match a ρ M with
  | some p => frz M.length p
  | none => none
/-- a cell is data from now on -/
def eFrzC (a : DE) : DE := fun ρ M => match a ρ M with
  | some (.c n, M1) => match (M1[n]?).join with
    | some xs => some (.d (.lst xs), M1.set n none)
    | none => none
  | _ => none

/-! ### operators -/
def iLn (i : Int) : Prop := i.natAbs.log2 < 4000000
def mulOk (i j : Int) : Prop := (-(2 ^ 64) < i ∧ i < 2 ^ 64) ∨ (-(2 ^ 64) < j ∧ j < 2 ^ 64) ∨ (iLn i ∧ iLn j)
def divOk (j : Int) : Prop := j ≠ 0 ∧ j.natAbs.log2 < 9000
def powOk (i j : Int) : Prop := 0 ≤ j ∧ j ≤ 1000000 ∧ i.natAbs < 2 ^ 64
abbrev O1 := Dv → DSt → Option (Dv × DSt)
abbrev O2 := Dv → Dv → DSt → Option (Dv × DSt)
abbrev OA := List Dv → DSt → Option (Dv × DSt)
/-- two intsD -/
def oI (f : Int → Int → D) : O2 := fun x y M => match x, y with
  | .d (.int i), .d (.int j) => some (.d (f i j), M)
  | _, _ => none
def oIg (p : Int → Int → Prop) (f : Int → Int → D) : O2 := fun x y M => match x, y with
  | .d (.int i), .d (.int j) => grd (p i j) (some (.d (f i j), M))
  | _, _ => none
def oAdd (c : Bool) : O2 := fun x y M => match x, y with
  | .d (.int i), .d (.int j) => some (.d (.int (i + j)), M)
  | .d (.str s), .d (.str t) => grd (s.length + t.length ≤ big) (some (.d (.str (s ++ t)), M))
  | .d (.tup xs), .d (.tup ys) => grd (xs ≠ [] ∧ ys ≠ [] ∧ xs.length + ys.length ≤ big) (some (.d (.tup (xs ++ ys)), M))
  | x, y => match lw M x, lw M y with
    | some xs, some ys => grd (xs.length + ys.length ≤ big) (mkL c (xs ++ ys) M)
    | _, _ => none
def oSub : O2 := oI fun i j => .int (i - j)
def oMul : O2 := oIg mulOk fun i j => .int (i * j)
/-- a list so many times -/
def oRep (c : Bool) : O2 := fun x y M => match lw M x, y with
  | some xs, .d (.int k) => grd (-(2 ^ 62) ≤ k ∧ k < 2 ^ 62 ∧ xs.length * k.toNat ≤ big) (mkL c (List.replicate k.toNat xs).flatten M)
  | _, _ => none
/-- ints, or a list so many times -/
def oMulU (c : Bool) : O2 := fun x y M => match x, y with
  | .d (.int i), .d (.int j) => grd (mulOk i j) (some (.d (.int (i * j)), M))
  | x, y => oRep c x y M
def oDiv : O2 := oIg (fun _ j => divOk j) fun i j => .int (i.fdiv j)
def oMod : O2 := oIg (fun _ j => j ≠ 0) fun i j => .int (i.fmod j)
def oPow : O2 := oIg powOk fun i j => .int (i ^ j.toNat)
def oLt : O2 := oI fun i j => .bl (decide (i < j))
def oLe : O2 := oI fun i j => .bl (decide (i ≤ j))
def oGt : O2 := oI fun i j => .bl (decide (j < i))
def oGe : O2 := oI fun i j => .bl (decide (j ≤ i))
def oNeg : O1 := fun x M => match x with
  | .d (.int i) => some (.d (.int (-i)), M)
  | _ => none
/-! == of data -/
mutual
def D.eqv : D → D → Bool
  | .non, .non => true
  | .bl a, .bl b => a == b
  | .bl a, .int j => (if a then 1 else 0) == j
  | .int i, .bl b => i == (if b then 1 else 0)
  | .int i, .int j => i == j
  | .str x, .str y => x == y
  | .lst xs, .lst ys => D.eqvs xs ys
  | .tup xs, .tup ys => D.eqvs xs ys
  | _, _ => false
def D.eqvs : List D → List D → Bool
  | [], [] => true
  | x :: xs, y :: ys => D.eqv x y && D.eqvs xs ys
  | [], _ :: _ => false
  | _ :: _, [] => false
end
/-- flat to the depth n, no classes in it, texts of signs that are such -/
def strFine (s : Str) : Bool := s.cps.all (· < 0x110000)
def D.shp : Nat → D → Bool
  | _, .non => true
  | _, .bl _ => true
  | _, .int _ => true
  | _, .str s => strFine s
  | _, .ty _ => false
  | 0, .lst _ => false
  | 0, .tup _ => false
  | n + 1, .lst xs => xs.all (D.shp n)
  | n + 1, .tup xs => xs.all (D.shp n)
def oEq : O2 := fun x y M => match dv M x, dv M y with
  | some a, some b => grd (a.shp 9 = true ∧ b.shp 9 = true) (some (.d (.bl (D.eqv a b)), M))
  | _, _ => none
def oNe : O2 := fun x y M => match dv M x, dv M y with
  | some a, some b => grd (a.shp 9 = true ∧ b.shp 9 = true) (some (.d (.bl (!D.eqv a b)), M))
  | _, _ => none
def isNon : Dv → Bool
  | .d .non => true
  | _ => false
def oIsN : O1 := fun x M => some (.d (.bl (isNon x)), M)
def oNotN : O1 := fun x M => some (.d (.bl (!isNon x)), M)
/-- flat things: None, truths, intsD, texts -/
def D.flat : D → Bool
  | .non => true
  | .bl _ => true
  | .int _ => true
  | .str _ => true
  | _ => false
def oIn (neg : Bool) : O2 := fun x y M => match x, sv M y with
  | .d a, some ys => grd (a.flat = true ∧ ys.all D.flat = true) (some (.d (.bl (xor neg (ys.any fun b => D.eqv b a))), M))
  | _, _ => none
/-- the place that an int means -/
def ixD (n : Nat) (i : Int) : Option Nat := if 0 ≤ i then (if i < n then some i.toNat else none) else if -(n : Int) ≤ i then some (i + n).toNat else none
def oIx : O2 := fun x y M => match sv M x, y with
  | some xs, .d (.int i) => match ixD xs.length i with
    | some k => match xs[k]? with
      | some z => some (.d z, M)
      | none => none
    | none => none
  | none, .d (.int i) => match x with
    | .d (.str s) => grd (s.length ≤ big) (match ixD s.cps.toList.length i with
      | some k => match s.cps.toList[k]? with
        | some z => some (.d (.str ⟨#[z]⟩), M)
        | none => none
      | none => none)
    | _ => none
  | _, _ => none
def sIxD (n d : Nat) : Option Int → Nat
  | none => d
  | some v => if v < 0 then (v + (n : Int)).toNat else min v.toNat n
def cutD (xs : List D) (lo hi : Option Int) : List D := (xs.drop (sIxD xs.length 0 lo)).take (sIxD xs.length xs.length hi - sIxD xs.length 0 lo)
abbrev DO := DEnv → DSt → Option (Option Int × DSt)
def pNone : DO := fun _ M => some (none, M)
def pSome (a : DE) : DO := fun ρ M => match a ρ M with
  | some (.d (.int i), M1) => some (some i, M1)
  | _ => none
def eSl (f : Dv → Option Int → Option Int → DSt → Option (Dv × DSt)) (a : DE) (lo hi : DO) : DE := fun ρ M => match a ρ M with
  | some (x, M1) => match lo ρ M1 with
    | some (l, M2) => match hi ρ M2 with
      | some (h, M3) => f x l h M3
      | none => none
    | none => none
  | none => none
def slL (c : Bool) : Dv → Option Int → Option Int → DSt → Option (Dv × DSt) := fun x l h M => match lv M x with
  | some xs => mkL c (cutD xs l h) M
  | none => none
def slT : Dv → Option Int → Option Int → DSt → Option (Dv × DSt) := fun x l h M => match x with
  | .d (.tup xs) => some (.d (.tup (cutD xs l h)), M)
  | _ => none

/-- a slice of a list or a tuple -/
def slU (c : Bool) : Dv → Option Int → Option Int → DSt → Option (Dv × DSt) := fun x l h M => match x with
  | .d (.tup xs) => some (.d (.tup (cutD xs l h)), M)
  | x => slL c x l h M

/-! ### built-ins -/
def intsD : List D → Option (List Int)
  | [] => some []
  | .int i :: r => (intsD r).map (i :: ·)
  | _ :: _ => none
def blsD : List D → Option (List Bool)
  | [] => some []
  | .bl b :: r => (blsD r).map (b :: ·)
  | _ :: _ => none
def oAbs : OA := fun vs M => match vs with
  | [.d (.int i)] => some (.d (.int (if i < 0 then -i else i)), M)
  | _ => none
def oLen : OA := fun vs M => match vs with
  | [.d (.str s)] => grd (s.length ≤ big) (some (.d (.int s.length), M))
  | [v] => match sv M v with
    | some xs => some (.d (.int xs.length), M)
    | none => none
  | _ => none
def oMax2 : OA := fun vs M => match vs with
  | [.d (.int i), .d (.int j)] => some (.d (.int (if j > i then j else i)), M)
  | _ => none
def oMin2 : OA := fun vs M => match vs with
  | [.d (.int i), .d (.int j)] => some (.d (.int (if j < i then j else i)), M)
  | _ => none
def oSum : OA := fun vs M => match vs with
  | [v] => match lv M v with
    | some xs => match intsD xs with
      | some ns => some (.d (.int ns.sum), M)
      | none => none
    | none => none
  | _ => none
def oAll : OA := fun vs M => match vs with
  | [v] => match lv M v with
    | some xs => match blsD xs with
      | some bs => some (.d (.bl (bs.all id)), M)
      | none => none
    | none => none
  | _ => none
def oAny : OA := fun vs M => match vs with
  | [v] => match lv M v with
    | some xs => match blsD xs with
      | some bs => some (.d (.bl (bs.any id)), M)
      | none => none
    | none => none
  | _ => none
def oInt : OA := fun vs M => match vs with
  | [.d (.int i)] => some (.d (.int i), M)
  | [.d (.bl b)] => some (.d (.int (if b then 1 else 0)), M)
  | _ => none
/-- list(xs) -/
def oList (c : Bool) : OA := fun vs M => match vs with
  | [v] => match sv M v with
    | some xs => mkL c xs M
    | none => none
  | _ => none
/-- intsD from a on -/
def rng (a : Int) (n : Nat) : List D := (List.range n).map fun (k : Nat) => .int (a + (k : Int))
/-- list(range(n)), list(range(a, b)) -/
def oListR1 (c : Bool) : OA := fun vs M => match vs with
  | [.d (.int j)] => grd (-1000000 ≤ j ∧ j ≤ 1000000) (mkL c (rng 0 j.toNat) M)
  | _ => none
def oListR2 (c : Bool) : OA := fun vs M => match vs with
  | [.d (.int i), .d (.int j)] => grd (-1000000 ≤ i ∧ i ≤ 1000000 ∧ -1000000 ≤ j ∧ j ≤ 1000000) (mkL c (rng i (j - i).toNat) M)
  | _ => none
/-- the built-in class that a value has -/
def D.tyN : D → String
  | .non => "NoneType"
  | .bl _ => "bool"
  | .int _ => "int"
  | .str _ => "str"
  | .lst _ => "list"
  | .tup _ => "tuple"
  | .ty _ => "type"
def subTy (a b : String) : Bool := a == b || (a == "bool" && b == "int")
/-- isinstance(x, T), T a built-in class -/
def oIsi (T : String) : OA := fun vs M => match vs with
  | [v, .d (.ty n)] => if n = T then match dv M v with
    | some (.ty _) => none
    | some x => some (.d (.bl (subTy x.tyN T)), M)
    | none => none
    else none
  | _ => none
/-- sorted(xs) of ints -/
def oSorted (c : Bool) : OA := fun vs M => match vs with
  | [v] => match lv M v with
    | some xs => match intsD xs with
      | some ns => mkL c ((ns.mergeSort (fun a b => decide (a ≤ b))).map D.int) M
      | none => none
    | none => none
  | _ => none
/-- xs[::-1] -/
def oRev (c : Bool) : O1 := fun v M => match lv M v with
  | some xs => mkL c xs.reverse M
  | none => none

/-! ### methods of lists -/
def setC (M : DSt) (n : Nat) (xs : List D) : DSt := M.set n (some xs)
def mAppend : Dv → List Dv → DSt → Option (Dv × DSt) := fun v as M => match v, as with
  | .c n, [.d x] => match (M[n]?).join with
    | some xs => grd (xs.length < big) (some (.d .non, setC M n (xs ++ [x])))
    | none => none
  | _, _ => none
def mPop : Dv → List Dv → DSt → Option (Dv × DSt) := fun v as M => match v, as with
  | .c n, [] => match (M[n]?).join with
    | some xs => match xs[xs.length - 1]? with
      | some y => some (.d y, setC M n xs.dropLast)
      | none => none
    | none => none
  | .c n, [.d (.int i)] => match (M[n]?).join with
    | some xs => match ixD xs.length i with
      | some k => match xs[k]? with
        | some y => grd (-(2 ^ 62) ≤ i ∧ i < 2 ^ 62) (some (.d y, setC M n (xs.eraseIdx k)))
        | none => none
      | none => none
    | none => none
  | _, _ => none
def mClear : Dv → List Dv → DSt → Option (Dv × DSt) := fun v as M => match v, as with
  | .c n, [] => match (M[n]?).join with
    | some _ => some (.d .non, setC M n [])
    | none => none
  | _, _ => none
def mInsert : Dv → List Dv → DSt → Option (Dv × DSt) := fun v as M => match v, as with
  | .c n, [.d (.int i), .d y] => match (M[n]?).join with
    | some xs => grd (xs.length < big ∧ 0 ≤ i ∧ i < 2 ^ 62) (some (.d .non, setC M n (xs.take i.toNat ++ [y] ++ xs.drop i.toNat)))
    | none => none
  | _, _ => none
def eM (f : Dv → List Dv → DSt → Option (Dv × DSt)) (a : DE) (as : DA) : DE := fun ρ M => match a ρ M with
  | some (x, M1) => match as ρ M1 with
    | some (xs, M2) => f x xs M2
    | none => none
  | none => none

/-! ### targets -/
inductive Tgt where
  | name (i : Nat) | tup (ts : List Tgt)
mutual
def Tgt.put : Tgt → Dv → DEnv → Option DEnv
  | .name i, v, ρ => some (ρ.set i (some v))
  | .tup ts, .d (.tup xs), ρ => if xs.length = ts.length then Tgt.puts ts xs ρ else none
  | .tup ts, .d (.lst xs), ρ => if xs.length = ts.length then Tgt.puts ts xs ρ else none
  | .tup _, _, _ => none
def Tgt.puts : List Tgt → List D → DEnv → Option DEnv
  | [], [], ρ => some ρ
  | t :: ts, x :: xs, ρ => match t.put (.d x) ρ with
    | some ρ1 => Tgt.puts ts xs ρ1
    | none => none
  | _, _, _ => none
end
mutual
def Tgt.slots : Tgt → List Nat
  | .name i => [i]
  | .tup ts => Tgt.slotss ts
def Tgt.slotss : List Tgt → List Nat
  | [] => []
  | t :: ts => t.slots ++ Tgt.slotss ts
end
/-- slots forgotten -/
def wipeD (ρ : DEnv) : List Nat → DEnv
  | [] => ρ
  | v :: vs => (wipeD ρ vs).set v none

/-! ### what is walked -/
/-- the walked cells stand as they stood -/
def stand (src : List Nat) (M M' : DSt) : Prop := ∀ n ∈ src, M'[n]? = M[n]?
def cellsOf : Dv → List Nat
  | .c n => [n]
  | _ => []
def iL (a : DE) : DI := fun ρ M => match a ρ M with
  | some (x, M1) => match lv M1 x with
    | some xs => some (xs, cellsOf x, M1)
    | none => none
  | none => none
def iT (a : DE) : DI := fun ρ M => match a ρ M with
  | some (.d (.tup xs), M1) => some (xs, [], M1)
  | _ => none
/-- a list or a tuple -/
def iS (a : DE) : DI := fun ρ M => match a ρ M with
  | some (.d (.tup xs), M1) => some (xs, [], M1)
  | some (x, M1) => match lv M1 x with
    | some xs => some (xs, cellsOf x, M1)
    | none => none
  | none => none
def iR1 (a : DA) : DI := fun ρ M => match a ρ M with
  | some ([.d (.int j)], M1) => grd (-(2 ^ 62) ≤ j ∧ j < 2 ^ 62) (some (rng 0 j.toNat, [], M1))
  | _ => none
def iR2 (a : DA) : DI := fun ρ M => match a ρ M with
  | some ([.d (.int i), .d (.int j)], M1) => grd (-(2 ^ 62) ≤ i ∧ i < 2 ^ 62 ∧ -(2 ^ 62) ≤ j ∧ j < 2 ^ 62) (some (rng i (j - i).toNat, [], M1))
  | _ => none
def enumD (k : Nat) : List D → List D
  | [] => []
  | x :: xs => .tup [.int (k : Int), x] :: enumD (k + 1) xs
def iEn (a : DA) : DI := fun ρ M => match a ρ M with
  | some ([x], M1) => match lv M1 x with
    | some xs => some (enumD 0 xs, cellsOf x, M1)
    | none => none
  | _ => none
def zipD : List D → List D → List D
  | x :: xs, y :: ys => .tup [x, y] :: zipD xs ys
  | _, _ => []
def iZ (a : DA) : DI := fun ρ M => match a ρ M with
  | some ([x, y], M1) => match lv M1 x, lv M1 y with
    | some xs, some ys => some (zipD xs ys, cellsOf x ++ cellsOf y, M1)
    | _, _ => none
  | _ => none

/-! ### comprehensions -/
/-- chk: the walked cells stand as they stood, ahead of every turn and at the end -/
def compL {α : Type} (chk : DSt → Prop) (step : α → DSt → Option (Option D × DSt)) : List α → DSt → Option (List D × DSt)
  | [], M => grd (chk M) (some ([], M))
  | x :: xs, M => grd (chk M) (match step x M with
    | some (o, M1) => match compL chk step xs M1 with
      | some (ys, M2) => match o with
        | some y => some (y :: ys, M2)
        | none => some (ys, M2)
      | none => none
    | none => none)
def compStep (tg : Tgt) (t : DT) (el : DE) (ρ : DEnv) (x : D) (M : DSt) : Option (Option D × DSt) :=
  match tg.put (.d x) ρ with
    | some ρ1 => match t ρ1 M with
      | some (true, M1) => match el ρ1 M1 with
        | some (.d y, M2) => some (some y, M2)
        | _ => none
      | some (false, M1) => some (none, M1)
      | none => none
    | none => none
def eComp (c : Bool) (it : DI) (tg : Tgt) (t : DT) (el : DE) (own : List Nat) : DE := fun ρ M => match it ρ M with
  | some (xs, src, M1) => grd (xs.length ≤ big) (match compL (stand src M1) (compStep tg t el (wipeD ρ own)) xs M1 with
    | some (ys, M2) => mkL c ys M2
    | none => none)
  | none => none

/-! ### statements -/
def dPass : DS := fun ρ M => some (.nx ρ M)
def dSeq (s t : DS) : DS := fun ρ M => match s ρ M with
  | some (.nx ρ1 M1) => t ρ1 M1
  | o => o
def dAsg (tg : Tgt) (a : DE) : DS := fun ρ M => match a ρ M with
  | some (v, M1) => match tg.put v ρ with
    | some ρ1 => some (.nx ρ1 M1)
    | none => none
  | none => none
/-- a, b = e, f -/
def dPar (i j : Nat) (a b : DE) : DS := fun ρ M => match a ρ M with
  | some (x, M1) => match b ρ M1 with
    | some (y, M2) => some (.nx ((ρ.set i (some x)).set j (some y)) M2)
    | none => none
  | none => none
def dAug (i : Nat) (f : O2) (a : DE) : DS := fun ρ M => match ρ[i]? with
  | some (some x) => match a ρ M with
    | some (y, M1) => match f x y M1 with
      | some (z, M2) => some (.nx (ρ.set i (some z)) M2)
      | none => none
    | none => none
  | _ => none
/-- o[i] = e -/
def dPut (o i e : DE) : DS := fun ρ M => match e ρ M with
  | some (.d x, M1) => match o ρ M1 with
    | some (.c n, M2) => match i ρ M2 with
      | some (.d (.int k), M3) => match (M3[n]?).join with
        | some xs => match ixD xs.length k with
          | some j => some (.nx ρ (setC M3 n (xs.set j x)))
          | none => none
        | none => none
      | _ => none
    | _ => none
  | _ => none
def dExpr (a : DE) : DS := fun ρ M => match a ρ M with
  | some (_, M1) => some (.nx ρ M1)
  | none => none
def dRet (a : DE) : DS := fun ρ M => match a ρ M with
  | some (v, M1) => some (.rt v M1)
  | none => none
def dRetN : DS := fun _ M => some (.rt (.d .non) M)
def dIf (t : DT) (a b : DS) : DS := fun ρ M => match t ρ M with
  | some (true, M1) => a ρ M1
  | some (false, M1) => b ρ M1
  | none => none
def dBreak : DS := fun ρ M => some (.bk ρ M)
def dCont : DS := fun ρ M => some (.ct ρ M)
def dNever : DS := fun _ _ => none
/-- slots forgotten behind a statement -/
def wipeO (vs : List Nat) : Out → Out
  | .nx ρ M => .nx (wipeD ρ vs) M
  | .bk ρ M => .bk (wipeD ρ vs) M
  | .ct ρ M => .ct (wipeD ρ vs) M
  | .rt v M => .rt v M
def dWipe (vs : List Nat) (s : DS) : DS := fun ρ M => match s ρ M with
  | some o => some (wipeO vs o)
  | none => none
/-- slots forgotten ahead of a block -/
def dPre (vs : List Nat) (s : DS) : DS := fun ρ M => s (wipeD ρ vs) M
def forL {α : Type} (chk : DSt → Prop) (step : α → DEnv → DSt → Option Out) : List α → DEnv → DSt → Option Out
  | [], ρ, M => grd (chk M) (some (.nx ρ M))
  | x :: xs, ρ, M => grd (chk M) (match step x ρ M with
    | some (.nx ρ1 M1) => forL chk step xs ρ1 M1
    | some (.ct ρ1 M1) => forL chk step xs ρ1 M1
    | some (.bk ρ1 M1) => some (.nx ρ1 M1)
    | some (.rt v M1) => some (.rt v M1)
    | none => none)
def forStep (tg : Tgt) (s : DS) (x : D) (ρ : DEnv) (M : DSt) : Option Out := match tg.put (.d x) ρ with
  | some ρ1 => s ρ1 M
  | none => none
def dFor (it : DI) (tg : Tgt) (s : DS) : DS := fun ρ M => match it ρ M with
  | some (xs, src, M1) => forL (stand src M1) (forStep tg s) xs ρ M1
  | none => none
def whileL (t : DT) (s : DS) : Nat → DEnv → DSt → Option Out
  | 0, _, _ => none
  | n + 1, ρ, M => match t ρ M with
    | some (true, M1) => match s ρ M1 with
      | some (.nx ρ1 M2) => whileL t s n ρ1 M2
      | some (.ct ρ1 M2) => whileL t s n ρ1 M2
      | some (.bk ρ1 M2) => some (.nx ρ1 M2)
      | some (.rt v M2) => some (.rt v M2)
      | none => none
    | some (false, M1) => some (.nx ρ M1)
    | none => none
open Classical in
def dWhile (t : DT) (s : DS) : DS := fun ρ M => if h : ∃ o n, whileL t s n ρ M = some o then some h.choose else none
theorem whileL_mono {t : DT} {s : DS} : ∀ {n : Nat} {ρ : DEnv} {M : DSt} {o : Out}, whileL t s n ρ M = some o → whileL t s (n + 1) ρ M = some o
  | 0, _, _, _, h => by cases h
  | n + 1, ρ, M, o, h => by
    unfold whileL at h ⊢
    cases e : t ρ M with
    | none => simp only [e] at h; cases h
    | some p =>
      obtain ⟨b, M1⟩ := p
      simp only [e] at h ⊢
      cases b with
      | false => exact h
      | true =>
        simp only at h ⊢
        cases e2 : s ρ M1 with
        | none => simp only [e2] at h; cases h
        | some q =>
          simp only [e2] at h ⊢
          cases q with
          | nx ρ1 M2 => exact whileL_mono h
          | ct ρ1 M2 => exact whileL_mono h
          | bk ρ1 M2 => exact h
          | rt v M2 => exact h
theorem whileL_le {t : DT} {s : DS} {n m : Nat} {ρ : DEnv} {M : DSt} {o : Out} (h : whileL t s n ρ M = some o) (l : n ≤ m) : whileL t s m ρ M = some o := by
  induction l with
  | refl => exact h
  | step _ ih => exact whileL_mono ih
theorem dWhile_of {t : DT} {s : DS} {n : Nat} {ρ : DEnv} {M : DSt} {o : Out} (h : whileL t s n ρ M = some o) : dWhile t s ρ M = some o := by
  have hx : ∃ o n, whileL t s n ρ M = some o := ⟨o, n, h⟩
  unfold dWhile
  rw [dif_pos hx]
  obtain ⟨m, hm⟩ := hx.choose_spec
  have a := whileL_le hm (Nat.le_max_left m n)
  have b := whileL_le h (Nat.le_max_right m n)
  rw [a] at b
  exact b
theorem dWhile_some {t : DT} {s : DS} {ρ : DEnv} {M : DSt} {o : Out} (h : dWhile t s ρ M = some o) : ∃ n, whileL t s n ρ M = some o := by
  unfold dWhile at h
  split at h
  · rename_i hx
    cases h
    exact hx.choose_spec
  · cases h
/-- one turn -/
theorem dWhile_eq (t : DT) (s : DS) (ρ : DEnv) (M : DSt) : dWhile t s ρ M = match t ρ M with
    | some (true, M1) => match s ρ M1 with
      | some (.nx ρ1 M2) => dWhile t s ρ1 M2
      | some (.ct ρ1 M2) => dWhile t s ρ1 M2
      | some (.bk ρ1 M2) => some (.nx ρ1 M2)
      | some (.rt v M2) => some (.rt v M2)
      | none => none
    | some (false, M1) => some (.nx ρ M1)
    | none => none := by
  have key : ∀ o, dWhile t s ρ M = some o ↔ (match t ρ M with
    | some (true, M1) => match s ρ M1 with
      | some (.nx ρ1 M2) => dWhile t s ρ1 M2
      | some (.ct ρ1 M2) => dWhile t s ρ1 M2
      | some (.bk ρ1 M2) => some (.nx ρ1 M2)
      | some (.rt v M2) => some (.rt v M2)
      | none => none
    | some (false, M1) => some (.nx ρ M1)
    | none => none) = some o := by
    intro o
    constructor
    · intro h
      obtain ⟨n, hn⟩ := dWhile_some h
      cases n with
      | zero => cases hn
      | succ n =>
        unfold whileL at hn
        cases e : t ρ M with
        | none => simp only [e] at hn; cases hn
        | some p =>
          obtain ⟨b, M1⟩ := p
          simp only [e] at hn
          cases b with
          | false => exact hn
          | true =>
            simp only at hn ⊢
            cases e2 : s ρ M1 with
            | none => simp only [e2] at hn; cases hn
            | some q =>
              simp only [e2] at hn
              cases q with
              | nx ρ1 M2 => exact dWhile_of hn
              | ct ρ1 M2 => exact dWhile_of hn
              | bk ρ1 M2 => exact hn
              | rt v M2 => exact hn
    · intro h
      cases e : t ρ M with
      | none => simp only [e] at h; cases h
      | some p =>
        obtain ⟨b, M1⟩ := p
        simp only [e] at h
        cases b with
        | false => exact dWhile_of (n := 1) (by unfold whileL; simp only [e]; exact h)
        | true =>
          simp only at h
          cases e2 : s ρ M1 with
          | none => simp only [e2] at h; cases h
          | some q =>
            simp only [e2] at h
            cases q with
            | nx ρ1 M2 =>
              obtain ⟨n, hn⟩ := dWhile_some h
              exact dWhile_of (n := n + 1) (by unfold whileL; simp only [e, e2]; exact hn)
            | ct ρ1 M2 =>
              obtain ⟨n, hn⟩ := dWhile_some h
              exact dWhile_of (n := n + 1) (by unfold whileL; simp only [e, e2]; exact hn)
            | bk ρ1 M2 => exact dWhile_of (n := 1) (by unfold whileL; simp only [e, e2]; exact h)
            | rt v M2 => exact dWhile_of (n := 1) (by unfold whileL; simp only [e, e2]; exact h)
  apply Option.ext
  exact key

/-! ### defs -/
def startD (n : Nat) (as : List Dv) : DEnv := as.map some ++ List.replicate (n - as.length) none
/-- behind a def: its own cells are gone, but one that it hands back -/
def fin (b : Nat) (v : Dv) (M : DSt) : Option (Dv × DSt) := match v with
  | .c n => if n < b then some (.c n, M.take b) else match (M[n]?).join with
    | some xs => some (.c b, M.take b ++ [some xs])
    | none => none
  | v => some (v, M.take b)
def fnD (n : Nat) (s : DS) : DF := fun as M => match s (startD n as) M with
  | some (.rt v M1) => fin M.length v M1
  | some (.nx _ M1) => fin M.length (.d .non) M1
  | _ => none
def eCall (f : DF) (as : DA) : DE := eA f as
end
end Rw
end PRwSem
section PRwSem2
set_option autoImplicit false
set_option linter.all false
/-! RwSem2: further constructs of the pure reading. -/
namespace Rw
noncomputable section
/-- a def that calls itself, to a depth -/
def recD (F : DF → DF) : Nat → DF
  | 0 => fun _ _ => none
  | n + 1 => F (recD F n)
/-- how many turns range(i, j, c) has -/
def szC (i j c : Int) : Nat := (if c > 0 then (if i < j then (j - i - 1) / c + 1 else 0) else (if i > j then (i - j - 1) / (-c) + 1 else 0)).toNat
def rngC (i c : Int) (n : Nat) : List D := (List.range n).map fun (k : Nat) => .int (i + (k : Int) * c)
def iR3 (a : DA) : DI := fun ρ M => match a ρ M with
  | some ([.d (.int i), .d (.int j), .d (.int c)], M1) => grd (c ≠ 0 ∧ -1000000 ≤ c ∧ c ≤ 1000000 ∧ -1000000000 ≤ i ∧ i ≤ 1000000000 ∧ -1000000000 ≤ j ∧ j ≤ 1000000000) (some (rngC i c (szC i j c), [], M1))
  | _ => none
def maxZ : List Int → Int
  | [] => 0
  | [x] => x
  | x :: y :: r => max x (maxZ (y :: r))
def minZ : List Int → Int
  | [] => 0
  | [x] => x
  | x :: y :: r => min x (minZ (y :: r))
def oMax1 : OA := fun vs M => match vs with
  | [v] => match lv M v with
    | some xs => match intsD xs with
      | some ns => grd (0 < ns.length) (some (.d (.int (maxZ ns)), M))
      | none => none
    | none => none
  | _ => none
def oMin1 : OA := fun vs M => match vs with
  | [v] => match lv M v with
    | some xs => match intsD xs with
      | some ns => grd (0 < ns.length) (some (.d (.int (minZ ns)), M))
      | none => none
    | none => none
  | _ => none
def mReverse : Dv → List Dv → DSt → Option (Dv × DSt) := fun v as M => match v, as with
  | .c n, [] => match (M[n]?).join with
    | some xs => some (.d .non, setC M n xs.reverse)
    | none => none
  | _, _ => none
/-- o[i] op= e -/
def dAugS (f : O2) (o i e : DE) : DS := fun ρ M => match o ρ M with
  | some (.c n, M1) => match i ρ M1 with
    | some (.d (.int k), M2) => match (M2[n]?).join with
      | some xs => match ixD xs.length k with
        | some j => match xs[j]? with
          | some x => match e ρ M2 with
            | some (y, M3) => match f (.d x) y M3 with
              | some (.d z, M4) => match (M4[n]?).join with
                | some ys => if ys.length = xs.length then some (.nx ρ (setC M4 n (ys.set j z))) else none
                | none => none
              | _ => none
            | none => none
          | none => none
        | none => none
      | none => none
    | _ => none
  | _ => none
/-- <= of two tuples of two ints -/
def oLeT : O2 := fun x y M => match x, y with
  | .d (.tup [.int a, .int b]), .d (.tup [.int c, .int d]) => some (.d (.bl (if a = c then decide (b ≤ d) else decide (a ≤ c))), M)
  | _, _ => none
end
end Rw
end PRwSem2
section PRwSim
set_option Elab.async false
set_option linter.all false
set_option maxRecDepth 100000
set_option maxHeartbeats 2000000
/-! RwSim: the pure reading is kept by the layer's readings. -/
namespace Rw
open PySem L2
open Evl (Ex)

/-! ### values and data -/
/-- the class of this name -/
def ClsK (K : PySem.W.Frag) (c : String) (cls : Value) : Prop := PySem.W.nsIn K mainGlobals (Str.ofString c) = some (some cls)
/-- a caught exception of the class cls, at a -/
def ExK (cls : Value) (a : Addr) : HO := .ext fun g => ∃ (ob : Obj) (fl : Array Value), g.get? a = some ob ∧ Zc cls none ob ∧ ob.data = .fields fl
def tyNs : List String := ["bool", "int", "str", "list", "tuple"]
mutual
inductive Rv (K : PySem.W.Frag) (G : Hp) : V → D → Prop
  | non : Rv K G .non .non
  | bl (b : Bool) : Rv K G (.bl b) (.bl b)
  | int (i : Int) : Rv K G (.int i) (.int i)
  | str (x : Str) : Rv K G (.str x) (.str x)
  | ty (n : String) (h : n ∈ tyNs) : Rv K G (.ty n) (.ty n)
  | exc {a : Addr} {C : Value} {n : String} : G a = some (ExK C a) → ClsK K n C → n ∉ tyNs → Rv K G (.ref a) (.ty n)
  | lst {a : Addr} {xs : List V} {ds : List D} : G a = some (.lst xs) → Rvs K G xs ds → Rv K G (.ref a) (.lst ds)
  | tup {a : Addr} {xs : List V} {ds : List D} : SqT K G a xs → Rvs K G xs ds → Rv K G (.ref a) (.tup ds)
inductive Rvs (K : PySem.W.Frag) (G : Hp) : List V → List D → Prop
  | nil : Rvs K G [] []
  | cons {v : V} {vs : List V} {d : D} {ds : List D} : Rv K G v d → Rvs K G vs ds → Rvs K G (v :: vs) (d :: ds)
end
section
variable {K : PySem.W.Frag} {G G' : Hp}
theorem Rv.mono (e : Ex G G') {v : V} {d : D} (h : Rv K G v d) : Rv K G' v d :=
  Rv.rec (motive_1 := fun v d _ => Rv K G' v d) (motive_2 := fun vs ds _ => Rvs K G' vs ds) .non .bl .int .str .ty (fun h c o => .exc (e _ _ h) c o) (fun h _ ih => .lst (e _ _ h) ih) (fun h _ ih => .tup (Evl.ex_t e h) ih) .nil (fun _ _ a b => .cons a b) h
theorem Rvs.mono (e : Ex G G') : ∀ {vs : List V} {ds : List D}, Rvs K G vs ds → Rvs K G' vs ds
  | _, _, .nil => .nil
  | _, _, .cons h r => .cons (h.mono e) (r.mono e)
theorem Rvs.length : ∀ {vs : List V} {ds : List D}, Rvs K G vs ds → vs.length = ds.length
  | _, _, .nil => rfl
  | _, _, .cons _ r => by simp [r.length]
theorem Rvs.get : ∀ {vs : List V} {ds : List D} {i : Nat} {d : D}, Rvs K G vs ds → ds[i]? = some d → ∃ v, vs[i]? = some v ∧ Rv K G v d
  | _, _, _, _, .nil, e => by simp at e
  | _, _, 0, _, .cons h _, e => by simp at e; subst e; exact ⟨_, rfl, h⟩
  | _, _, i + 1, d, .cons _ r, e => by
    obtain ⟨u, h1, h2⟩ := Rvs.get (i := i) (d := d) r (by simpa using e)
    exact ⟨u, by simpa using h1, h2⟩
theorem Rvs.get' : ∀ {vs : List V} {ds : List D} {i : Nat} {v : V}, Rvs K G vs ds → vs[i]? = some v → ∃ d, ds[i]? = some d ∧ Rv K G v d
  | _, _, _, _, .nil, e => by simp at e
  | _, _, 0, _, .cons h _, e => by simp at e; subst e; exact ⟨_, rfl, h⟩
  | _, _, i + 1, v, .cons _ r, e => by
    obtain ⟨u, h1, h2⟩ := Rvs.get' (i := i) (v := v) r (by simpa using e)
    exact ⟨u, by simpa using h1, h2⟩
theorem Rvs.append : ∀ {xs ys : List V} {ds es : List D}, Rvs K G xs ds → Rvs K G ys es → Rvs K G (xs ++ ys) (ds ++ es)
  | _, _, _, _, .nil, s => s
  | _, _, _, _, .cons h r, s => .cons h (r.append s)
theorem Rvs.take : ∀ {xs : List V} {ds : List D} (n : Nat), Rvs K G xs ds → Rvs K G (xs.take n) (ds.take n)
  | _, _, 0, _ => .nil
  | _, _, _ + 1, .nil => .nil
  | _, _, n + 1, .cons h r => .cons h (r.take n)
theorem Rvs.drop : ∀ {xs : List V} {ds : List D} (n : Nat), Rvs K G xs ds → Rvs K G (xs.drop n) (ds.drop n)
  | _, _, 0, r => r
  | _, _, _ + 1, .nil => .nil
  | _, _, n + 1, .cons _ r => r.drop n
theorem Rvs.set {v : V} {d : D} (h : Rv K G v d) : ∀ {xs : List V} {ds : List D} (i : Nat), Rvs K G xs ds → Rvs K G (xs.set i v) (ds.set i d)
  | _, _, _, .nil => .nil
  | _, _, 0, .cons _ r => .cons h r
  | _, _, i + 1, .cons q r => .cons q (Rvs.set h i r)
theorem Rvs.eraseIdx : ∀ {xs : List V} {ds : List D} (i : Nat), Rvs K G xs ds → Rvs K G (xs.eraseIdx i) (ds.eraseIdx i)
  | _, _, _, .nil => .nil
  | _, _, 0, .cons _ r => r
  | _, _, i + 1, .cons q r => .cons q (Rvs.eraseIdx i r)
theorem Rvs.dropLast {xs : List V} {ds : List D} (h : Rvs K G xs ds) : Rvs K G xs.dropLast ds.dropLast := by
  rw [List.dropLast_eq_take, List.dropLast_eq_take, h.length]
  exact h.take _
theorem Rvs.rep {xs : List V} {ds : List D} (h : Rvs K G xs ds) : ∀ k : Nat, Rvs K G (List.replicate k xs).flatten (List.replicate k ds).flatten
  | 0 => .nil
  | k + 1 => by
    rw [List.replicate_succ, List.replicate_succ, List.flatten_cons, List.flatten_cons]
    exact h.append (h.rep k)
theorem Rvs.ints_of : ∀ {xs : List V} {ds : List D} {ns : List Int}, Rvs K G xs ds → intsD ds = some ns → xs = ns.map V.int
  | _, _, _, .nil, e => by simp [intsD] at e; subst e; rfl
  | _, _, ns, .cons h r, e => by
    rename_i v vs d ds
    cases d <;> simp only [intsD] at e <;> try (cases e)
    rename_i i
    cases e2 : intsD ds with
    | none => rw [e2] at e; cases e
    | some ms =>
      rw [e2] at e
      cases e
      cases h
      rw [Rvs.ints_of r e2]
      rfl
theorem Rvs.bls_of : ∀ {xs : List V} {ds : List D} {ns : List Bool}, Rvs K G xs ds → blsD ds = some ns → xs = ns.map V.bl
  | _, _, _, .nil, e => by simp [blsD] at e; subst e; rfl
  | _, _, ns, .cons h r, e => by
    rename_i v vs d ds
    cases d <;> simp only [blsD] at e <;> try (cases e)
    rename_i i
    cases e2 : blsD ds with
    | none => rw [e2] at e; cases e
    | some ms =>
      rw [e2] at e
      cases e
      cases h
      rw [Rvs.bls_of r e2]
      rfl
theorem Rvs.of_ints : ∀ ns : List Int, Rvs K G (ns.map V.int) (ns.map D.int)
  | [] => .nil
  | n :: r => .cons (.int n) (Rvs.of_ints r)
end

/-! ### the state -/
/-- what is not this code's to change: f, apart from its cells; z, cells among them -/
structure Fz where
  f : Hp
  z : Hp
def Fz.up (F : Fz) (p : Addr) (o : HO) : Fz := ⟨upd F.f p o, F.z⟩
/-- κ: where the cells stand; G: what never changes any more; F: what is not this code's to change -/
structure Sm (K : PySem.W.Frag) (F : Fz) (κ : List Addr) (G : Hp) (M : DSt) (H : Hp) : Prop where
  ex : Ex G H
  fx : Ex F.f H
  zx : Ex F.z H
  dj : ∀ a o, F.f a = some o → G a = none
  zj : ∀ a o, F.z a = some o → G a = none
  fd : ∀ a o, F.f a = some o → F.z a = none
  fk : ∀ a ∈ κ, F.f a = none
  zk : ∀ (n : Nat) (a : Addr) (ds : List D), κ[n]? = some a → M[n]? = some (some ds) → F.z a = none
  len : κ.length = M.length
  nd : κ.Nodup
  th : ∀ a ∈ κ, ∃ xs, H a = some (.lst xs)
  cel : ∀ (n : Nat) (ds : List D), M[n]? = some (some ds) → ∃ a xs, κ[n]? = some a ∧ G a = none ∧ H a = some (.lst xs) ∧ Rvs K G xs ds
def Rx (K : PySem.W.Frag) (κ : List Addr) (G : Hp) (u : V) : Dv → Prop
  | .d x => Rv K G u x
  | .c n => ∃ a, u = .ref a ∧ κ[n]? = some a
  | .r ds => ∃ a xs, u = .ref a ∧ SqL K G a xs ∧ Rvs K G xs ds
inductive Rxs (K : PySem.W.Frag) (κ : List Addr) (G : Hp) : List V → List Dv → Prop
  | nil : Rxs K κ G [] []
  | cons {v : V} {vs : List V} {d : Dv} {ds : List Dv} : Rx K κ G v d → Rxs K κ G vs ds → Rxs K κ G (v :: vs) (d :: ds)
structure Se (K : PySem.W.Frag) (κ : List Addr) (G : Hp) (σ : L2.St) (ρ : DEnv) : Prop where
  len : σ.length = ρ.length
  at_ : ∀ (i : Nat) (x : Dv), ρ[i]? = some (some x) → ∃ v, σ[i]? = some (some v) ∧ Rx K κ G v x
structure Le (κ : List Addr) (G : Hp) (κ' : List Addr) (G' : Hp) : Prop where
  pre : κ <+: κ'
  ex : Ex G G'
theorem Le.refl (κ : List Addr) (G : Hp) : Le κ G κ G := ⟨List.prefix_refl _, Ex.refl _⟩
theorem Le.trans {κ κ1 κ2 : List Addr} {G G1 G2 : Hp} (a : Le κ G κ1 G1) (b : Le κ1 G1 κ2 G2) : Le κ G κ2 G2 := ⟨a.pre.trans b.pre, a.ex.trans b.ex⟩
section
variable {K : PySem.W.Frag} {F : Fz} {κ κ' : List Addr} {G G' : Hp} {M M' : DSt} {H H' : Hp}
theorem Le.at_ {n : Nat} {a : Addr} (l : Le κ G κ' G') (h : κ[n]? = some a) : κ'[n]? = some a := by
  obtain ⟨t, rfl⟩ := l.pre
  have := (List.getElem?_eq_some_iff.mp h).1
  rw [List.getElem?_append_left this]
  exact h
theorem Rx.mono (l : Le κ G κ' G') : ∀ {u : V} {x : Dv}, Rx K κ G u x → Rx K κ' G' u x
  | _, .d _, h => Rv.mono l.ex h
  | _, .c _, ⟨a, e, h⟩ => ⟨a, e, l.at_ h⟩
  | _, .r _, ⟨a, xs, e, h, r⟩ => ⟨a, xs, e, Evl.ex_l l.ex h, r.mono l.ex⟩
theorem Rxs.mono (l : Le κ G κ' G') : ∀ {us : List V} {xs : List Dv}, Rxs K κ G us xs → Rxs K κ' G' us xs
  | _, _, .nil => .nil
  | _, _, .cons h r => .cons (h.mono l) (r.mono l)
theorem Rxs.length : ∀ {us : List V} {xs : List Dv}, Rxs K κ G us xs → us.length = xs.length
  | _, _, .nil => rfl
  | _, _, .cons _ r => by simp [r.length]
theorem Se.mono {σ : L2.St} {ρ : DEnv} (l : Le κ G κ' G') (h : Se K κ G σ ρ) : Se K κ' G' σ ρ := ⟨h.len, fun i x e => let ⟨v, a, b⟩ := h.at_ i x e; ⟨v, a, b.mono l⟩⟩
theorem Se.set {σ : L2.St} {ρ : DEnv} {u : V} {x : Dv} (h : Se K κ G σ ρ) (r : Rx K κ G u x) (i : Nat) : Se K κ G (σ.set i (some u)) (ρ.set i (some x)) := by
  refine ⟨by simp [h.len], fun j y e => ?_⟩
  by_cases hj : i = j
  · subst hj
    by_cases hi : i < ρ.length
    · rw [List.getElem?_set_self hi] at e
      cases e
      exact ⟨u, List.getElem?_set_self (by rw [h.len]; exact hi), r⟩
    · rw [List.getElem?_eq_none (by simpa using hi)] at e
      cases e
  · rw [List.getElem?_set_ne hj] at e
    obtain ⟨v, a, b⟩ := h.at_ j y e
    exact ⟨v, by rw [List.getElem?_set_ne hj]; exact a, b⟩
theorem Se.unset {σ : L2.St} {ρ : DEnv} (h : Se K κ G σ ρ) (i : Nat) : Se K κ G σ (ρ.set i none) := by
  refine ⟨by simp [h.len], fun j y e => ?_⟩
  by_cases hj : i = j
  · subst hj
    by_cases hi : i < ρ.length
    · rw [List.getElem?_set_self hi] at e
      cases e
    · rw [List.getElem?_eq_none (by simpa using hi)] at e
      cases e
  · rw [List.getElem?_set_ne hj] at e
    exact h.at_ j y e
theorem Se.wipe {σ : L2.St} {ρ : DEnv} (h : Se K κ G σ ρ) : ∀ vs : List Nat, Se K κ G σ (wipeD ρ vs)
  | [] => h
  | v :: vs => (h.wipe vs).unset v
/-- both sides forgotten -/
theorem Se.wipe2 {σ : L2.St} {ρ : DEnv} (h : Se K κ G σ ρ) : ∀ vs : List Nat, Se K κ G (L2.wipe σ vs) (wipeD ρ vs)
  | [] => h
  | v :: vs => by
    have h1 := h.wipe2 vs
    refine ⟨by simp [L2.wipe, wipeD, h1.len], fun j y e => ?_⟩
    unfold wipeD at e
    by_cases hj : v = j
    · subst hj
      by_cases hi : v < (wipeD ρ vs).length
      · rw [List.getElem?_set_self hi] at e
        cases e
      · rw [List.getElem?_eq_none (by simpa using hi)] at e
        cases e
    · rw [List.getElem?_set_ne hj] at e
      obtain ⟨v', a, b⟩ := h1.at_ j y e
      exact ⟨v', by unfold L2.wipe; rw [List.getElem?_set_ne hj]; exact a, b⟩
/-- the list that a value is -/
theorem cell_at (S : Sm K F κ G M H) {n : Nat} {ds : List D} {a : Addr} (h : (M[n]?).join = some ds) (ha : κ[n]? = some a) : ∃ xs, G a = none ∧ F.f a = none ∧ H a = some (.lst xs) ∧ Rvs K G xs ds := by
  cases e : M[n]? with
  | none => rw [e] at h; cases h
  | some o =>
    rw [e] at h
    cases o with
    | none => cases h
    | some ds' =>
      cases h
      obtain ⟨a', xs, e1, e2, e4, e5⟩ := S.cel n _ e
      rw [ha] at e1
      cases e1
      exact ⟨xs, e2, S.fk a (List.mem_of_getElem? ha), e4, e5⟩
theorem lw_at (S : Sm K F κ G M H) {u : V} {x : Dv} {ds : List D} (r : Rx K κ G u x) (h : lw M x = some ds) : ∃ a xs, u = .ref a ∧ H a = some (.lst xs) ∧ Rvs K G xs ds := by
  cases x with
  | d y =>
    cases y <;> simp only [lw] at h <;> try (cases h)
    cases r with
    | lst e1 e2 => exact ⟨_, _, rfl, S.ex _ _ e1, e2⟩
  | c n =>
    obtain ⟨a, rfl, ha⟩ := r
    obtain ⟨xs, _, _, e3, e4⟩ := cell_at S h ha
    exact ⟨a, xs, rfl, e3, e4⟩
  | r ys => cases h
theorem lv_at (S : Sm K F κ G M H) {u : V} {x : Dv} {ds : List D} (r : Rx K κ G u x) (h : lv M x = some ds) : ∃ a xs, u = .ref a ∧ SqL K H a xs ∧ Rvs K G xs ds := by
  cases x with
  | d y =>
    cases y <;> simp only [lv] at h <;> try (cases h)
    cases r with
    | lst e1 e2 => exact ⟨_, _, rfl, .of (S.ex _ _ e1), e2⟩
  | c n =>
    obtain ⟨a, rfl, ha⟩ := r
    obtain ⟨xs, _, _, e3, e4⟩ := cell_at S h ha
    exact ⟨a, xs, rfl, .of e3, e4⟩
  | r ys =>
    cases h
    obtain ⟨a, xs, e, q, p⟩ := r
    exact ⟨a, xs, e, Evl.ex_l S.ex q, p⟩
theorem sv_at (S : Sm K F κ G M H) {u : V} {x : Dv} {ds : List D} (r : Rx K κ G u x) (h : sv M x = some ds) : ∃ a xs, u = .ref a ∧ (SqL K H a xs ∨ SqT K H a xs) ∧ Rvs K G xs ds := by
  have other : lv M x = some ds → ∃ a xs, u = .ref a ∧ (SqL K H a xs ∨ SqT K H a xs) ∧ Rvs K G xs ds := fun h => by
    obtain ⟨a, xs, e, q, p⟩ := lv_at S r h
    exact ⟨a, xs, e, .inl q, p⟩
  cases x with
  | d y =>
    cases y with
    | tup zs =>
      simp only [sv] at h
      cases h
      cases r with
      | tup e1 e2 => exact ⟨_, _, rfl, .inr (Evl.ex_t S.ex e1), e2⟩
    | _ => exact other h
  | c n => exact other h
  | r ys => exact other h
/-! ### the store's steps -/
theorem Sm.zn (S : Sm K F κ G M H) {n : Nat} {ds : List D} {a : Addr} (h : (M[n]?).join = some ds) (ha : κ[n]? = some a) : F.z a = none := by
  cases e : M[n]? with
  | none => rw [e] at h; cases h
  | some o =>
    rw [e] at h
    cases o with
    | none => cases h
    | some ds' => exact S.zk n a ds' ha e
theorem Sm.fresh (S : Sm K F κ G M H) {p : Addr} (hp : H p = none) : G p = none ∧ F.f p = none ∧ p ∉ κ :=
  ⟨Evl.fresh_back S.ex hp, Evl.fresh_back S.fx hp, fun h => by obtain ⟨o, e⟩ := S.th p h; rw [hp] at e; cases e⟩
theorem Sm.freshZ (S : Sm K F κ G M H) {p : Addr} (hp : H p = none) : F.z p = none := Evl.fresh_back S.zx hp
theorem upd_some {H : Hp} {p : Addr} {o : HO} {a : Addr} {u : HO} (h : H p = none) (e : H a = some u) : upd H p o a = some u := by
  rw [upd_ne (ne_of_none e h)]
  exact e
theorem Sm.newG (S : Sm K F κ G M H) {p : Addr} (o : HO) (hp : H p = none) : Sm K F κ (upd G p o) M (upd H p o) := by
  obtain ⟨g, f, _⟩ := S.fresh hp
  have z := S.freshZ hp
  refine ⟨fun a u e => ?_, fun a u e => upd_some hp (S.fx a u e), fun a u e => upd_some hp (S.zx a u e), fun a u e => by rw [upd_ne (ne_of_none e f)]; exact S.dj a u e, fun a u e => by rw [upd_ne (ne_of_none e z)]; exact S.zj a u e, S.fd, S.fk, S.zk, S.len, S.nd, fun a h => let ⟨u, e⟩ := S.th a h; ⟨u, upd_some hp e⟩, fun n ds e => ?_⟩
  · by_cases ha : a = p
    · subst ha
      rw [upd_same] at e ⊢
      exact e
    · rw [upd_ne ha] at e ⊢
      exact S.ex a u e
  · obtain ⟨a, xs, e1, e2, e4, e5⟩ := S.cel n ds e
    refine ⟨a, xs, e1, ?_, upd_some hp e4, e5.mono (Ex.new g)⟩
    rw [upd_ne (ne_of_none e4 hp)]
    exact e2
theorem Le.newG {p : Addr} {o : HO} (h : G p = none) : Le κ G κ (upd G p o) := ⟨List.prefix_refl _, Ex.new h⟩
/-- the last cell of a longer list -/
theorem at_last {α : Type} {l : List α} {x y : α} {n m : Nat} (hl : l.length = m) (h : (l ++ [x])[n]? = some y) : (n < m ∧ l[n]? = some y) ∨ (n = m ∧ x = y) := by
  by_cases hn : n < l.length
  · rw [List.getElem?_append_left hn] at h
    exact .inl ⟨by omega, h⟩
  · rw [List.getElem?_append_right (by omega)] at h
    cases q : n - l.length with
    | zero => rw [q] at h; simp at h; exact .inr ⟨by omega, h⟩
    | succ k => rw [q] at h; simp at h
theorem last_at {α : Type} {l : List α} {x : α} {m : Nat} (hl : l.length = m) : (l ++ [x])[m]? = some x := by
  subst hl
  simp
/-- one cell more, at p: a list, or (none) dead -/
theorem Sm.cell (S : Sm K F κ G M H) {p : Addr} {o : Option (List D)} (nk : p ∉ κ) (g : G p = none) (f : F.f p = none) (z : F.z p = none) {xs : List V} (hp : H p = some (.lst xs)) (r : ∀ ds, o = some ds → Rvs K G xs ds) : Sm K F (κ ++ [p]) G (M ++ [o]) H := by
  refine ⟨S.ex, S.fx, S.zx, S.dj, S.zj, S.fd, fun a h => ?_, fun n a ds h1 h2 => ?_, by simp [S.len], ?_, fun a h => ?_, fun n es e => ?_⟩
  · rcases List.mem_append.mp h with h | h
    · exact S.fk a h
    · simp at h
      subst h
      exact f
  · rcases at_last S.len h1 with ⟨l1, h1⟩ | ⟨l1, h1⟩
    · rcases at_last rfl h2 with ⟨_, h2⟩ | ⟨l2, h2⟩
      · exact S.zk n a ds h1 h2
      · omega
    · subst h1
      exact z
  · rw [List.nodup_append]
    exact ⟨S.nd, by simp, fun a ha b hb e => by simp at hb; subst hb; subst e; exact nk ha⟩
  · rcases List.mem_append.mp h with h | h
    · exact S.th a h
    · simp at h
      subst h
      exact ⟨_, hp⟩
  · rcases at_last rfl e with ⟨l1, e⟩ | ⟨l1, e⟩
    · obtain ⟨a, ys, e1, e2⟩ := S.cel n es e
      exact ⟨a, ys, by rw [List.getElem?_append_left (by rw [S.len]; exact l1)]; exact e1, e2⟩
    · exact ⟨p, xs, by rw [l1]; exact last_at S.len, g, hp, r es e⟩
/-- a new object -/
theorem Sm.laid (S : Sm K F κ G M H) {p : Addr} (o : HO) (hp : H p = none) : Sm K F κ G M (upd H p o) := by
  refine ⟨fun a u e => upd_some hp (S.ex a u e), fun a u e => upd_some hp (S.fx a u e), fun a u e => upd_some hp (S.zx a u e), S.dj, S.zj, S.fd, S.fk, S.zk, S.len, S.nd, fun a h => let ⟨u, e⟩ := S.th a h; ⟨u, upd_some hp e⟩, fun n ds e => ?_⟩
  obtain ⟨a, xs, e1, e2, e4, e5⟩ := S.cel n ds e
  exact ⟨a, xs, e1, e2, upd_some hp e4, e5⟩
theorem Sm.newC (S : Sm K F κ G M H) {p : Addr} {xs : List V} {ds : List D} (hp : H p = none) (r : Rvs K G xs ds) : Sm K F (κ ++ [p]) G (M ++ [some ds]) (upd H p (.lst xs)) := by
  obtain ⟨g, f, nk⟩ := S.fresh hp
  exact (S.laid (.lst xs) hp).cell nk g f (S.freshZ hp) upd_same fun es e => by cases e; exact r
theorem Le.newC {p : Addr} : Le κ G (κ ++ [p]) G := ⟨List.prefix_append _ _, Ex.refl _⟩
/-- a new list, as data or as a cell -/
theorem Sm.new (S : Sm K F κ G M H) {c : Bool} {p : Addr} {xs : List V} {ds : List D} {z : Dv} (hp : H p = none) (r : Rvs K G xs ds) (h : mkL c ds M = some (z, M')) :
    ∃ κ' G', Le κ G κ' G' ∧ Sm K F κ' G' M' (upd H p (.lst xs)) ∧ Rx K κ' G' (.ref p) z := by
  obtain ⟨g, f, nk⟩ := S.fresh hp
  cases c with
  | true =>
    cases h
    refine ⟨κ ++ [p], G, Le.newC, S.newC hp r, p, rfl, ?_⟩
    rw [List.getElem?_append_right (by rw [S.len]; exact Nat.le_refl _), S.len, Nat.sub_self]
    rfl
  | false =>
    cases h
    exact ⟨κ, upd G p (.lst xs), Le.newG g, S.newG _ hp, .lst upd_same (r.mono (Ex.new g))⟩
theorem Sm.put (S : Sm K F κ G M H) {n : Nat} {a : Addr} {ys : List V} {ds es : List D} (h : (M[n]?).join = some ds) (ha : κ[n]? = some a) (r : Rvs K G ys es) : Sm K F κ G (setC M n es) (upd H a (.lst ys)) := by
  obtain ⟨xs, e1, e2, e3, e4⟩ := cell_at S h ha
  have ez := S.zn h ha
  have hn : n < M.length := by
    rw [← S.len]
    exact (List.getElem?_eq_some_iff.mp ha).1
  refine ⟨Ex.mut S.ex e1, Ex.mut S.fx e2, Ex.mut S.zx ez, S.dj, S.zj, S.fd, S.fk, fun m b fs h1 h2 => ?_, by simp [setC, S.len], S.nd, fun b hb => ?_, fun m fs e => ?_⟩
  · unfold setC at h2
    by_cases hm : n = m
    · subst hm
      rw [ha] at h1
      cases h1
      exact ez
    · rw [List.getElem?_set_ne hm] at h2
      exact S.zk m b fs h1 h2
  · by_cases z : b = a
    · subst z
      exact ⟨_, upd_same⟩
    · obtain ⟨q, hq⟩ := S.th b hb
      exact ⟨q, by rw [upd_ne z]; exact hq⟩
  · unfold setC at e
    by_cases hm : n = m
    · subst hm
      rw [List.getElem?_set_self hn] at e
      cases e
      exact ⟨a, ys, ha, e1, upd_same, r⟩
    · rw [List.getElem?_set_ne hm] at e
      obtain ⟨b, zs, q1, q2, q4, q5⟩ := S.cel m fs e
      have nb : b ≠ a := fun z => by
        subst z
        obtain ⟨l1, g1⟩ := List.getElem?_eq_some_iff.mp ha
        obtain ⟨l2, g2⟩ := List.getElem?_eq_some_iff.mp q1
        exact hm ((List.getElem_inj S.nd).mp (g1.trans g2.symm))
      exact ⟨b, zs, q1, q2, by rw [upd_ne nb]; exact q4, q5⟩
theorem take_at {α : Type} {l : List α} {b n : Nat} {x : α} (h : (l.take b)[n]? = some x) : n < b ∧ l[n]? = some x := by
  rw [List.getElem?_take] at h
  split at h
  · exact ⟨by assumption, h⟩
  · cases h
theorem Sm.take (S : Sm K F κ G M H) (b : Nat) : Sm K F (κ.take b) G (M.take b) H := by
  refine ⟨S.ex, S.fx, S.zx, S.dj, S.zj, S.fd, fun a h => S.fk a (List.mem_of_mem_take h), fun n a ds h1 h2 => S.zk n a ds (take_at h1).2 (take_at h2).2, by simp [S.len], S.nd.sublist (List.take_sublist _ _), fun a h => S.th a (List.mem_of_mem_take h), fun n ds e => ?_⟩
  obtain ⟨hn, e⟩ := take_at e
  obtain ⟨a, xs, e1, e2⟩ := S.cel n ds e
  exact ⟨a, xs, by rw [List.getElem?_take, if_pos hn]; exact e1, e2⟩
/-- a cell is data from now on -/
theorem Sm.freeze (S : Sm K F κ G M H) {n : Nat} {a : Addr} {ds : List D} (h : (M[n]?).join = some ds) (ha : κ[n]? = some a) :
    ∃ G', Ex G G' ∧ Sm K F κ G' (M.set n none) H ∧ Rv K G' (.ref a) (.lst ds) := by
  obtain ⟨xs, e1, e2, e3, e4⟩ := cell_at S h ha
  have ez := S.zn h ha
  have hn : n < M.length := by
    rw [← S.len]
    exact (List.getElem?_eq_some_iff.mp ha).1
  refine ⟨upd G a (.lst xs), Ex.new e1, ⟨fun b u e => ?_, S.fx, S.zx, fun b u e => by rw [upd_ne (ne_of_none e e2)]; exact S.dj b u e, fun b u e => by rw [upd_ne (ne_of_none e ez)]; exact S.zj b u e, S.fd, S.fk, fun m b fs h1 h2 => ?_, by simp [S.len], S.nd, S.th, fun m fs e => ?_⟩, .lst upd_same (e4.mono (Ex.new e1))⟩
  · by_cases z : b = a
    · subst z
      rw [upd_same] at e
      cases e
      exact e3
    · rw [upd_ne z] at e
      exact S.ex b u e
  · by_cases hm : n = m
    · subst hm
      rw [List.getElem?_set_self hn] at h2
      cases h2
    · rw [List.getElem?_set_ne hm] at h2
      exact S.zk m b fs h1 h2
  · by_cases hm : n = m
    · subst hm
      rw [List.getElem?_set_self hn] at e
      cases e
    · rw [List.getElem?_set_ne hm] at e
      obtain ⟨b, zs, q1, q2, q4, q5⟩ := S.cel m fs e
      have nb : b ≠ a := fun z => by
        subst z
        obtain ⟨l1, g1⟩ := List.getElem?_eq_some_iff.mp ha
        obtain ⟨l2, g2⟩ := List.getElem?_eq_some_iff.mp q1
        exact hm ((List.getElem_inj S.nd).mp (g1.trans g2.symm))
      exact ⟨b, zs, q1, by rw [upd_ne nb]; exact q2, q4, q5.mono (Ex.new e1)⟩
/-! ### a list that is being made stands by itself -/
theorem Sm.frame (S : Sm K F κ G M H) {p : Addr} (hp : H p = none) (xs : List V) : Sm K (F.up p (.lst xs)) κ G M (upd H p (.lst xs)) := by
  obtain ⟨g, f, nk⟩ := S.fresh hp
  have z := S.freshZ hp
  have S1 := S.laid (.lst xs) hp
  refine ⟨S1.ex, fun a u e => ?_, S1.zx, fun a u e => ?_, S1.zj, fun a u e => ?_, fun a h => ?_, S1.zk, S1.len, S1.nd, S1.th, S1.cel⟩
  · show upd H p (.lst xs) a = some u
    by_cases ha : a = p
    · subst ha
      exact e.symm ▸ (show upd H a (.lst xs) a = upd F.f a (.lst xs) a by rw [upd_same, upd_same])
    · rw [upd_ne ha]
      exact S.fx a u (by rw [← upd_ne (H := F.f) ha]; exact e)
  · by_cases ha : a = p
    · subst ha
      exact g
    · exact S.dj a u (by rw [← upd_ne (H := F.f) ha]; exact e)
  · by_cases ha : a = p
    · subst ha
      exact z
    · exact S.fd a u (by rw [← upd_ne (H := F.f) ha]; exact e)
  · show upd F.f p (.lst xs) a = none
    rw [upd_ne (show a ≠ p from fun z => nk (z ▸ h))]
    exact S.fk a h
/-- it grows -/
theorem Sm.grow {p : Addr} {xs : List V} (S : Sm K (F.up p (.lst xs)) κ G M H) (ys : List V) : Sm K (F.up p (.lst ys)) κ G M (upd H p (.lst ys)) := by
  have up1 : (F.up p (.lst xs)).f p = some (.lst xs) := upd_same
  have np : ∀ a ∈ κ, a ≠ p := fun a h z => by
    have q := S.fk a h
    rw [z, up1] at q
    cases q
  have gp : G p = none := S.dj p _ up1
  have zp : F.z p = none := S.fd p _ up1
  have back : ∀ a u, a ≠ p → (F.up p (.lst ys)).f a = some u → (F.up p (.lst xs)).f a = some u := fun a u h e => by
    show upd F.f p (.lst xs) a = some u
    rw [upd_ne h, ← upd_ne (H := F.f) (o := .lst ys) h]
    exact e
  refine ⟨fun a u e => ?_, fun a u e => ?_, fun a u e => ?_, fun a u e => ?_, S.zj, fun a u e => ?_, fun a h => ?_, S.zk, S.len, S.nd, fun a h => let ⟨u, e⟩ := S.th a h; ⟨u, by rw [upd_ne (np a h)]; exact e⟩, fun n ds e => ?_⟩
  · rw [upd_ne (ne_of_none e gp)]
    exact S.ex a u e
  · by_cases ha : a = p
    · subst ha
      rw [upd_same]
      exact (show (F.up a (.lst ys)).f a = some (.lst ys) from upd_same).symm.trans e
    · rw [upd_ne ha]
      exact S.fx a u (back a u ha e)
  · rw [upd_ne (ne_of_none e zp)]
    exact S.zx a u e
  · by_cases ha : a = p
    · subst ha
      exact gp
    · exact S.dj a u (back a u ha e)
  · by_cases ha : a = p
    · subst ha
      exact zp
    · exact S.fd a u (back a u ha e)
  · have q := S.fk a h
    show upd F.f p (.lst ys) a = none
    rw [upd_ne (np a h)]
    rw [show (F.up p (.lst xs)).f a = F.f a from upd_ne (np a h)] at q
    exact q
  · obtain ⟨a, xs, e1, e2, e4, e5⟩ := S.cel n ds e
    exact ⟨a, xs, e1, e2, by rw [upd_ne (np a (List.mem_of_getElem? e1))]; exact e4, e5⟩
/-- it is made -/
theorem Sm.unframe {p : Addr} {o : HO} (S : Sm K (F.up p o) κ G M H) (hF : F.f p = none) : Sm K F κ G M H ∧ p ∉ κ ∧ G p = none ∧ F.z p = none ∧ H p = some o := by
  have up1 : (F.up p o).f p = some o := upd_same
  have np : ∀ a ∈ κ, a ≠ p := fun a h z => by
    have q := S.fk a h
    rw [z, up1] at q
    cases q
  have fw : ∀ a u, F.f a = some u → (F.up p o).f a = some u := fun a u e => by
    show upd F.f p o a = some u
    rw [upd_ne (ne_of_none e hF)]
    exact e
  refine ⟨⟨S.ex, fun a u e => S.fx a u (fw a u e), S.zx, fun a u e => S.dj a u (fw a u e), S.zj, fun a u e => S.fd a u (fw a u e), fun a h => ?_, S.zk, S.len, S.nd, S.th, S.cel⟩, fun h => np p h rfl, S.dj p _ up1, S.fd p _ up1, S.fx p _ up1⟩
  have q := S.fk a h
  rw [show (F.up p o).f a = F.f a from upd_ne (np a h)] at q
  exact q
/-- what stands is data from now on -/
theorem Sm.asG (S : Sm K F κ G M H) {p : Addr} {o : HO} (hp : H p = some o) (nk : p ∉ κ) (g : G p = none) (f : F.f p = none) (z : F.z p = none) : Sm K F κ (upd G p o) M H := by
  refine ⟨fun a u e => ?_, S.fx, S.zx, fun a u e => by rw [upd_ne (ne_of_none e f)]; exact S.dj a u e, fun a u e => by rw [upd_ne (ne_of_none e z)]; exact S.zj a u e, S.fd, S.fk, S.zk, S.len, S.nd, S.th, fun n ds e => ?_⟩
  · by_cases ha : a = p
    · subst ha
      rw [upd_same] at e
      cases e
      exact hp
    · rw [upd_ne ha] at e
      exact S.ex a u e
  · obtain ⟨a, xs, e1, e2, e4, e5⟩ := S.cel n ds e
    exact ⟨a, xs, e1, by rw [upd_ne (show a ≠ p from fun z => nk (z ▸ List.mem_of_getElem? e1))]; exact e2, e4, e5.mono (Ex.new g)⟩
theorem Sm.made {c : Bool} {p : Addr} {xs : List V} {ds : List D} {z : Dv} (S : Sm K (F.up p (.lst xs)) κ G M H) (hF : F.f p = none) (r : Rvs K G xs ds) (h : mkL c ds M = some (z, M')) :
    ∃ κ' G', Le κ G κ' G' ∧ Sm K F κ' G' M' H ∧ Rx K κ' G' (.ref p) z := by
  obtain ⟨S1, nk, gp, zp, hp⟩ := S.unframe hF
  cases c with
  | false =>
    cases h
    exact ⟨κ, upd G p (.lst xs), Le.newG gp, S1.asG hp nk gp hF zp, .lst upd_same (r.mono (Ex.new gp))⟩
  | true =>
    cases h
    exact ⟨κ ++ [p], G, Le.newC, S1.cell nk gp hF zp hp fun es e => (by cases e; exact r), p, rfl, last_at S1.len⟩
end
end Rw
end PRwSim
section PRwSimE
set_option Elab.async false
set_option linter.all false
set_option maxRecDepth 100000
set_option maxHeartbeats 2000000
namespace Rw
open PySem L2 PySem.Spec PyProof.Rows
open Evl (Ex)

/-- behind an expression -/
abbrev PV (K : PySem.W.Frag) (F : Fz) (κ : List Addr) (G : Hp) (Q : VK) (v : Dv) (M' : DSt) : Prop := ∀ κ' G' u H', Le κ G κ' G' → Sm K F κ' G' M' H' → Rx K κ' G' u v → Q u H'
structure SimE (K : PySem.W.Frag) (t : TE) (e : DE) : Prop where
  run : ∀ {F κ G σ ρ M H Q v M'}, Sm K F κ G M H → Se K κ G σ ρ → e ρ M = some (v, M') → PV K F κ G Q v M' → t σ H Q
structure SimT (K : PySem.W.Frag) (t : TT) (e : DT) : Prop where
  run : ∀ {F κ G σ ρ M H b M'} {Q : Bool → Hp → Prop}, Sm K F κ G M H → Se K κ G σ ρ → e ρ M = some (b, M') → (∀ κ' G' H', Le κ G κ' G' → Sm K F κ' G' M' H' → Q b H') → t σ H Q
structure SimA (K : PySem.W.Frag) (t : TA) (e : DA) : Prop where
  run : ∀ {F κ G σ ρ M H vs M'} {Q : List V → Hp → Prop}, Sm K F κ G M H → Se K κ G σ ρ → e ρ M = some (vs, M') → (∀ κ' G' us H', Le κ G κ' G' → Sm K F κ' G' M' H' → Rxs K κ' G' us vs → Q us H') → t σ H Q
def SimR2 (K : PySem.W.Frag) (r : R2) (f : O2) : Prop := ∀ {F κ G M H Q x y z M' u v}, Sm K F κ G M H → Rx K κ G u x → Rx K κ G v y → f x y M = some (z, M') → PV K F κ G Q z M' → r u v H Q
def SimR1 (K : PySem.W.Frag) (r : V → Hp → VK → Prop) (f : O1) : Prop := ∀ {F κ G M H Q x z M' u}, Sm K F κ G M H → Rx K κ G u x → f x M = some (z, M') → PV K F κ G Q z M' → r u H Q
def SimRA (K : PySem.W.Frag) (r : List V → Hp → VK → Prop) (f : OA) : Prop := ∀ {F κ G M H Q xs z M' us}, Sm K F κ G M H → Rxs K κ G us xs → f xs M = some (z, M') → PV K F κ G Q z M' → r us H Q
def SimRM (K : PySem.W.Frag) (T : String) (r : V → List V → Hp → VK → Prop) (f : Dv → List Dv → DSt → Option (Dv × DSt)) : Prop := ∀ {F κ G M H Q x xs z M' u us}, Sm K F κ G M H → Rx K κ G u x → Rxs K κ G us xs → f x xs M = some (z, M') → PV K F κ G Q z M' → r u us H Q
section
variable {K : PySem.W.Frag}
theorem PV.weak {F : Fz} {κ κ1 : List Addr} {G G1 : Hp} {Q : VK} {v : Dv} {M' : DSt} (l : Le κ G κ1 G1) (k : PV K F κ G Q v M') : PV K F κ1 G1 Q v M' := fun κ' G' u H' l' S r => k κ' G' u H' (l.trans l') S r
theorem PV.here {F : Fz} {κ : List Addr} {G : Hp} {Q : VK} {v : Dv} {M' : DSt} {H : Hp} {u : V} (k : PV K F κ G Q v M') (S : Sm K F κ G M' H) (r : Rx K κ G u v) : Q u H := k κ G u H (Le.refl _ _) S r

/-! ### names, constants, operators -/
theorem sim_var (i : Nat) : SimE K (tVar i) (eVar i) := ⟨fun {F κ G σ ρ M H Q v M'} S E h k => by
  unfold eVar at h
  split at h
  · rename_i x e
    cases h
    obtain ⟨u, hu, r⟩ := E.at_ i _ e
    exact ⟨u, hu, k.here S r⟩
  · cases h⟩
theorem sim_c {v : V} {d : D} (hd : ∀ G, Rv K G v d) : SimE K (tC v) (eC d) := ⟨fun {F κ G σ ρ M H Q x M'} S E h k => by
  cases h
  exact k.here S (hd G)⟩
theorem sim_op {r : R2} {f : O2} {ta tb : TE} {a b : DE} (hr : SimR2 K r f) (ha : SimE K ta a) (hb : SimE K tb b) : SimE K (tOp r ta tb) (e2 f a b) := ⟨fun {F κ G σ ρ M H Q z M'} S E h k => by
  unfold e2 at h
  split at h
  · rename_i x M1 e
    split at h
    · rename_i y M2 e2
      refine ha.run S E e fun κ1 G1 u H1 l1 S1 r1 => hb.run S1 (E.mono l1) e2 fun κ2 G2 v H2 l2 S2 r2 => ?_
      exact hr S2 (r1.mono l2) r2 h (k.weak (l1.trans l2))
    · cases h
  · cases h⟩
theorem sim_un {r : V → Hp → VK → Prop} {f : O1} {ta : TE} {a : DE} (hr : SimR1 K r f) (ha : SimE K ta a) : SimE K (tUn r ta) (e1 f a) := ⟨fun {F κ G σ ρ M H Q z M'} S E h k => by
  unfold e1 at h
  split at h
  · rename_i x M1 e
    exact ha.run S E e fun κ1 G1 u H1 l1 S1 r1 => hr S1 r1 h (k.weak l1)
  · cases h⟩
theorem sim_nil : SimA K tNil aNil := ⟨fun {F κ G σ ρ M H vs M' Q} S E h k => by
  cases h
  exact k κ G [] H (Le.refl _ _) S .nil⟩
theorem sim_cons {ta : TE} {a : DE} {tr : TA} {as : DA} (ha : SimE K ta a) (hr : SimA K tr as) : SimA K (tCons ta tr) (aCons a as) := ⟨fun {F κ G σ ρ M H vs M' Q} S E h k => by
  unfold aCons at h
  split at h
  · rename_i x M1 e
    split at h
    · rename_i xs M2 e2
      cases h
      exact ha.run S E e fun κ1 G1 u H1 l1 S1 r1 => hr.run S1 (E.mono l1) e2 fun κ2 G2 us H2 l2 S2 r2 => k κ2 G2 (u :: us) H2 (l1.trans l2) S2 (.cons (r1.mono l2) r2)
    · cases h
  · cases h⟩
theorem sim_cb {r : List V → Hp → VK → Prop} {f : OA} {ta : TA} {a : DA} (hr : SimRA K r f) (ha : SimA K ta a) : SimE K (tCB r ta) (eA f a) := ⟨fun {F κ G σ ρ M H Q z M'} S E h k => by
  unfold eA at h
  split at h
  · rename_i xs M1 e
    exact ha.run S E e fun κ1 G1 us H1 l1 S1 r1 => hr S1 r1 h (k.weak l1)
  · cases h⟩
theorem sim_chain {r r' : R2} {f g : O2} {ta tb tc : TE} {a b c : DE} (hr : SimR2 K r f) (hr' : SimR2 K r' g) (ha : SimE K ta a) (hb : SimE K tb b) (hc : SimE K tc c) : SimE K (tChain r r' ta tb tc) (eChain f g a b c) := ⟨fun {F κ G σ ρ M H Q z M'} S E h k => by
  unfold eChain at h
  split at h
  · rename_i x M1 e
    split at h
    · rename_i y M2 e2
      refine ha.run S E e fun κ1 G1 u H1 l1 S1 r1 => hb.run S1 (E.mono l1) e2 fun κ2 G2 v H2 l2 S2 r2 => ?_
      split at h
      · rename_i M3 e3
        split at h
        · rename_i zz M4 e4
          refine hr S2 (r1.mono l2) r2 e3 fun κ3 G3 w H3 l3 S3 r3 => ⟨true, ?_, ?_⟩
          · cases r3; rfl
          · show (if true = true then _ else _)
            rw [if_pos rfl]
            exact hc.run S3 (((E.mono l1).mono l2).mono l3) e4 fun κ4 G4 w4 H4 l4 S4 r4 => hr' S4 ((r2.mono l3).mono l4) r4 h (k.weak (((l1.trans l2).trans l3).trans l4))
        · cases h
      · rename_i M3 e3
        cases h
        refine hr S2 (r1.mono l2) r2 e3 fun κ3 G3 w H3 l3 S3 r3 => ⟨false, ?_, ?_⟩
        · cases r3; rfl
        · show (if false = true then _ else _)
          rw [if_neg Bool.false_ne_true]
          exact k κ3 G3 (.bl false) H3 ((l1.trans l2).trans l3) S3 (Rv.bl false)
      · cases h
    · cases h
  · cases h⟩

/-! ### tests -/
theorem sim_tB {ta : TE} {a : DE} (ha : SimE K ta a) : SimT K (tB ta) (tVal a) := ⟨fun {F κ G σ ρ M H b M' Q} S E h k => by
  unfold tVal at h
  split at h
  · rename_i c M1 e
    cases h
    refine ha.run S E e fun κ1 G1 u H1 l1 S1 r1 => ⟨b, ?_, k κ1 G1 H1 l1 S1⟩
    cases r1; rfl
  · cases h⟩
theorem sim_tTest {ta : TE} {a : DE} (ha : SimE K ta a) : SimT K (tTest ta) (tVal a) := ⟨fun {F κ G σ ρ M H b M' Q} S E h k => (sim_tB ha).run S E h k⟩
theorem sim_and {t u : TT} {a b : DT} (ha : SimT K t a) (hb : SimT K u b) : SimT K (L2.tAnd t u) (Rw.tAnd a b) := ⟨fun {F κ G σ ρ M H c M' Q} S E h k => by
  unfold Rw.tAnd at h
  split at h
  · rename_i M1 e
    refine ha.run S E e fun κ1 G1 H1 l1 S1 => ?_
    show (if true = true then _ else _)
    rw [if_pos rfl]
    exact hb.run S1 (E.mono l1) h fun κ2 G2 H2 l2 S2 => k κ2 G2 H2 (l1.trans l2) S2
  · rename_i M1 e
    cases h
    refine ha.run S E e fun κ1 G1 H1 l1 S1 => ?_
    show (if false = true then _ else _)
    rw [if_neg Bool.false_ne_true]
    exact k κ1 G1 H1 l1 S1
  · cases h⟩
theorem sim_or {t u : TT} {a b : DT} (ha : SimT K t a) (hb : SimT K u b) : SimT K (L2.tOr t u) (Rw.tOr a b) := ⟨fun {F κ G σ ρ M H c M' Q} S E h k => by
  unfold Rw.tOr at h
  split at h
  · rename_i M1 e
    cases h
    refine ha.run S E e fun κ1 G1 H1 l1 S1 => ?_
    show (if true = true then _ else _)
    rw [if_pos rfl]
    exact k κ1 G1 H1 l1 S1
  · rename_i M1 e
    refine ha.run S E e fun κ1 G1 H1 l1 S1 => ?_
    show (if false = true then _ else _)
    rw [if_neg Bool.false_ne_true]
    exact hb.run S1 (E.mono l1) h fun κ2 G2 H2 l2 S2 => k κ2 G2 H2 (l1.trans l2) S2
  · cases h⟩
theorem sim_not {t : TT} {a : DT} (ha : SimT K t a) : SimT K (L2.tNot t) (Rw.tNot a) := ⟨fun {F κ G σ ρ M H c M' Q} S E h k => by
  unfold Rw.tNot at h
  split at h
  · rename_i b M1 e
    cases h
    exact ha.run S E e k
  · cases h⟩
theorem sim_ifE {t : TT} {c : DT} {ta tb : TE} {a b : DE} (hc : SimT K t c) (ha : SimE K ta a) (hb : SimE K tb b) : SimE K (tIf t ta tb) (eIf c a b) := ⟨fun {F κ G σ ρ M H Q z M'} S E h k => by
  unfold eIf at h
  split at h
  · rename_i M1 e
    refine hc.run S E e fun κ1 G1 H1 l1 S1 => ?_
    show (if true = true then _ else _)
    rw [if_pos rfl]
    exact ha.run S1 (E.mono l1) h (k.weak l1)
  · rename_i M1 e
    refine hc.run S E e fun κ1 G1 H1 l1 S1 => ?_
    show (if false = true then _ else _)
    rw [if_neg Bool.false_ne_true]
    exact hb.run S1 (E.mono l1) h (k.weak l1)
  · cases h⟩
theorem sim_andV {ta tb : TE} {a b : DE} (ha : SimE K ta a) (hb : SimE K tb b) : SimE K (tAndV ta tb) (eAnd a b) := ⟨fun {F κ G σ ρ M H Q z M'} S E h k => by
  unfold eAnd at h
  split at h
  · rename_i M1 e
    refine ha.run S E e fun κ1 G1 u H1 l1 S1 r1 => ⟨true, by cases r1; rfl, ?_⟩
    rw [if_pos rfl]
    exact hb.run S1 (E.mono l1) h (k.weak l1)
  · rename_i M1 e
    cases h
    refine ha.run S E e fun κ1 G1 u H1 l1 S1 r1 => ⟨false, by cases r1; rfl, ?_⟩
    rw [if_neg Bool.false_ne_true]
    exact k κ1 G1 _ H1 l1 S1 (Rv.bl false)
  · cases h⟩
theorem sim_orV {ta tb : TE} {a b : DE} (ha : SimE K ta a) (hb : SimE K tb b) : SimE K (tOrV ta tb) (eOr a b) := ⟨fun {F κ G σ ρ M H Q z M'} S E h k => by
  unfold eOr at h
  split at h
  · rename_i M1 e
    cases h
    refine ha.run S E e fun κ1 G1 u H1 l1 S1 r1 => ⟨true, by cases r1; rfl, ?_⟩
    rw [if_pos rfl]
    exact k κ1 G1 _ H1 l1 S1 (Rv.bl true)
  · rename_i M1 e
    refine ha.run S E e fun κ1 G1 u H1 l1 S1 r1 => ⟨false, by cases r1; rfl, ?_⟩
    rw [if_neg Bool.false_ne_true]
    exact hb.run S1 (E.mono l1) h (k.weak l1)
  · cases h⟩
theorem sim_notV {ta : TE} {a : DE} (ha : SimE K ta a) : SimE K (tNotV ta) (eNot a) := ⟨fun {F κ G σ ρ M H Q z M'} S E h k => by
  unfold eNot at h
  split at h
  · rename_i b M1 e
    cases h
    refine ha.run S E e fun κ1 G1 u H1 l1 S1 r1 => ⟨b, by cases r1; rfl, k κ1 G1 _ H1 l1 S1 (Rv.bl _)⟩
  · cases h⟩

/-! ### operators on values -/
theorem rx_int {κ : List Addr} {G : Hp} {u : V} {i : Int} (r : Rx K κ G u (.d (.int i))) : u = .int i := by cases r; rfl
theorem rx_str {κ : List Addr} {G : Hp} {u : V} {i : Str} (r : Rx K κ G u (.d (.str i))) : u = .str i := by cases r; rfl
theorem rx_bl {κ : List Addr} {G : Hp} {u : V} {i : Bool} (r : Rx K κ G u (.d (.bl i))) : u = .bl i := by cases r; rfl
/-- what an int operation gives: an int or a truth -/
theorem sr_I0 {g : Int → Int → V} {f : Int → Int → D} (hg : ∀ i j G, Rv K G (g i j) (f i j)) : SimR2 K (rI0 g) (oI f) := fun {F κ G M H Q x y z M' u v} S rx ry h k => by
  unfold oI at h
  split at h
  · cases h
    exact ⟨_, _, rx_int rx, rx_int ry, k.here S (hg _ _ _)⟩
  · cases h
theorem sr_I {C : Int → Int → Prop} {p : Int → Int → Prop} {g : Int → Int → V} {f : Int → Int → D} (hc : ∀ i j, p i j → C i j) (hg : ∀ i j G, p i j → Rv K G (g i j) (f i j)) : SimR2 K (rI C g) (oIg p f) := fun {F κ G M H Q x y z M' u v} S rx ry h k => by
  unfold oIg at h
  split at h
  · obtain ⟨hp, h⟩ := grd_some h
    cases h
    exact ⟨_, _, rx_int rx, rx_int ry, hc _ _ hp, k.here S (hg _ _ _ hp)⟩
  · cases h
theorem sr_sub : SimR2 K (rI0 fun i j => .int (i - j)) oSub := sr_I0 fun _ _ _ => .int _
theorem sr_lt : SimR2 K (rI0 fun i j => .bl (decide (i < j))) oLt := sr_I0 fun _ _ _ => .bl _
theorem sr_le : SimR2 K (rI0 fun i j => .bl (decide (i ≤ j))) oLe := sr_I0 fun _ _ _ => .bl _
theorem sr_gt : SimR2 K (rI0 fun i j => .bl (decide (j < i))) oGt := sr_I0 fun _ _ _ => .bl _
theorem sr_ge : SimR2 K (rI0 fun i j => .bl (decide (j ≤ i))) oGe := sr_I0 fun _ _ _ => .bl _
def CMulR (i j : Int) : Prop := IntMulOk i j
theorem op_mulR {X : Cx} : OpR X (binaryOp .Mult) (rI CMulR fun i j => .int (i * j)) := opI fun _ _ _ _ _ _ _ hc q => mul_int q hc
theorem mulOk_ok {i j : Int} (h : mulOk i j) : CMulR i j := by
  rcases h with h | h | ⟨h1, h2⟩
  · exact (show CMul i j from .inl h).ok
  · exact (show CMul i j from .inr h).ok
  · unfold CMulR
    have b : ∀ x : Int, Builtin.Int.intBits x ≤ x.natAbs.log2 + 1 := fun x => by
      unfold Builtin.Int.intBits
      split <;> omega
    have e1 := b i
    have e2 := b j
    unfold iLn at h1 h2
    have e : bitsLine = 134217728 := by decide
    unfold IntMulOk
    intro z
    rw [Bool.and_eq_true] at z
    have z2 := z.2
    unfold Builtin.Int.intTooBig at z2
    have z3 := of_decide_eq_true z2
    rw [e] at z3
    omega
theorem sr_mul : SimR2 K (rI CMulR fun i j => .int (i * j)) oMul := sr_I (fun _ _ h => mulOk_ok h) fun _ _ _ _ => .int _
def CDivR (_ j : Int) : Prop := divOk j
theorem op_fdivR {X : Cx} : OpR X (binaryOp .FloorDiv) (rI CDivR fun i j => .int (i.fdiv j)) := opI fun i j _ _ _ _ _ hc q => floordiv_int hc.1 q (.inl (PyProof.noPylong_of_log2 hc.2))
theorem sr_div : SimR2 K (rI CDivR fun i j => .int (i.fdiv j)) oDiv := sr_I (fun _ _ h => h) fun _ _ _ _ => .int _
theorem sr_mod : SimR2 K (rI (fun _ j => j ≠ 0) fun i j => .int (i.fmod j)) oMod := sr_I (fun _ _ h => h) fun _ _ _ _ => .int _
theorem sr_pow : SimR2 K (rI CPow fun i j => .int (i ^ j.toNat)) oPow := sr_I (fun _ _ h => h) fun _ _ _ _ => .int _
theorem sr_neg : SimR1 K (rU fun i => .int (-i)) oNeg := fun {F κ G M H Q x z M' u} S rx h k => by
  unfold oNeg at h
  split at h
  · cases h
    exact ⟨_, rx_int rx, k.here S (Rv.int _)⟩
  · cases h
theorem sz_big {n : Nat} (h : n ≤ big) : n ≤ sizeLine := Nat.le_trans h (by decide)
theorem sz_big1 {n : Nat} (h : n < big) : n < sizeLine := Nat.lt_of_lt_of_le h (by decide)
/-- a + b: ints, texts, lists -/
def rAddS1 : R2 := fun x y H Q => ∃ i j, x = .str i ∧ y = .str j ∧ i.length + j.length ≤ sizeLine ∧ Q (.str (i ++ j)) H
def rAdd3 (K : PySem.W.Frag) : R2 := fun x y H Q => rI0 (fun i j => .int (i + j)) x y H Q ∨ (rAddS1 x y H Q ∨ (rCatT K x y H Q ∨ rCat x y H Q))
theorem op_add3 {X : Cx} : OpR X (binaryOp .Add) (rAdd3 X.K) := op_add.or (op_add_str.or (op_catT.or op_cat))
theorem sr_add (c : Bool) : SimR2 K (rAdd3 K) (oAdd c) := fun {F κ G M H Q x y z M' u v} S rx ry h k => by
  unfold oAdd at h
  split at h
  · cases h
    exact .inl ⟨_, _, rx_int rx, rx_int ry, k.here S (Rv.int _)⟩
  · obtain ⟨hp, h⟩ := grd_some h
    cases h
    exact .inr (.inl ⟨_, _, rx_str rx, rx_str ry, sz_big hp, k.here S (Rv.str _)⟩)
  · rename_i xs ys
    obtain ⟨⟨n1, n2, hp⟩, h⟩ := grd_some h
    cases h
    cases rx with
    | tup sx vx =>
      rename_i a us
      cases ry with
      | tup sy vy =>
        rename_i b vs
        refine .inr (.inr (.inl ⟨a, b, us, vs, rfl, rfl, Evl.ex_t S.ex sx, Evl.ex_t S.ex sy, ?_, sz_big (by rw [vx.length, vy.length]; exact hp), fun e => ?_, fun _ p hp => ?_⟩))
        · intro e
          subst e
          cases vx
          exact n1 rfl
        · subst e
          cases vy
          exact absurd rfl n2
        · obtain ⟨g, f, nk⟩ := S.fresh hp
          exact k κ (upd G p (.tup (us ++ vs))) _ _ (Le.newG g) (S.newG _ hp) (.tup (.of upd_same) ((vx.append vy).mono (Ex.new g)))
  · split at h
    · rename_i xs ys e1 e2
      obtain ⟨hp, h⟩ := grd_some h
      obtain ⟨a, us, rfl, ha, ra⟩ := lw_at S rx e1
      obtain ⟨b, vs, rfl, hb, rb⟩ := lw_at S ry e2
      refine .inr (.inr (.inr ⟨a, b, us, vs, rfl, rfl, ha, hb, sz_big (by rw [ra.length, rb.length]; exact hp), fun p hp => ?_⟩))
      obtain ⟨κ', G', l, S', r⟩ := S.new hp (ra.append rb) h
      exact k κ' G' _ _ l S' r
    · cases h
theorem sr_rep (c : Bool) : SimR2 K rRep (oRep c) := fun {F κ G M H Q x y z M' u v} S rx ry h k => by
  unfold oRep at h
  split at h
  · rename_i xs kk e1
    obtain ⟨⟨h1, h2, h3⟩, h⟩ := grd_some h
    obtain ⟨a, us, rfl, ha, ra⟩ := lw_at S rx e1
    refine ⟨a, kk, us, rfl, rx_int ry, ha, by omega, by omega, sz_big (by rw [ra.length]; exact h3), fun p hp => ?_⟩
    obtain ⟨κ', G', l, S', r⟩ := S.new hp (ra.rep kk.toNat) h
    exact k κ' G' _ _ l S' r
  · cases h
/-! ### == -/
mutual
def D.toPy : D → PyData
  | .non => .none
  | .bl b => .bool b
  | .int i => .int i
  | .str s => .str s
  | .ty _ => .none
  | .lst xs => .list (D.toPys xs)
  | .tup xs => .tuple (D.toPys xs)
def D.toPys : List D → List PyData
  | [] => []
  | x :: xs => x.toPy :: D.toPys xs
end
end
end Rw
end PRwSimE
section PRwSimF
set_option Elab.async false
set_option linter.all false
set_option maxRecDepth 100000
set_option maxHeartbeats 2000000
namespace Rw
open PySem L2 PySem.Spec PyProof.Rows
open Evl (Ex)
section
variable {K : PySem.W.Frag}
/-! ### == -/
theorem dp_all {G H : Hp} {n : Nat} (ih : ∀ (d : D) (v : V), Rv K G v d → d.shp n = true → Dp K H v d.toPy) : ∀ {vs : List V} {ds : List D}, Rvs K G vs ds → ds.all (D.shp n) = true → DpAll K H vs (D.toPys ds)
  | _, _, .nil, _ => .nil
  | _, _, .cons h r, hs => by
    simp only [List.all_cons, Bool.and_eq_true] at hs
    exact .cons (ih _ _ h hs.1) (dp_all ih r hs.2)
theorem dp_of {G H : Hp} (e : Ex G H) : ∀ (n : Nat) (d : D) (v : V), Rv K G v d → d.shp n = true → Dp K H v d.toPy
  | 0, d, v, h, hs => by
    cases h with
    | non => exact .non
    | bl b => exact .bl b
    | int i => exact .int i
    | str x => exact .str x
    | ty n _ => cases hs
    | exc h c o => cases hs
    | lst h r => cases hs
    | tup h r => cases hs
  | n + 1, d, v, h, hs => by
    cases h with
    | non => exact .non
    | bl b => exact .bl b
    | int i => exact .int i
    | str x => exact .str x
    | ty n _ => cases hs
    | exc h c o => cases hs
    | lst h r => exact .lst (.of (e _ _ h)) (dp_all (fun d v => dp_of e n d v) r hs)
    | tup h r => exact .tup (Evl.ex_t e h) (dp_all (fun d v => dp_of e n d v) r hs)
theorem shp_lay_all {n : Nat} (ih : ∀ d : D, d.shp n = true → d.toPy.canLay0 = true ∧ d.toPy.depth ≤ n) : ∀ ds : List D, ds.all (D.shp n) = true → PyData.canLayAll0 (D.toPys ds) = true ∧ PyData.depthAll (D.toPys ds) ≤ n
  | [], _ => ⟨rfl, Nat.zero_le _⟩
  | d :: ds, hs => by
    simp only [List.all_cons, Bool.and_eq_true] at hs
    obtain ⟨a, b⟩ := ih d hs.1
    obtain ⟨c, e⟩ := shp_lay_all ih ds hs.2
    refine ⟨?_, ?_⟩
    · simp only [D.toPys, PyData.canLayAll0, a, c, Bool.and_self]
    · simp only [D.toPys, PyData.depthAll]
      omega
theorem shp_lay : ∀ (n : Nat) (d : D), d.shp n = true → d.toPy.canLay0 = true ∧ d.toPy.depth ≤ n
  | n, .non, _ => ⟨rfl, by simp [D.toPy, PyData.depth]⟩
  | n, .bl _, _ => ⟨rfl, by simp [D.toPy, PyData.depth]⟩
  | n, .int _, _ => ⟨rfl, by simp [D.toPy, PyData.depth]⟩
  | n, .str s, h => ⟨by
      have h' : strFine s = true := by cases n <;> exact h
      simp only [D.toPy, PyData.canLay0]
      exact h', by simp [D.toPy, PyData.depth]⟩
  | n, .ty _, h => by cases n <;> cases h
  | 0, .lst _, h => by cases h
  | 0, .tup _, h => by cases h
  | n + 1, .lst ds, h => by
    obtain ⟨a, b⟩ := shp_lay_all (fun d => shp_lay n d) ds h
    exact ⟨by simp only [D.toPy, PyData.canLay0]; exact a, by simp only [D.toPy, PyData.depth]; omega⟩
  | n + 1, .tup ds, h => by
    obtain ⟨a, b⟩ := shp_lay_all (fun d => shp_lay n d) ds h
    exact ⟨by simp only [D.toPy, PyData.canLay0]; exact a, by simp only [D.toPy, PyData.depth]; omega⟩
theorem shaped_of {n : Nat} {d : D} (h : d.shp n = true) (hn : n ≤ 64) : SeqAt.shaped d.toPy = true := by
  obtain ⟨a, b⟩ := shp_lay n d h
  unfold SeqAt.shaped
  rw [a, decide_eq_true (Nat.le_trans b hn)]
  rfl
theorem eqvs_of {n : Nat} (ih : ∀ a b : D, a.shp n = true → b.shp n = true → PyData.eqv a.toPy b.toPy = D.eqv a b) : ∀ (as bs : List D), as.all (D.shp n) = true → bs.all (D.shp n) = true → PyData.eqvAll (D.toPys as) (D.toPys bs) = D.eqvs as bs
  | [], [], _, _ => rfl
  | [], _ :: _, _, _ => rfl
  | _ :: _, [], _, _ => rfl
  | a :: as, b :: bs, h1, h2 => by
    simp only [List.all_cons, Bool.and_eq_true] at h1 h2
    simp only [D.toPys, PyData.eqvAll, D.eqvs]
    rw [ih a b h1.1 h2.1, eqvs_of ih as bs h1.2 h2.2]
theorem eqv_of : ∀ (n : Nat) (a b : D), a.shp n = true → b.shp n = true → PyData.eqv a.toPy b.toPy = D.eqv a b
  | 0, a, b, h1, h2 => by
    cases a <;> cases b <;> simp [D.shp] at h1 h2 <;> simp only [D.toPy, PyData.eqv, D.eqv]
  | n + 1, a, b, h1, h2 => by
    cases a <;> cases b <;> first
      | (simp only [D.shp] at h1 h2; simp only [D.toPy, PyData.eqv, D.eqv]; exact eqvs_of (fun a b => eqv_of n a b) _ _ h1 h2)
      | (simp [D.shp] at h1 h2; done)
      | (simp only [D.toPy, PyData.eqv, D.eqv]; done)
theorem dp_dv {F : Fz} {κ : List Addr} {G : Hp} {M : DSt} {H : Hp} (S : Sm K F κ G M H) {u : V} {x : Dv} {d : D} (r : Rx K κ G u x) (h : dv M x = some d) {n : Nat} (hs : d.shp (n + 1) = true) : Dp K H u d.toPy := by
  cases x with
  | d y =>
    cases h
    exact dp_of S.ex _ _ _ r hs
  | c m =>
    obtain ⟨a, rfl, ha⟩ := r
    simp only [dv] at h
    cases e : (M[m]?).join with
    | none => rw [e] at h; cases h
    | some ds =>
      rw [e] at h
      cases h
      obtain ⟨xs, _, _, e3, e4⟩ := cell_at S e ha
      exact .lst (.of e3) (dp_all (fun d v => dp_of S.ex n d v) e4 hs)
  | r ys =>
    cases h
    obtain ⟨a, xs, rfl, q, p⟩ := r
    exact .lst (Evl.ex_l S.ex q) (dp_all (fun d v => dp_of S.ex n d v) p hs)
theorem sr_eq : SimR2 K (rEqD K) oEq := fun {F κ G M H Q x y z M' u v} S rx ry h k => by
  unfold oEq at h
  split at h
  · rename_i a b e1 e2
    obtain ⟨⟨h1, h2⟩, h⟩ := grd_some h
    cases h
    refine ⟨a.toPy, b.toPy, dp_dv S rx e1 h1, dp_dv S ry e2 h2, shaped_of h1 (by decide), shaped_of h2 (by decide), ?_⟩
    rw [eqv_of 9 a b h1 h2]
    exact k.here S (Rv.bl _)
  · cases h
theorem sr_ne : SimR2 K (rNeD K) oNe := fun {F κ G M H Q x y z M' u v} S rx ry h k => by
  unfold oNe at h
  split at h
  · rename_i a b e1 e2
    obtain ⟨⟨h1, h2⟩, h⟩ := grd_some h
    cases h
    refine ⟨a.toPy, b.toPy, dp_dv S rx e1 h1, dp_dv S ry e2 h2, shaped_of h1 (by decide), shaped_of h2 (by decide), ?_⟩
    rw [eqv_of 9 a b h1 h2]
    exact k.here S (Rv.bl _)
  · cases h
/-! ### is None, in -/
theorem isNon_of {κ : List Addr} {G : Hp} {u : V} {x : Dv} (r : Rx K κ G u x) : decide (u = .non) = isNon x := by
  cases x with
  | d y => cases r <;> simp [isNon]
  | c n => obtain ⟨a, rfl, _⟩ := r; simp [isNon]
  | r xs => obtain ⟨a, _, rfl, _⟩ := r; simp [isNon]
theorem sim_isN {ta : TE} {a : DE} (ha : SimE K ta a) : SimE K (tOp (fun x y H Q => y = .non ∧ Q (.bl (decide (x = .non))) H) ta (tC .non)) (e1 oIsN a) := ⟨fun {F κ G σ ρ M H Q z M'} S E h k => by
  unfold e1 at h
  split at h
  · rename_i x M1 e
    cases h
    refine ha.run S E e fun κ1 G1 u H1 l1 S1 r1 => ⟨rfl, ?_⟩
    rw [isNon_of r1]
    exact k κ1 G1 _ H1 l1 S1 (Rv.bl _)
  · cases h⟩
theorem sim_notN {ta : TE} {a : DE} (ha : SimE K ta a) : SimE K (tOp (fun x y H Q => y = .non ∧ Q (.bl (!decide (x = .non))) H) ta (tC .non)) (e1 oNotN a) := ⟨fun {F κ G σ ρ M H Q z M'} S E h k => by
  unfold e1 at h
  split at h
  · rename_i x M1 e
    cases h
    refine ha.run S E e fun κ1 G1 u H1 l1 S1 r1 => ⟨rfl, ?_⟩
    rw [isNon_of r1]
    exact k κ1 G1 _ H1 l1 S1 (Rv.bl _)
  · cases h⟩
theorem flat_of {G : Hp} {u : V} {x : D} (r : Rv K G u x) (h : x.flat = true) : flatV u = true := by
  cases r <;> first | rfl | cases h
theorem flats_of {G : Hp} : ∀ {us : List V} {xs : List D}, Rvs K G us xs → xs.all D.flat = true → us.all flatV = true
  | _, _, .nil, _ => rfl
  | _, _, .cons a r, h => by
    simp only [List.all_cons, Bool.and_eq_true] at h ⊢
    exact ⟨flat_of a h.1, flats_of r h.2⟩
theorem eqV_of {G : Hp} {u v : V} {x y : D} (r : Rv K G u x) (q : Rv K G v y) (h : x.flat = true) (h' : y.flat = true) : eqV u v = D.eqv x y := by
  cases r <;> first | (cases h; done) | (cases q <;> first | (cases h'; done) | rfl | simp only [eqV, D.eqv])
theorem inV_of {G : Hp} {v : V} {y : D} (q : Rv K G v y) (h' : y.flat = true) : ∀ {us : List V} {xs : List D}, Rvs K G us xs → xs.all D.flat = true → inV v us = xs.any fun b => D.eqv b y
  | _, _, .nil, _ => rfl
  | _, _, .cons a r, h => by
    simp only [List.all_cons, Bool.and_eq_true] at h
    have ih := inV_of q h' r h.2
    unfold inV at ih ⊢
    simp only [List.any_cons, eqV_of a q h.1 h', ih]
theorem sr_in (neg : Bool) : SimR2 K (rIn K neg) (oIn neg) := fun {F κ G M H Q x y z M' u v} S rx ry h k => by
  unfold oIn at h
  split at h
  · rename_i a ys e
    obtain ⟨⟨h1, h2⟩, h⟩ := grd_some h
    cases h
    obtain ⟨p, xs, rfl, hs, r⟩ := sv_at S ry e
    refine ⟨p, xs, rfl, hs, flat_of rx h1, flats_of r h2, ?_⟩
    rw [inV_of rx h1 r h2]
    refine k.here S ?_
    cases neg
    · rw [Bool.false_xor]; exact Rv.bl _
    · rw [Bool.true_xor]; exact Rv.bl _
  · cases h
/-! ### places and slices -/
theorem ixD_eq (n : Nat) (i : Int) : ixD n i = ixN n i := rfl
theorem sr_ix : SimR2 K (rIx K) oIx := fun {F κ G M H Q x y z M' u v} S rx ry h k => by
  unfold oIx at h
  split at h
  · rename_i xs i e
    split at h
    · rename_i j ej
      split at h
      · rename_i w ew
        cases h
        obtain ⟨p, us, rfl, hs, r⟩ := sv_at S rx e
        obtain ⟨w', hw, rw'⟩ := r.get ew
        have ha : atI us i = some w' := by
          unfold atI
          rw [r.length, ← ixD_eq, ej]
          exact hw
        rcases hs with hs | hs
        · exact .inl ⟨p, us, i, w', rfl, rx_int ry, hs, ha, k.here S rw'⟩
        · exact .inr (.inl ⟨p, us, i, w', rfl, rx_int ry, hs, ha, k.here S rw'⟩)
      · cases h
    · cases h
  · rename_i i e
    split at h
    · rename_i s
      obtain ⟨hp, h⟩ := grd_some h
      split at h
      · rename_i j ej
        split at h
        · rename_i w ew
          cases h
          refine .inr (.inr ⟨s, i, w, rx_str rx, rx_int ry, sz_big hp, ?_, k.here S (Rv.str _)⟩)
          unfold atI
          rw [← ixD_eq, ej]
          exact ew
        · cases h
      · cases h
    · cases h
  · cases h
theorem sIx_eq (n d : Nat) (o : Option Int) : sIxD n d o = HT.sIx n d o := by cases o <;> rfl
theorem Rvs.cut {G : Hp} {us : List V} {xs : List D} (r : Rvs K G us xs) (lo hi : Option Int) : Rvs K G (cutV us lo hi) (cutD xs lo hi) := by
  unfold cutV cutD
  rw [← r.length, sIx_eq, sIx_eq]
  exact (r.drop _).take _
structure SimO (K : PySem.W.Frag) (t : TO) (e : DO) : Prop where
  run : ∀ {F κ G σ ρ M H o M'} {Q : Option Int → Hp → Prop}, Sm K F κ G M H → Se K κ G σ ρ → e ρ M = some (o, M') → (∀ κ' G' H', Le κ G κ' G' → Sm K F κ' G' M' H' → Q o H') → t σ H Q
theorem sim_pn : SimO K tNoPart pNone := ⟨fun {F κ G σ ρ M H o M' Q} S E h k => by
  cases h
  exact k κ G H (Le.refl _ _) S⟩
theorem sim_ps {ta : TE} {a : DE} (ha : SimE K ta a) : SimO K (tPart ta) (pSome a) := ⟨fun {F κ G σ ρ M H o M' Q} S E h k => by
  unfold pSome at h
  split at h
  · rename_i i M1 e
    cases h
    exact ha.run S E e fun κ1 G1 u H1 l1 S1 r1 => ⟨i, rx_int r1, k κ1 G1 H1 l1 S1⟩
  · cases h⟩
def SimSl (K : PySem.W.Frag) (r : V → Option Int → Option Int → Hp → VK → Prop) (f : Dv → Option Int → Option Int → DSt → Option (Dv × DSt)) : Prop := ∀ {F κ G M H Q x lo hi z M' u}, Sm K F κ G M H → Rx K κ G u x → f x lo hi M = some (z, M') → PV K F κ G Q z M' → r u lo hi H Q
theorem sim_sl {r : V → Option Int → Option Int → Hp → VK → Prop} {f : Dv → Option Int → Option Int → DSt → Option (Dv × DSt)} {ta : TE} {a : DE} {tl th : TO} {lo hi : DO} (hr : SimSl K r f) (ha : SimE K ta a) (hl : SimO K tl lo) (hh : SimO K th hi) : SimE K (tSl r ta tl th) (eSl f a lo hi) := ⟨fun {F κ G σ ρ M H Q z M'} S E h k => by
  unfold eSl at h
  split at h
  · rename_i x M1 e
    split at h
    · rename_i l M2 e2
      split at h
      · rename_i hh' M3 e3
        refine ha.run S E e fun κ1 G1 u H1 l1 S1 r1 => hl.run S1 (E.mono l1) e2 fun κ2 G2 H2 l2 S2 => hh.run S2 ((E.mono l1).mono l2) e3 fun κ3 G3 H3 l3 S3 => ?_
        exact hr S3 ((r1.mono l2).mono l3) h (k.weak ((l1.trans l2).trans l3))
      · cases h
    · cases h
  · cases h⟩
theorem ss_list (c : Bool) : SimSl K (rSlL K) (slL c) := fun {F κ G M H Q x lo hi z M' u} S rx h k => by
  unfold slL at h
  split at h
  · rename_i xs e
    obtain ⟨a, us, rfl, hs, r⟩ := lv_at S rx e
    refine ⟨a, us, rfl, hs, fun p hp => ?_⟩
    obtain ⟨κ', G', l, S', r'⟩ := S.new hp (r.cut lo hi) h
    exact k κ' G' _ _ l S' r'
  · cases h
theorem cut_whole {xs : List D} {lo hi : Option Int} (h : HT.sIx xs.length 0 lo = 0 ∧ HT.sIx xs.length xs.length hi = xs.length) : cutD xs lo hi = xs := by
  unfold cutD
  rw [sIx_eq, sIx_eq, h.1, h.2]
  simp
theorem ss_tup : SimSl K (rSlA K) slT := fun {F κ G M H Q x lo hi z M' u} S rx h k => by
  unfold slT at h
  split at h
  · rename_i xs
    cases h
    cases rx with
    | tup hs r =>
      rename_i a us
      refine ⟨a, us, rfl, Evl.ex_t S.ex hs, fun w => ?_, fun _ p hp => ?_⟩
      · rw [r.length] at w
        have e := cut_whole w
        exact k.here S (by rw [e]; exact Rv.tup hs r)
      · have g := (S.fresh hp).1
        exact k κ (upd G p (.tup (cutV us lo hi))) _ _ (Le.newG g) (S.newG _ hp) (Rv.tup (.of upd_same) ((r.cut lo hi).mono (Ex.new g)))
  · cases h
/-! ### displays -/
theorem allD_of {κ : List Addr} {G : Hp} : ∀ {us : List V} {vs : List Dv} {xs : List D}, Rxs K κ G us vs → allD vs = some xs → Rvs K G us xs
  | _, _, _, .nil, h => by cases h; exact .nil
  | _, _, xs, .cons r rs, h => by
    rename_i u us v vs
    cases v with
    | d x =>
      simp only [allD] at h
      cases e : allD vs with
      | none => rw [e] at h; cases h
      | some ys =>
        rw [e] at h
        cases h
        exact .cons r (allD_of rs e)
    | c n => cases h
    | r n => cases h
theorem sim_tup {ta : TA} {a : DA} (ha : SimA K ta a) : SimE K (tTup ta) (eTup a) := ⟨fun {F κ G σ ρ M H Q z M'} S E h k => by
  unfold eTup eA at h
  split at h
  · rename_i vs M1 e
    dsimp only at h
    split at h
    · rename_i xs ex
      obtain ⟨hp, h⟩ := grd_some h
      cases h
      refine ha.run S E e fun κ1 G1 us H1 l1 S1 r1 => ?_
      have r := allD_of r1 ex
      refine ⟨sz_big (by rw [r.length]; exact hp), fun p hp => ?_⟩
      have g := (S1.fresh hp).1
      exact k κ1 (upd G1 p (.tup us)) _ _ (l1.trans (Le.newG g)) (S1.newG _ hp) (Rv.tup (.of upd_same) (r.mono (Ex.new g)))
    · cases h
  · cases h⟩
theorem sim_lst (c : Bool) {ta : TA} {a : DA} (ha : SimA K ta a) : SimE K (tLst ta) (eLst c a) := ⟨fun {F κ G σ ρ M H Q z M'} S E h k => by
  unfold eLst eA at h
  split at h
  · rename_i vs M1 e
    dsimp only at h
    split at h
    · rename_i xs ex
      obtain ⟨hp, h⟩ := grd_some h
      refine ha.run S E e fun κ1 G1 us H1 l1 S1 r1 => ?_
      have r := allD_of r1 ex
      refine ⟨sz_big (by rw [r.length]; exact hp), fun p hp => ?_⟩
      obtain ⟨κ', G', l, S', r'⟩ := S1.new hp r h
      exact k κ' G' _ _ (l1.trans l) S' r'
    · cases h
  · cases h⟩
/-- a list that was just made is data -/
theorem sim_frz {ta : TE} {a : DE} (ha : SimE K ta a) : SimE K ta (eFrz a) := ⟨fun {F κ G σ ρ M H Q z M'} S E h k => by
  unfold eFrz at h
  split at h
  · rename_i p e
    obtain ⟨v, M1⟩ := p
    unfold frz at h
    split at h
    · rename_i y M2 ep
      cases ep
      cases h
      exact ha.run S E e k
    · rename_i n M2 ep
      cases ep
      split at h
      · rename_i hn
        obtain ⟨h1, h2⟩ := hn
        split at h
        · rename_i xs ex
          cases h
          refine ha.run S E e fun κ1 G1 u H1 l1 S1 r1 => ?_
          obtain ⟨b, rfl, hb⟩ := r1
          obtain ⟨G2, l2, S2, r2⟩ := S1.freeze ex hb
          have S3 := S2.take M.length
          have e3 : (M1.set n none).take M.length = M1.take M.length := by
            rw [List.take_set_of_le (by omega)]
          rw [e3] at S3
          have e4 : κ1.take M.length = κ := by
            obtain ⟨t, rfl⟩ := l1.pre
            rw [← S.len, List.take_left]
          rw [e4] at S3
          exact k κ G2 _ H1 ⟨List.prefix_refl _, l1.ex.trans l2⟩ S3 r2
        · cases h
      · cases h
    · cases h
  · cases h⟩
theorem sim_frzC {ta : TE} {a : DE} (ha : SimE K ta a) : SimE K ta (eFrzC a) := ⟨fun {F κ G σ ρ M H Q z M'} S E h k => by
  unfold eFrzC at h
  split at h
  · rename_i n M1 e
    split at h
    · rename_i xs ex
      cases h
      refine ha.run S E e fun κ1 G1 u H1 l1 S1 r1 => ?_
      obtain ⟨b, rfl, hb⟩ := r1
      obtain ⟨G2, l2, S2, r2⟩ := S1.freeze ex hb
      exact k κ1 G2 _ H1 ⟨l1.pre, l1.ex.trans l2⟩ S2 r2
    · cases h
  · cases h⟩
end
end Rw
end PRwSimF
section PRwSimG
set_option Elab.async false
set_option linter.all false
set_option maxRecDepth 100000
set_option maxHeartbeats 2000000
namespace Rw
open PySem L2 PySem.Spec PyProof.Rows
open Evl (Ex)
section
variable {K : PySem.W.Frag}
/-! ### built-ins -/
theorem rxs1 {κ : List Addr} {G : Hp} {us : List V} {x : Dv} (r : Rxs K κ G us [x]) : ∃ u, us = [u] ∧ Rx K κ G u x := by
  cases r with
  | cons a r => cases r; exact ⟨_, rfl, a⟩
theorem rxs2 {κ : List Addr} {G : Hp} {us : List V} {x y : Dv} (r : Rxs K κ G us [x, y]) : ∃ u v, us = [u, v] ∧ Rx K κ G u x ∧ Rx K κ G v y := by
  cases r with
  | cons a r =>
    obtain ⟨v, rfl, b⟩ := rxs1 r
    exact ⟨_, v, rfl, a, b⟩
theorem rxs0 {κ : List Addr} {G : Hp} {us : List V} (r : Rxs K κ G us []) : us = [] := by cases r; rfl
def rAbs : List V → Hp → VK → Prop := fun xs H Q => ∃ i, xs = [.int i] ∧ Q (.int (if i < 0 then -i else i)) H
theorem sa_abs : SimRA K rAbs oAbs := fun {F κ G M H Q xs z M' us} S r h k => by
  unfold oAbs at h
  split at h
  · cases h
    obtain ⟨u, rfl, a⟩ := rxs1 r
    exact ⟨_, by rw [rx_int a], k.here S (Rv.int _)⟩
  · cases h
def rMax2 : List V → Hp → VK → Prop := fun xs H Q => ∃ i j, xs = [.int i, .int j] ∧ Q (.int (if j > i then j else i)) H
def rMin2 : List V → Hp → VK → Prop := fun xs H Q => ∃ i j, xs = [.int i, .int j] ∧ Q (.int (if j < i then j else i)) H
theorem sa_max2 : SimRA K rMax2 oMax2 := fun {F κ G M H Q xs z M' us} S r h k => by
  unfold oMax2 at h
  split at h
  · cases h
    obtain ⟨u, v, rfl, a, b⟩ := rxs2 r
    exact ⟨_, _, by rw [rx_int a, rx_int b], k.here S (Rv.int _)⟩
  · cases h
theorem sa_min2 : SimRA K rMin2 oMin2 := fun {F κ G M H Q xs z M' us} S r h k => by
  unfold oMin2 at h
  split at h
  · cases h
    obtain ⟨u, v, rfl, a, b⟩ := rxs2 r
    exact ⟨_, _, by rw [rx_int a, rx_int b], k.here S (Rv.int _)⟩
  · cases h
def rLen (K : PySem.W.Frag) : List V → Hp → VK → Prop := fun xs H Q => ∃ x n, xs = [x] ∧ LenV K x H n ∧ Q (.int n) H
theorem sa_len : SimRA K (rLen K) oLen := fun {F κ G M H Q xs z M' us} S r h k => by
  unfold oLen at h
  split at h
  · obtain ⟨hp, h⟩ := grd_some h
    cases h
    obtain ⟨u, rfl, a⟩ := rxs1 r
    obtain rfl := rx_str a
    exact ⟨_, _, rfl, ⟨sz_big hp, rfl⟩, k.here S (Rv.int _)⟩
  · split at h
    · rename_i xs e
      cases h
      obtain ⟨u, rfl, a⟩ := rxs1 r
      obtain ⟨p, vs, rfl, hs, rr⟩ := sv_at S a e
      refine ⟨_, vs.length, rfl, ?_, ?_⟩
      · rcases hs with hs | hs
        · exact .inl ⟨vs, hs, rfl⟩
        · exact .inr ⟨vs, hs, rfl⟩
      · rw [rr.length]
        exact k.here S (Rv.int _)
    · cases h
  · cases h
theorem sa_sum : SimRA K (rSum K) oSum := fun {F κ G M H Q xs z M' us} S r h k => by
  unfold oSum at h
  split at h
  · split at h
    · rename_i xs e
      split at h
      · rename_i ns en
        cases h
        obtain ⟨u, rfl, a⟩ := rxs1 r
        obtain ⟨p, vs, rfl, hs, rr⟩ := lv_at S a e
        rw [rr.ints_of en] at hs
        exact ⟨p, ns, rfl, hs, k.here S (Rv.int _)⟩
      · cases h
    · cases h
  · cases h
theorem sa_all : SimRA K (rAll K) oAll := fun {F κ G M H Q xs z M' us} S r h k => by
  unfold oAll at h
  split at h
  · split at h
    · rename_i xs e
      split at h
      · rename_i ns en
        cases h
        obtain ⟨u, rfl, a⟩ := rxs1 r
        obtain ⟨p, vs, rfl, hs, rr⟩ := lv_at S a e
        rw [rr.bls_of en] at hs
        exact ⟨p, ns, rfl, hs, k.here S (Rv.bl _)⟩
      · cases h
    · cases h
  · cases h
theorem sa_any : SimRA K (rAny K) oAny := fun {F κ G M H Q xs z M' us} S r h k => by
  unfold oAny at h
  split at h
  · split at h
    · rename_i xs e
      split at h
      · rename_i ns en
        cases h
        obtain ⟨u, rfl, a⟩ := rxs1 r
        obtain ⟨p, vs, rfl, hs, rr⟩ := lv_at S a e
        rw [rr.bls_of en] at hs
        exact ⟨p, ns, rfl, hs, k.here S (Rv.bl _)⟩
      · cases h
    · cases h
  · cases h
def rInt1 : List V → Hp → VK → Prop := fun xs H Q => (∃ i, xs = [.int i] ∧ Q (.int i) H) ∨ ∃ k, xs = [.bl k] ∧ Q (.int (if k then 1 else 0)) H
theorem sa_int : SimRA K rInt1 oInt := fun {F κ G M H Q xs z M' us} S r h k => by
  unfold oInt at h
  split at h
  · cases h
    obtain ⟨u, rfl, a⟩ := rxs1 r
    exact .inl ⟨_, by rw [rx_int a], k.here S (Rv.int _)⟩
  · cases h
    obtain ⟨u, rfl, a⟩ := rxs1 r
    exact .inr ⟨_, by rw [rx_bl a], k.here S (Rv.int _)⟩
  · cases h
def rListOf (K : PySem.W.Frag) : List V → Hp → VK → Prop := fun xs H Q => ∃ p ys, xs = [.ref p] ∧ (SqL K H p ys ∨ SqT K H p ys) ∧ ∀ l, H l = none → Q (.ref l) (upd H l (.lst ys))
theorem sa_list (c : Bool) : SimRA K (rListOf K) (oList c) := fun {F κ G M H Q xs z M' us} S r h k => by
  unfold oList at h
  split at h
  · split at h
    · rename_i xs e
      obtain ⟨u, rfl, a⟩ := rxs1 r
      obtain ⟨p, vs, rfl, hs, rr⟩ := sv_at S a e
      refine ⟨p, vs, rfl, hs, fun l hl => ?_⟩
      obtain ⟨κ', G', l', S', r'⟩ := S.new hl rr h
      exact k κ' G' _ _ l' S' r'
    · cases h
  · cases h
theorem rng_rvs {G : Hp} (a : Int) (n : Nat) : Rvs K G ((List.range n).map fun (i : Nat) => V.int (a + (i : Nat))) (rng a n) := by
  have h := Rvs.of_ints (K := K) (G := G) ((List.range n).map fun (i : Nat) => a + (i : Int))
  rw [List.map_map, List.map_map] at h
  exact h
theorem sim_listR1 (c : Bool) {ta : TE} {a : DE} (ha : SimE K ta a) : SimE K (tLstRg (tRg1 ta)) (eA (oListR1 c) (aCons a aNil)) := ⟨fun {F κ G σ ρ M H Q z M'} S E h k => by
  unfold eA aCons aNil at h
  cases e : a ρ M with
  | none => simp only [e] at h; cases h
  | some p =>
    obtain ⟨x, M1⟩ := p
    simp only [e] at h
    unfold oListR1 at h
    split at h
    · rename_i vs j ej
      cases ej
      obtain ⟨hp, h⟩ := grd_some h
      refine ha.run S E e fun κ1 G1 u H1 l1 S1 r1 => ⟨j, rx_int r1, ?_⟩
      refine ⟨⟨by omega, by omega, by omega, by omega, by omega⟩, fun q hq => ?_⟩
      have rr := rng_rvs (K := K) (G := G1) 0 j.toNat
      have e0 : rgV 0 j = (List.range j.toNat).map fun (i : Nat) => V.int (0 + (i : Nat)) := by unfold rgV; rw [Int.sub_zero]
      rw [e0]
      obtain ⟨κ', G', l', S', r'⟩ := S1.new hq rr h
      exact k κ' G' _ _ (l1.trans l') S' r'
    · cases h⟩
theorem sim_listR2 (c : Bool) {ta tb : TE} {a b : DE} (ha : SimE K ta a) (hb : SimE K tb b) : SimE K (tLstRg (tRg2 ta tb)) (eA (oListR2 c) (aCons a (aCons b aNil))) := ⟨fun {F κ G σ ρ M H Q z M'} S E h k => by
  simp only [eA, aCons, aNil] at h
  cases e : a ρ M with
  | none => simp only [e] at h; cases h
  | some p =>
    obtain ⟨x, M1⟩ := p
    simp only [e] at h
    cases e2 : b ρ M1 with
    | none => simp only [e2] at h; cases h
    | some p =>
      obtain ⟨y, M2⟩ := p
      simp only [e2] at h
      unfold oListR2 at h
      split at h
      · rename_i vs i j ej
        cases ej
        obtain ⟨hp, h⟩ := grd_some h
        refine ha.run S E e fun κ1 G1 u H1 l1 S1 r1 => hb.run S1 (E.mono l1) e2 fun κ2 G2 v H2 l2 S2 r2 => ⟨i, j, rx_int r1, rx_int r2, ?_⟩
        refine ⟨⟨by omega, by omega, by omega, by omega, by omega⟩, fun q hq => ?_⟩
        have rr := rng_rvs (K := K) (G := G2) i (j - i).toNat
        obtain ⟨κ', G', l', S', r'⟩ := S2.new hq rr h
        exact k κ' G' _ _ ((l1.trans l2).trans l') S' r'
      · cases h⟩
/-! ### isinstance, sorted, [::-1] -/
def okTy (T : String) : Bool := T == "bool" || T == "int" || T == "str" || T == "list" || T == "tuple"
theorem kit_names : ∀ t ∈ ["NoneType", "bool", "int", "str", "list", "tuple"], ∀ T ∈ ["bool", "int", "str", "list", "tuple"], kitB t T = some (subTy t T) := by decide +kernel
theorem tyx_of {F : Fz} {κ : List Addr} {G : Hp} {M : DSt} {H : Hp} (S : Sm K F κ G M H) {u : V} {x : Dv} {d : D} (r : Rx K κ G u x) (h : dv M x = some d) (hn : ∀ n, d ≠ .ty n) : TyX K H u (.type d.tyN) ∧ d.tyN ∈ ["NoneType", "bool", "int", "str", "list", "tuple"] := by
  cases x with
  | d y =>
    cases h
    cases r with
    | non => exact ⟨.base .non, by simp [D.tyN]⟩
    | bl b => exact ⟨.base (.bl b), by simp [D.tyN]⟩
    | int i => exact ⟨.base (.int i), by simp [D.tyN]⟩
    | str s => exact ⟨.base (.str s), by simp [D.tyN]⟩
    | ty n _ => exact absurd rfl (hn n)
    | exc h c o => exact absurd rfl (hn _)
    | lst h r => exact ⟨.base (.lst (S.ex _ _ h)), by simp [D.tyN]⟩
    | tup h r =>
      refine ⟨?_, by simp [D.tyN]⟩
      rcases h with (h | ⟨o, h⟩) | ⟨o, its, n, hk, hc, _⟩
      · exact .base (.tup (S.ex _ _ h))
      · exact .fTuple (S.ex _ _ h)
      · exact .kTuple hk hc
  | c m =>
    obtain ⟨a, rfl, ha⟩ := r
    simp only [dv] at h
    cases e : (M[m]?).join with
    | none => rw [e] at h; cases h
    | some ds =>
      rw [e] at h
      cases h
      obtain ⟨xs, _, _, e3, e4⟩ := cell_at S e ha
      exact ⟨.base (.lst e3), by simp [D.tyN]⟩
  | r ys =>
    cases h
    obtain ⟨a, xs, rfl, q, p⟩ := r
    refine ⟨?_, by simp [D.tyN]⟩
    rcases Evl.ex_l S.ex q with (h | ⟨o, h⟩) | ⟨o, its, n, hk, hc, _⟩
    · exact .base (.lst h)
    · exact .base (.frz h)
    · exact .kList hk hc
theorem sa_isi (T : String) (hT : T ∈ ["bool", "int", "str", "list", "tuple"]) : SimRA K (rIsi K) (oIsi T) := fun {F κ G M H Q xs z M' us} S r h k => by
  unfold oIsi at h
  split at h
  · rename_i vs v n
    split at h
    · rename_i en
      subst en
      split at h
      · cases h
      · rename_i x nt e
        cases h
        obtain ⟨u, c, rfl, a, b⟩ := rxs2 r
        cases b with
        | exc h1 h2 h3 => exact absurd hT h3
        | ty =>
          obtain ⟨t1, t2⟩ := tyx_of S a e nt
          exact ⟨u, .ty n, _, _, _, rfl, .ty n, t1, kit_ty (kit_names _ t2 n hT), k.here S (Rv.bl _)⟩
      · cases h
    · cases h
  · cases h
theorem sorted_one {ns ms : List Int} (h1 : ms.Perm ns) (h2 : ms.Pairwise (· ≤ ·)) : ms = ns.mergeSort (fun a b => decide (a ≤ b)) := by
  have h3 := List.pairwise_mergeSort (le := fun (a b : Int) => decide (a ≤ b)) (fun a b c => by simp; omega) (fun a b => by simp; omega) ns
  have h4 := List.mergeSort_perm ns (fun a b => decide (a ≤ b))
  refine List.Perm.eq_of_pairwise (le := fun (a b : Int) => a ≤ b) (fun a b _ _ h1 h2 => Int.le_antisymm h1 h2) h2 (h3.imp (by simp)) (h1.trans h4.symm)
theorem sa_sorted (c : Bool) : SimRA K (rSortedI K) (oSorted c) := fun {F κ G M H Q xs z M' us} S r h k => by
  unfold oSorted at h
  split at h
  · split at h
    · rename_i xs e
      split at h
      · rename_i ns en
        obtain ⟨u, rfl, a⟩ := rxs1 r
        obtain ⟨p, vs, rfl, hs, rr⟩ := lv_at S a e
        rw [rr.ints_of en] at hs
        refine ⟨p, ns, rfl, hs, fun ms q h1 h2 hq => ?_⟩
        rw [sorted_one h1 h2]
        obtain ⟨κ', G', l', S', r'⟩ := S.new hq (Rvs.of_ints _) h
        exact k κ' G' _ _ l' S' r'
      · cases h
    · cases h
  · cases h
theorem Rvs.reverse {G : Hp} : ∀ {us : List V} {xs : List D}, Rvs K G us xs → Rvs K G us.reverse xs.reverse
  | _, _, .nil => .nil
  | _, _, .cons h r => by
    rw [List.reverse_cons, List.reverse_cons]
    exact (Rvs.reverse r).append (.cons h .nil)
theorem sim_rev (c : Bool) {ta : TE} {a : DE} (ha : SimE K ta a) : SimE K (tRevL K ta) (e1 (oRev c) a) := ⟨fun {F κ G σ ρ M H Q z M'} S E h k => by
  unfold e1 at h
  split at h
  · rename_i x M1 e
    unfold oRev at h
    split at h
    · rename_i xs ex
      refine ha.run S E e fun κ1 G1 u H1 l1 S1 r1 => ?_
      obtain ⟨p, vs, rfl, hs, rr⟩ := lv_at S1 r1 ex
      refine ⟨p, vs, rfl, hs, fun q hq => ?_⟩
      obtain ⟨κ', G', l', S', r'⟩ := S1.new hq rr.reverse h
      exact k κ' G' _ _ (l1.trans l') S' r'
    · cases h
  · cases h⟩
/-! ### methods of lists -/
theorem sim_bm {r : V → List V → Hp → VK → Prop} {f : Dv → List Dv → DSt → Option (Dv × DSt)} {to : TE} {o : DE} {ta : TA} {a : DA} (hr : SimRM K "list" r f) (hl : ∀ v as M z, f v as M = some z → ∃ n, v = .c n) (ho : SimE K to o) (ha : SimA K ta a) : SimE K (tBM K "list" r to ta) (eM f o a) := ⟨fun {F κ G σ ρ M H Q z M'} S E h k => by
  unfold eM at h
  split at h
  · rename_i x M1 e
    split at h
    · rename_i xs M2 e2
      obtain ⟨n, rfl⟩ := hl _ _ _ _ h
      refine ho.run S E e fun κ1 G1 u H1 l1 S1 r1 => ⟨?_, ?_⟩
      · obtain ⟨b, rfl, hb⟩ := r1
        obtain ⟨q, hq⟩ := S1.th b (List.mem_of_getElem? hb)
        exact .inl ⟨rfl, q, .of hq⟩
      · exact ha.run S1 (E.mono l1) e2 fun κ2 G2 us H2 l2 S2 r2 => hr S2 (r1.mono l2) r2 h (k.weak (l1.trans l2))
    · cases h
  · cases h⟩
theorem sim_bm0 {r : V → List V → Hp → VK → Prop} {f : Dv → List Dv → DSt → Option (Dv × DSt)} {to : TE} {o : DE} (hr : SimRM K "list" r f) (hl : ∀ v as M z, f v as M = some z → ∃ n, v = .c n) (ho : SimE K to o) : SimE K (tBM0 K "list" r to) (eM f o aNil) := ⟨fun {F κ G σ ρ M H Q z M'} S E h k => by
  have h2 := (sim_bm hr hl ho (sim_nil (K := K))).run S E h k
  exact h2⟩
theorem sm_append : SimRM K "list" rAppend mAppend := fun {F κ G M H Q x xs z M' u us} S r rs h k => by
  unfold mAppend at h
  split at h
  · rename_i n y
    split at h
    · rename_i ys e
      obtain ⟨hp, h⟩ := grd_some h
      cases h
      obtain ⟨a, rfl, ha⟩ := r
      obtain ⟨v, rfl, rv⟩ := rxs1 rs
      obtain ⟨vs, _, _, e3, e4⟩ := cell_at S e ha
      refine ⟨a, vs, v, rfl, rfl, e3, sz_big1 (by rw [e4.length]; exact hp), ?_⟩
      exact k κ G _ _ (Le.refl _ _) (S.put e ha (e4.append (.cons rv .nil))) Rv.non
    · cases h
  · cases h
theorem lm_append : ∀ v as M z, mAppend v as M = some z → ∃ n, v = .c n := fun v as M z h => by
  unfold mAppend at h
  split at h
  · exact ⟨_, rfl⟩
  · cases h
theorem sm_clear : SimRM K "list" rClear mClear := fun {F κ G M H Q x xs z M' u us} S r rs h k => by
  unfold mClear at h
  split at h
  · rename_i n
    split at h
    · rename_i ys e
      cases h
      obtain ⟨a, rfl, ha⟩ := r
      obtain ⟨vs, _, _, e3, e4⟩ := cell_at S e ha
      refine ⟨a, vs, rfl, rxs0 rs, e3, ?_⟩
      exact k κ G _ _ (Le.refl _ _) (S.put e ha .nil) Rv.non
    · cases h
  · cases h
theorem lm_clear : ∀ v as M z, mClear v as M = some z → ∃ n, v = .c n := fun v as M z h => by
  unfold mClear at h
  split at h
  · exact ⟨_, rfl⟩
  · cases h
def rPops : V → List V → Hp → VK → Prop := fun x vs H Q => rPop x vs H Q ∨ rPopAt x vs H Q
theorem mt_pops {X : Cx} : MtM X "list.pop" rPops := fun pins s σ H x vs v us Q I rx rv h => by
  rcases h with h | h
  · exact mt_pop pins s σ H x vs v us Q I rx rv h
  · exact mt_popAt pins s σ H x vs v us Q I rx rv h
theorem sm_pop : SimRM K "list" rPops mPop := fun {F κ G M H Q x xs z M' u us} S r rs h k => by
  unfold mPop at h
  split at h
  · rename_i n
    split at h
    · rename_i ys e
      split at h
      · rename_i y ey
        cases h
        obtain ⟨a, rfl, ha⟩ := r
        obtain ⟨vs, _, _, e3, e4⟩ := cell_at S e ha
        obtain ⟨w, hw, rw'⟩ := e4.get ey
        refine .inl ⟨a, vs, w, rfl, rxs0 rs, e3, by rw [e4.length]; exact hw, ?_⟩
        exact k κ G _ _ (Le.refl _ _) (S.put e ha e4.dropLast) rw'
      · cases h
    · cases h
  · rename_i n i
    split at h
    · rename_i ys e
      split at h
      · rename_i j ej
        split at h
        · rename_i y ey
          obtain ⟨hi, h⟩ := grd_some h
          cases h
          obtain ⟨a, rfl, ha⟩ := r
          obtain ⟨v, rfl, rv⟩ := rxs1 rs
          obtain rfl := rx_int rv
          obtain ⟨vs, _, _, e3, e4⟩ := cell_at S e ha
          obtain ⟨w, hw, rw'⟩ := e4.get ey
          obtain ⟨q1, q2, q3, q4⟩ := ixN_seq ej
          refine .inr ⟨a, vs, i, j, w, rfl, rfl, e3, by omega, by omega, by rw [e4.length]; exact q1, hw, ?_⟩
          exact k κ G _ _ (Le.refl _ _) (S.put e ha (e4.eraseIdx j)) rw'
        · cases h
      · cases h
    · cases h
  · cases h
end
end Rw
end PRwSimG
section PRwSimS
set_option Elab.async false
set_option linter.all false
set_option maxRecDepth 100000
set_option maxHeartbeats 2000000
namespace Rw
open PySem L2 PySem.Spec PyProof.Rows
open Evl (Ex)
section
variable {K : PySem.W.Frag}
/-! ### targets -/
theorem wipe_get (σ : L2.St) : ∀ (vs : List Nat) (j : Nat), (L2.wipe σ vs)[j]? = if j ∈ vs then (σ[j]?).map fun _ => none else σ[j]?
  | [], j => by simp [L2.wipe]
  | v :: vs, j => by
    unfold L2.wipe
    by_cases hj : v = j
    · subst hj
      by_cases hl : v < σ.length
      · rw [List.getElem?_set_self (by rw [wipe_length]; exact hl), if_pos (by simp), List.getElem?_eq_getElem hl]
        rfl
      · rw [List.getElem?_eq_none (by rw [List.length_set, wipe_length]; omega), if_pos (by simp), List.getElem?_eq_none (by omega)]
        rfl
    · rw [List.getElem?_set_ne hj, wipe_get σ vs j]
      by_cases hm : j ∈ vs
      · rw [if_pos hm, if_pos (List.mem_cons_of_mem _ hm)]
      · rw [if_neg hm, if_neg (by simp only [List.mem_cons, not_or]; exact ⟨fun e => hj e.symm, hm⟩)]
theorem wipe_length_ite {o : Option (Option V)} {p : Prop} [Decidable p] : (if p then (if p then o.map fun _ => none else o).map fun _ => none else (if p then o.map fun _ => none else o)) = if p then o.map (fun _ => none) else o := by
  split <;> simp [Function.comp_def]
theorem wipe_set {σ : L2.St} {i : Nat} {o : Option V} {vs : List Nat} (h : i ∈ vs) : L2.wipe (σ.set i o) vs = L2.wipe σ vs := by
  apply List.ext_getElem?
  intro j
  rw [wipe_get, wipe_get]
  by_cases hj : j ∈ vs
  · rw [if_pos hj, if_pos hj]
    by_cases e : i = j
    · subst e
      by_cases hl : i < σ.length
      · rw [List.getElem?_set_self hl, List.getElem?_eq_getElem hl]
        rfl
      · rw [List.getElem?_eq_none (by simpa using hl), List.getElem?_eq_none (by simpa using hl)]
    · rw [List.getElem?_set_ne e]
  · rw [if_neg hj, if_neg hj, List.getElem?_set_ne (fun (e : i = j) => hj (e ▸ h))]

mutual
def Tgt.tg (K : PySem.W.Frag) : Tgt → TG
  | .name i => gName i
  | .tup ts => fun v σ H Q => gTup K ts.length (Tgt.tgs K ts) v σ H Q ∨ gUnl K ts.length (Tgt.tgs K ts) v σ H Q
def Tgt.tgs (K : PySem.W.Frag) : List Tgt → TGs
  | [] => gNil
  | t :: ts => gCons (t.tg K) (Tgt.tgs K ts)
end
mutual
theorem put_ok {F : Fz} {κ : List Addr} {G : Hp} {M : DSt} {H : Hp} (S : Sm K F κ G M H) : ∀ (t : Tgt) {u : V} {x : Dv} {σ : L2.St} {ρ ρ' : DEnv} {Q : L2.St → Hp → Prop}, Rx K κ G u x → Se K κ G σ ρ → t.put x ρ = some ρ' → (∀ σ', Se K κ G σ' ρ' → (∀ vs : List Nat, (∀ i ∈ t.slots, i ∈ vs) → L2.wipe σ' vs = L2.wipe σ vs) → Q σ' H) → t.tg K u σ H Q
  | .name i, u, x, σ, ρ, ρ', Q, r, E, h, k => by
    simp only [Tgt.put] at h
    cases h
    refine k _ (E.set r i) fun vs hv => ?_
    exact wipe_set (hv i (by simp [Tgt.slots]))
  | .tup ts, u, x, σ, ρ, ρ', Q, r, E, h, k => by
    cases x with
    | d y =>
      cases y with
      | tup xs =>
        simp only [Tgt.put] at h
        split at h
        · rename_i hl
          cases r with
          | tup hs rs =>
            rename_i a us
            exact .inl ⟨a, us, rfl, Evl.ex_t S.ex hs, by rw [rs.length]; exact hl, puts_ok S ts rs E h fun σ' E' w => k σ' E' fun vs hv => w vs (by simpa only [Tgt.slots] using hv)⟩
        · cases h
      | lst xs =>
        simp only [Tgt.put] at h
        split at h
        · rename_i hl
          cases r with
          | lst hs rs =>
            rename_i a us
            exact .inr ⟨a, us, rfl, .of (S.ex _ _ hs), by rw [rs.length]; exact hl, puts_ok S ts rs E h fun σ' E' w => k σ' E' fun vs hv => w vs (by simpa only [Tgt.slots] using hv)⟩
        · cases h
      | _ => simp [Tgt.put] at h
    | c n => simp [Tgt.put] at h
    | r n => simp [Tgt.put] at h
theorem puts_ok {F : Fz} {κ : List Addr} {G : Hp} {M : DSt} {H : Hp} (S : Sm K F κ G M H) : ∀ (ts : List Tgt) {us : List V} {xs : List D} {σ : L2.St} {ρ ρ' : DEnv} {Q : L2.St → Hp → Prop}, Rvs K G us xs → Se K κ G σ ρ → Tgt.puts ts xs ρ = some ρ' → (∀ σ', Se K κ G σ' ρ' → (∀ vs : List Nat, (∀ i ∈ Tgt.slotss ts, i ∈ vs) → L2.wipe σ' vs = L2.wipe σ vs) → Q σ' H) → Tgt.tgs K ts us σ H Q
  | [], _, _, σ, ρ, ρ', Q, .nil, E, h, k => by
    simp only [Tgt.puts] at h
    cases h
    exact ⟨rfl, k σ E fun _ _ => rfl⟩
  | [], _, _, σ, ρ, ρ', Q, .cons r rs, E, h, k => by simp [Tgt.puts] at h
  | t :: ts, _, _, σ, ρ, ρ', Q, .nil, E, h, k => by simp [Tgt.puts] at h
  | t :: ts, _, _, σ, ρ, ρ', Q, .cons r rs, E, h, k => by
    rename_i v vs d ds
    simp only [Tgt.puts] at h
    split at h
    · rename_i ρ1 e
      refine ⟨v, vs, rfl, put_ok S t (x := .d d) r E e fun σ1 E1 w1 => puts_ok S ts rs E1 h fun σ2 E2 w2 => k σ2 E2 fun ws hw => ?_⟩
      rw [w2 ws fun i hi => hw i (by simp only [Tgt.slotss]; exact List.mem_append_right _ hi), w1 ws fun i hi => hw i (by simp only [Tgt.slotss]; exact List.mem_append_left _ hi)]
    · cases h
end
/-! ### what is walked -/
structure SimI (K : PySem.W.Frag) (wi : TI) (it : DI) : Prop where
  run : ∀ {F κ G σ ρ M H xs src M'} {R : It → Hp → Prop}, Sm K F κ G M H → Se K κ G σ ρ → it ρ M = some (xs, src, M') →
    (∀ κ1 G1 H1 J (Gd : Hp → Prop) Y, Le κ G κ1 G1 → Sm K F κ1 G1 M' H1 → Walk J xs.length Gd Y →
      (∀ F2 κ2 G2 M2 H2, Le κ1 G1 κ2 G2 → Sm K F2 κ2 G2 M2 H2 → stand src M' M2 → Gd H2) →
      (∀ i F2 κ2 G2 M2 H2 x H3, i < xs.length → Le κ1 G1 κ2 G2 → Sm K F2 κ2 G2 M2 H2 → stand src M' M2 → Y i H2 x H3 → ∃ G3 d, Ex G2 G3 ∧ Sm K F2 κ2 G3 M2 H3 ∧ xs[i]? = some d ∧ Rv K G3 x d) → R J H1) → wi σ H R
/-- a value that is a list stands as long as its cell stands -/
theorem lv_stand {F2 : Fz} {κ κ2 : List Addr} {G G2 : Hp} {M M2 : DSt} {H2 : Hp} {x : Dv} {a : Addr} {xs : List D} (l : Le κ G κ2 G2) (S2 : Sm K F2 κ2 G2 M2 H2) (r : Rx K κ G (.ref a) x) (h : lv M x = some xs) (st : stand (cellsOf x) M M2) : ∃ us, SqL K H2 a us ∧ Rvs K G2 us xs := by
  have r2 := r.mono l
  have h2 : lv M2 x = some xs := by
    cases x with
    | d y => cases y <;> exact h
    | c n =>
      have e := st n (by simp [cellsOf])
      simp only [lv] at h ⊢
      rw [e]
      exact h
    | r ys => exact h
  obtain ⟨b, us, e, q, p⟩ := lv_at S2 r2 h2
  cases e
  exact ⟨us, q, p⟩
theorem sim_iL {ta : TE} {a : DE} (ha : SimE K ta a) : SimI K (iList K ta) (iL a) := ⟨fun {F κ G σ ρ M H xs src M' R} S E h k => by
  unfold iL at h
  split at h
  · rename_i x M1 e
    split at h
    · rename_i ys ey
      cases h
      refine ha.run S E e fun κ1 G1 u H1 l1 S1 r1 => ?_
      obtain ⟨b, us, rfl, q, p⟩ := lv_at S1 r1 ey
      refine ⟨b, rfl, ⟨us, q⟩, ?_⟩
      refine k κ1 G1 H1 (Itl K b) (fun H => ∃ us G, SqL K H b us ∧ Rvs K G us xs) (fun i H x H' => H' = H ∧ ∀ us, SqL K H b us → us[i]? = some x) l1 S1 ⟨fun i H hi ⟨us, G, q, p⟩ => ?_, fun H ⟨us, G, q, p⟩ => ⟨us, q, by rw [p.length]; exact Nat.le_refl _⟩, fun i H x H' hi _ y => y⟩ (fun F2 κ2 G2 M2 H2 l2 S2 st => ?_) fun i F2 κ2 G2 M2 H2 x H3 hi l2 S2 st y => ?_
      · have hl : i < us.length := by rw [p.length]; exact hi
        exact ⟨us, us[i], q, by simp [hl]⟩
      · obtain ⟨us2, q2, p2⟩ := lv_stand l2 S2 r1 ey st
        exact ⟨us2, G2, q2, p2⟩
      · obtain ⟨us2, q2, p2⟩ := lv_stand l2 S2 r1 ey st
        obtain ⟨rfl, y⟩ := y
        obtain ⟨d, hd, rd⟩ := p2.get' (y us2 q2)
        exact ⟨G2, d, Ex.refl _, S2, hd, rd⟩
    · cases h
  · cases h⟩
theorem sim_iT {ta : TE} {a : DE} (ha : SimE K ta a) : SimI K (iTup K ta) (iT a) := ⟨fun {F κ G σ ρ M H xs src M' R} S E h k => by
  unfold iT at h
  split at h
  · rename_i ys M1 e
    cases h
    refine ha.run S E e fun κ1 G1 u H1 l1 S1 r1 => ?_
    cases r1 with
    | tup hs rs =>
      rename_i b us
      refine ⟨b, rfl, ⟨us, Evl.ex_t S1.ex hs⟩, ?_⟩
      refine k κ1 G1 H1 (Itt K b) (fun H => SqT K H b us) (YAt us) l1 S1 ?_ (fun F2 κ2 G2 M2 H2 l2 S2 st => ?_) fun i F2 κ2 G2 M2 H2 x H3 hi l2 S2 st y => ?_
      · rw [← rs.length]
        exact walk_tup
      · exact Evl.ex_t S2.ex (Evl.ex_t l2.ex hs)
      · obtain ⟨rfl, y⟩ := y
        obtain ⟨d, hd, rd⟩ := (rs.mono l2.ex).get' y
        exact ⟨G2, d, Ex.refl _, S2, hd, rd⟩
  · cases h⟩
theorem rng_length (a : Int) (n : Nat) : (rng a n).length = n := by unfold rng; simp
theorem rng_get {a : Int} {n i : Nat} (h : i < n) : (rng a n)[i]? = some (.int (a + (i : Int))) := by unfold rng; simp [h]
theorem sim_iR1 {ta : TA} {a : DA} (ha : SimA K ta a) : SimI K (iRng1 ta) (iR1 a) := ⟨fun {F κ G σ ρ M H xs src M' R} S E h k => by
  unfold iR1 at h
  split at h
  · rename_i j M1 e
    obtain ⟨hp, h⟩ := grd_some h
    cases h
    refine ha.run S E e fun κ1 G1 us H1 l1 S1 r1 => ?_
    obtain ⟨u, rfl, ru⟩ := rxs1 r1
    obtain rfl := rx_int ru
    refine ⟨j, rfl, hp.1, hp.2, ?_⟩
    refine k κ1 G1 H1 (Itr 0 j.toNat) (fun _ => True) (YFn fun i => .int (0 + (i : Nat))) l1 S1 (by rw [rng_length]; exact walk_range) (fun _ _ _ _ _ _ _ _ => trivial) fun i F2 κ2 G2 M2 H2 x H3 hi l2 S2 st y => ?_
    obtain ⟨rfl, rfl⟩ := y
    rw [rng_length] at hi
    exact ⟨G2, _, Ex.refl _, S2, rng_get hi, .int _⟩
  · cases h⟩
theorem sim_iR2 {ta : TA} {a : DA} (ha : SimA K ta a) : SimI K (iRng2 ta) (iR2 a) := ⟨fun {F κ G σ ρ M H xs src M' R} S E h k => by
  unfold iR2 at h
  split at h
  · rename_i lo j M1 e
    obtain ⟨hp, h⟩ := grd_some h
    cases h
    refine ha.run S E e fun κ1 G1 us H1 l1 S1 r1 => ?_
    obtain ⟨u, v, rfl, ru, rv⟩ := rxs2 r1
    obtain rfl := rx_int ru
    obtain rfl := rx_int rv
    refine ⟨lo, j, rfl, hp, ?_⟩
    refine k κ1 G1 H1 (Itr lo (j - lo).toNat) (fun _ => True) (YFn fun i => .int (lo + (i : Nat))) l1 S1 (by rw [rng_length]; exact walk_range) (fun _ _ _ _ _ _ _ _ => trivial) fun i F2 κ2 G2 M2 H2 x H3 hi l2 S2 st y => ?_
    obtain ⟨rfl, rfl⟩ := y
    rw [rng_length] at hi
    exact ⟨G2, _, Ex.refl _, S2, rng_get hi, .int _⟩
  · cases h⟩
/-- a new pair -/
theorem pair_new {F2 : Fz} {κ2 : List Addr} {G2 : Hp} {M2 : DSt} {H2 : Hp} {T : Addr} {x y : V} {d e : D} (S2 : Sm K F2 κ2 G2 M2 H2) (hT : H2 T = none) (r1 : Rv K G2 x d) (r2 : Rv K G2 y e) : Ex G2 (upd G2 T (.tup [x, y])) ∧ Sm K F2 κ2 (upd G2 T (.tup [x, y])) M2 (upd H2 T (.tup [x, y])) ∧ Rv K (upd G2 T (.tup [x, y])) (.ref T) (.tup [d, e]) := by
  have g := (S2.fresh hT).1
  exact ⟨Ex.new g, S2.newG _ hT, .tup (.of upd_same) (.cons (r1.mono (Ex.new g)) (.cons (r2.mono (Ex.new g)) .nil))⟩
theorem enumD_length : ∀ (k : Nat) (xs : List D), (enumD k xs).length = xs.length
  | _, [] => rfl
  | k, x :: xs => by simp [enumD, enumD_length (k + 1) xs]
theorem enumD_get : ∀ (k : Nat) (xs : List D) (i : Nat) (d : D), xs[i]? = some d → (enumD k xs)[i]? = some (.tup [.int ((k + i : Nat) : Int), d])
  | _, [], _, _, h => by simp at h
  | k, x :: xs, 0, d, h => by simp at h; subst h; simp [enumD]
  | k, x :: xs, i + 1, d, h => by
    have := enumD_get (k + 1) xs i d (by simpa using h)
    simp only [enumD, List.getElem?_cons_succ, this]
    congr 4
    omega
theorem sim_iEn {ta : TA} {a : DA} (ha : SimA K ta a) : SimI K (iEnum K ta) (iEn a) := ⟨fun {F κ G σ ρ M H xs src M' R} S E h k => by
  unfold iEn at h
  split at h
  · rename_i x M1 e
    split at h
    · rename_i ys ey
      cases h
      refine ha.run S E e fun κ1 G1 us H1 l1 S1 rs => ?_
      obtain ⟨u, rfl, r1⟩ := rxs1 rs
      obtain ⟨b, us, rfl, q, p⟩ := lv_at S1 r1 ey
      refine ⟨b, us, rfl, q, ?_⟩
      refine k κ1 G1 H1 (Ite K b) (fun H => ∃ us G, SqL K H b us ∧ Rvs K G us ys) (fun i H v H' => ∃ T x, v = .ref T ∧ H T = none ∧ H' = upd H T (.tup [.int (i : Nat), x]) ∧ ∀ us, SqL K H b us → us[i]? = some x) l1 S1 ⟨fun i H hi ⟨us, G, q, p⟩ => ?_, fun H ⟨us, G, q, p⟩ => ⟨us, q, by rw [p.length, enumD_length]; exact Nat.le_refl _⟩, fun i H x H' hi _ y => y⟩ (fun F2 κ2 G2 M2 H2 l2 S2 st => ?_) fun i F2 κ2 G2 M2 H2 x H3 hi l2 S2 st y => ?_
      · have hl : i < us.length := by rw [p.length]; rw [enumD_length] at hi; exact hi
        exact ⟨us, us[i], q, by simp [hl]⟩
      · obtain ⟨us2, q2, p2⟩ := lv_stand l2 S2 r1 ey st
        exact ⟨us2, G2, q2, p2⟩
      · obtain ⟨us2, q2, p2⟩ := lv_stand l2 S2 r1 ey st
        obtain ⟨T, w, rfl, hT, rfl, y⟩ := y
        obtain ⟨d, hd, rd⟩ := p2.get' (y us2 q2)
        obtain ⟨e1, e2, e3⟩ := pair_new S2 hT (Rv.int ((i : Nat) : Int)) rd
        refine ⟨_, _, e1, e2, enumD_get 0 ys i d hd, ?_⟩
        rw [Nat.zero_add]
        exact e3
    · cases h
  · cases h⟩
theorem zipD_length : ∀ (xs ys : List D), (zipD xs ys).length = min xs.length ys.length
  | [], _ => by simp [zipD]
  | _ :: _, [] => by simp [zipD]
  | x :: xs, y :: ys => by simp only [zipD, List.length_cons, zipD_length xs ys]; omega
theorem zipD_get : ∀ (xs ys : List D) (i : Nat) (d e : D), xs[i]? = some d → ys[i]? = some e → (zipD xs ys)[i]? = some (.tup [d, e])
  | [], _, _, _, _, h, _ => by simp at h
  | _ :: _, [], _, _, _, _, h => by simp at h
  | x :: xs, y :: ys, 0, d, e, h, h' => by simp at h h'; subst h; subst h'; simp [zipD]
  | x :: xs, y :: ys, i + 1, d, e, h, h' => by
    simp only [zipD, List.getElem?_cons_succ]
    exact zipD_get xs ys i d e (by simpa using h) (by simpa using h')
theorem sim_iZ {ta : TA} {a : DA} (ha : SimA K ta a) : SimI K (iZip K ta) (iZ a) := ⟨fun {F κ G σ ρ M H xs src M' R} S E h k => by
  unfold iZ at h
  split at h
  · rename_i x z M1 e
    split at h
    · rename_i ys zs ey ez
      cases h
      refine ha.run S E e fun κ1 G1 us H1 l1 S1 rs => ?_
      obtain ⟨u, v, rfl, r1, r2⟩ := rxs2 rs
      obtain ⟨b, us, rfl, q, p⟩ := lv_at S1 r1 ey
      obtain ⟨c, vs, rfl, q', p'⟩ := lv_at S1 r2 ez
      refine ⟨b, c, us, vs, rfl, q, q', ?_⟩
      have stL : ∀ {M2 : DSt}, stand (cellsOf x ++ cellsOf z) M' M2 → stand (cellsOf x) M' M2 := fun st n hn => st n (List.mem_append_left _ hn)
      have stR : ∀ {M2 : DSt}, stand (cellsOf x ++ cellsOf z) M' M2 → stand (cellsOf z) M' M2 := fun st n hn => st n (List.mem_append_right _ hn)
      refine k κ1 G1 H1 (Itz K b c) (fun H => ∃ us vs G, SqL K H b us ∧ SqL K H c vs ∧ Rvs K G us ys ∧ Rvs K G vs zs) (fun i H v H' => ∃ T x y, v = .ref T ∧ H T = none ∧ H' = upd H T (.tup [x, y]) ∧ (∀ us, SqL K H b us → us[i]? = some x) ∧ ∀ vs, SqL K H c vs → vs[i]? = some y) l1 S1 ⟨fun i H hi ⟨us, vs, G, q, q', p, p'⟩ => ?_, fun H ⟨us, vs, G, q, q', p, p'⟩ => ⟨us, vs, q, q', by rw [p.length, p'.length, zipD_length]; omega⟩, fun i H x H' hi _ y => y⟩ (fun F2 κ2 G2 M2 H2 l2 S2 st => ?_) fun i F2 κ2 G2 M2 H2 x H3 hi l2 S2 st y => ?_
      · rw [zipD_length] at hi
        have hl : i < us.length := by rw [p.length]; omega
        have hl' : i < vs.length := by rw [p'.length]; omega
        exact ⟨us, vs, us[i], vs[i], q, q', by simp [hl], by simp [hl']⟩
      · obtain ⟨us2, q2, p2⟩ := lv_stand l2 S2 r1 ey (stL st)
        obtain ⟨vs2, q3, p3⟩ := lv_stand l2 S2 r2 ez (stR st)
        exact ⟨us2, vs2, G2, q2, q3, p2, p3⟩
      · obtain ⟨us2, q2, p2⟩ := lv_stand l2 S2 r1 ey (stL st)
        obtain ⟨vs2, q3, p3⟩ := lv_stand l2 S2 r2 ez (stR st)
        obtain ⟨T, w, w', rfl, hT, rfl, y, y'⟩ := y
        obtain ⟨d, hd, rd⟩ := p2.get' (y us2 q2)
        obtain ⟨d', hd', rd'⟩ := p3.get' (y' vs2 q3)
        obtain ⟨e1, e2, e3⟩ := pair_new S2 hT rd rd'
        exact ⟨_, _, e1, e2, zipD_get ys zs i d d' hd hd', e3⟩
    · cases h
  · cases h⟩
/-! ### comprehensions -/
/-- the loop of a comprehension, from its reading -/
theorem compL_run {tg : Tgt} {t : DT} {el : DE} {tt : TT} {te : TE} {src : List Nat} {own : List Nat} {xs : List D} {F : Fz} {σ : L2.St} {ρ : DEnv} {κ1 : List Addr} {G1 : Hp} {M' : DSt} {H1 : Hp} {Dl : Addr} {J : It} {Gd : Hp → Prop} {Y : Nat → Hp → V → Hp → Prop} {Q : VK} {c : Bool} {z : Dv} {ys : List D} {M2 Mz : DSt}
    (ht : SimT K tt t) (he : SimE K te el) (hown : ∀ i ∈ tg.slots, i ∈ own) (E : Se K κ1 G1 σ ρ) (S1 : Sm K F κ1 G1 M' H1) (W : Walk J xs.length Gd Y)
    (hG : ∀ F2 κ2 G2 M2 H2, Le κ1 G1 κ2 G2 → Sm K F2 κ2 G2 M2 H2 → stand src M' M2 → Gd H2)
    (hY : ∀ i F2 κ2 G2 M2 H2 x H3, i < xs.length → Le κ1 G1 κ2 G2 → Sm K F2 κ2 G2 M2 H2 → stand src M' M2 → Y i H2 x H3 → ∃ G3 d, Ex G2 G3 ∧ Sm K F2 κ2 G3 M2 H3 ∧ xs[i]? = some d ∧ Rv K G3 x d)
    (hD : H1 Dl = none) (hl : compL (stand src M') (compStep tg t el (wipeD ρ own)) xs M' = some (ys, M2)) (hz : xs.length ≤ big) (hm : mkL c ys M2 = some (z, Mz)) (k : PV K F κ1 G1 Q z Mz) :
    ∃ W : Nat → Nat → Hp → Prop, (∃ m, W 0 m (upd H1 Dl (.lst []))) ∧ ∀ i m H, W i m H →
      (J.stop i H ∧ Q (.ref Dl) H) ∨ (J.go i H ∧ ∃ Nx : Hp → Prop, (∀ H', Nx H' → ∃ m', m' < m ∧ W (i + 1) m' H') ∧ ∀ x H', J.yld i H x H' → tg.tg K x (L2.wipe σ own) H' fun σ2 H2 => L2.wipe σ2 own = L2.wipe σ own ∧ tt σ2 H2 fun b H3 =>
        if b = true then te σ2 H3 fun y H4 => ∃ acc, H4 Dl = some (.lst acc) ∧ acc.length < sizeLine ∧ Nx (upd H4 Dl (.lst (acc ++ [y]))) else Nx H3) := by
  have f0 := S1.fresh hD
  refine lc_it W (fun i H => ∃ κ2 G2 M3 acc as zs, Le κ1 G1 κ2 G2 ∧ Sm K (F.up Dl (.lst acc)) κ2 G2 M3 H ∧ Rvs K G2 acc as ∧ acc.length ≤ i ∧ i ≤ xs.length ∧ compL (stand src M') (compStep tg t el (wipeD ρ own)) (xs.drop i) M3 = some (zs, M2) ∧ ys = as ++ zs) ?_ ?_ ?_ ?_
  · exact ⟨κ1, G1, M', [], [], ys, Le.refl _ _, S1.frame hD [], .nil, Nat.zero_le _, Nat.zero_le _, hl, rfl⟩
  · rintro i H hi ⟨κ2, G2, M3, acc, as, zs, l2, S2, ra, la, _, h2, e2⟩
    refine hG _ κ2 G2 M3 H l2 S2 ?_
    cases hx : xs.drop i with
    | nil => rw [hx] at h2; unfold compL at h2; exact (grd_some h2).1
    | cons y r => rw [hx] at h2; unfold compL at h2; exact (grd_some h2).1
  · rintro i x H H' hi ⟨κ2, G2, M3, acc, as, zs, l2, S2, ra, la, _, h2, e2⟩ hy
    have hx : xs.drop i = xs[i] :: xs.drop (i + 1) := List.drop_eq_getElem_cons hi
    rw [hx] at h2
    unfold compL at h2
    obtain ⟨st, h2⟩ := grd_some h2
    obtain ⟨G3, d, x3, S3, ed, rd⟩ := hY i _ κ2 G2 M3 H x H' hi l2 S2 st hy
    have ed2 : xs[i] = d := by
      rw [List.getElem?_eq_getElem hi] at ed
      exact Option.some.inj ed
    rw [ed2] at h2
    have l3 : Le κ1 G1 κ2 G3 := l2.trans ⟨List.prefix_refl _, x3⟩
    cases es : compStep tg t el (wipeD ρ own) d M3 with
    | none => simp only [es] at h2; cases h2
    | some q =>
      obtain ⟨o, M5⟩ := q
      simp only [es] at h2
      cases ec : compL (stand src M') (compStep tg t el (wipeD ρ own)) (xs.drop (i + 1)) M5 with
      | none => simp only [ec] at h2; cases h2
      | some q =>
        obtain ⟨zs', M6⟩ := q
        simp only [ec] at h2
        unfold compStep at es
        cases ep : tg.put (.d d) (wipeD ρ own) with
        | none => simp only [ep] at es; cases es
        | some ρ1 =>
          simp only [ep] at es
          refine put_ok S3 tg (x := .d d) rd ((E.mono l3).wipe2 own) ep fun σ2 E2 w2 => ⟨?_, ?_⟩
          · rw [w2 own hown]
            apply List.ext_getElem?
            intro j
            rw [wipe_get, wipe_get, wipe_length_ite]
          · cases et : t ρ1 M3 with
            | none => simp only [et] at es; cases es
            | some p =>
              obtain ⟨b, M4⟩ := p
              simp only [et] at es
              refine ht.run S3 E2 et fun κ4 G4 H4 l4 S4 => ?_
              cases b with
              | false =>
                simp only at es
                cases es
                cases h2
                rw [if_neg Bool.false_ne_true]
                exact ⟨κ4, G4, _, acc, as, _, l3.trans l4, S4, (ra.mono x3).mono l4.ex, by omega, by omega, ec, e2⟩
              | true =>
                simp only at es
                rw [if_pos rfl]
                cases ee : el ρ1 M4 with
                | none => simp only [ee] at es; cases es
                | some q =>
                  obtain ⟨v, M7⟩ := q
                  simp only [ee] at es
                  cases v with
                  | c n => simp only at es; cases es
                  | r n => simp only at es; cases es
                  | d y =>
                    simp only at es
                    cases es
                    cases h2
                    refine he.run S4 (E2.mono l4) ee fun κ5 G5 u H5 l5 S5 r5 => ?_
                    have ra5 : Rvs K G5 acc as := ((ra.mono x3).mono l4.ex).mono l5.ex
                    refine ⟨acc, S5.fx Dl _ upd_same, sz_big1 (by omega), κ5, G5, _, acc ++ [u], as ++ [y], zs', (l3.trans l4).trans l5, S5.grow _, ra5.append (.cons r5 .nil), by simp; omega, by omega, ec, ?_⟩
                    rw [e2]
                    simp
  · rintro H ⟨κ2, G2, M3, acc, as, zs, l2, S2, ra, la, _, h2, e2⟩
    rw [List.drop_length] at h2
    unfold compL at h2
    obtain ⟨st, h2⟩ := grd_some h2
    cases h2
    rw [List.append_nil] at e2
    subst e2
    obtain ⟨κ', G', l', S', r'⟩ := S2.made f0.2.1 ra hm
    exact k κ' G' _ _ (l2.trans l') S' r'
theorem sim_lc {c : Bool} {wi : TI} {it : DI} {tg : Tgt} {tt : TT} {t : DT} {te : TE} {el : DE} {own : List Nat} (hi : SimI K wi it) (ht : SimT K tt t) (he : SimE K te el) (hown : ∀ i ∈ tg.slots, i ∈ own) : SimE K (tLc wi (tg.tg K) tt te own) (eComp c it tg t el own) := ⟨fun {F κ G σ ρ M H Q z Mz} S E h k => by
  unfold eComp at h
  split at h
  · rename_i xs src M' e
    obtain ⟨hz, h⟩ := grd_some h
    split at h
    · rename_i ys M2 hl
      refine hi.run S E e fun κ1 G1 H1 J Gd Y l1 S1 W hG hY => fun Dl hD => ?_
      exact compL_run ht he hown (E.mono l1) S1 W hG hY hD hl hz h (k.weak l1)
    · cases h
  · cases h⟩
end
end Rw
end PRwSimS
section PRwSimD
set_option Elab.async false
set_option linter.all false
set_option maxRecDepth 100000
set_option maxHeartbeats 2000000
namespace Rw
open PySem L2 PySem.Spec PyProof.Rows
open Evl (Ex)
/-- behind a statement -/
def PO' (K : PySem.W.Frag) (F : Fz) (κ : List Addr) (G : Hp) (D : Ends) : Out → Prop
  | .nx ρ M => ∀ κ' G' σ' H', Le κ G κ' G' → Sm K F κ' G' M H' → Se K κ' G' σ' ρ → D.nx σ' H'
  | .rt v M => ∀ κ' G' u H', Le κ G κ' G' → Sm K F κ' G' M H' → Rx K κ' G' u v → D.rt u H'
  | .bk ρ M => ∀ κ' G' σ' H', Le κ G κ' G' → Sm K F κ' G' M H' → Se K κ' G' σ' ρ → D.bk σ' H'
  | .ct ρ M => ∀ κ' G' σ' H', Le κ G κ' G' → Sm K F κ' G' M H' → Se K κ' G' σ' ρ → D.ct σ' H'
structure SimS (K : PySem.W.Frag) (t : TS) (s : DS) : Prop where
  run : ∀ {F κ G σ ρ M H D o}, Sm K F κ G M H → Se K κ G σ ρ → s ρ M = some o → PO' K F κ G D o → t D σ H
section
variable {K : PySem.W.Frag}
theorem PO'.weak {F : Fz} {κ κ1 : List Addr} {G G1 : Hp} {D : Ends} {o : Out} (l : Le κ G κ1 G1) (k : PO' K F κ G D o) : PO' K F κ1 G1 D o := by
  cases o <;> exact fun κ' G' u H' l' S r => k κ' G' u H' (l.trans l') S r
theorem ss_pass : SimS K tNext dPass := ⟨fun {F κ G σ ρ M H D o} S E h k => by
  cases h
  exact k κ G σ H (Le.refl _ _) S E⟩
theorem ss_seq {t u : TS} {a b : DS} (ha : SimS K t a) (hb : SimS K u b) : SimS K (tSeq t u) (dSeq a b) := ⟨fun {F κ G σ ρ M H D o} S E h k => by
  unfold dSeq at h
  split at h
  · rename_i ρ1 M1 e
    exact ha.run (D := { D with nx := u D }) S E e fun κ1 G1 σ1 H1 l1 S1 E1 => hb.run S1 E1 h (k.weak l1)
  · rename_i q e
    refine ha.run (D := { D with nx := u D }) S E h ?_
    cases o with
    | nx ρ1 M1 => exact absurd h (e ρ1 M1)
    | rt v M1 => exact k
    | bk ρ1 M1 => exact k
    | ct ρ1 M1 => exact k⟩
theorem ss_asg {te : TE} {a : DE} {tg : Tgt} (ha : SimE K te a) : SimS K (tAsg te (tg.tg K)) (dAsg tg a) := ⟨fun {F κ G σ ρ M H D o} S E h k => by
  unfold dAsg at h
  split at h
  · rename_i v M1 e
    split at h
    · rename_i ρ1 e2
      cases h
      exact ha.run S E e fun κ1 G1 u H1 l1 S1 r1 => put_ok S1 tg r1 (E.mono l1) e2 fun σ2 E2 _ => k κ1 G1 σ2 H1 l1 S1 E2
    · cases h
  · cases h⟩
theorem ss_par {ta tb : TE} {a b : DE} {i j : Nat} (ha : SimE K ta a) (hb : SimE K tb b) : SimS K (tPar i j (tCons ta (tCons tb tNil))) (dPar i j a b) := ⟨fun {F κ G σ ρ M H D o} S E h k => by
  unfold dPar at h
  split at h
  · rename_i x M1 e
    split at h
    · rename_i y M2 e2
      cases h
      refine ha.run S E e fun κ1 G1 u H1 l1 S1 r1 => hb.run S1 (E.mono l1) e2 fun κ2 G2 v H2 l2 S2 r2 => ⟨u, v, rfl, ?_⟩
      exact k κ2 G2 _ H2 (l1.trans l2) S2 ((((E.mono l1).mono l2).set (r1.mono l2) i).set r2 j)
    · cases h
  · cases h⟩
/-- in place -/
def SimIp (K : PySem.W.Frag) (r : TIp) (f : O2) : Prop := ∀ {F κ G M H Q x y z M' u v}, Sm K F κ G M H → Rx K κ G u x → Rx K κ G v y → f x y M = some (z, M') → PV K F κ G Q z M' → r u v H Q
theorem ip_addI : SimIp K (ipI fun i j => i + j) (oI fun i j => .int (i + j)) := fun {F κ G M H Q x y z M' u v} S rx ry h k => by
  unfold oI at h
  split at h
  · cases h
    exact ⟨_, _, rx_int rx, rx_int ry, k.here S (Rv.int _)⟩
  · cases h
theorem ip_subI : SimIp K (ipI fun i j => i - j) (oI fun i j => .int (i - j)) := fun {F κ G M H Q x y z M' u v} S rx ry h k => by
  unfold oI at h
  split at h
  · cases h
    exact ⟨_, _, rx_int rx, rx_int ry, k.here S (Rv.int _)⟩
  · cases h
theorem ss_aug {te : TE} {a : DE} {i : Nat} {r : TIp} {f : O2} (hr : SimIp K r f) (ha : SimE K te a) : SimS K (tAug i te r) (dAug i f a) := ⟨fun {F κ G σ ρ M H D o} S E h k => by
  unfold dAug at h
  split at h
  · rename_i x ex
    split at h
    · rename_i y M1 e
      split at h
      · rename_i z M2 e2
        cases h
        obtain ⟨u, hu, ru⟩ := E.at_ i x ex
        refine ⟨u, hu, ha.run S E e fun κ1 G1 v H1 l1 S1 r1 => hr S1 (ru.mono l1) r1 e2 fun κ2 G2 w H2 l2 S2 r2 => ?_⟩
        exact k κ2 G2 _ H2 (l1.trans l2) S2 (((E.mono l1).mono l2).set r2 i)
      · cases h
    · cases h
  · cases h⟩
theorem ss_put {to ti te : TE} {o i e : DE} (ho : SimE K to o) (hi : SimE K ti i) (he : SimE K te e) : SimS K (tAsg te (gSub to ti rSetL)) (dPut o i e) := ⟨fun {F κ G σ ρ M H D oo} S E h k => by
  unfold dPut at h
  split at h
  · rename_i x M1 e1
    split at h
    · rename_i n M2 e2
      split at h
      · rename_i kk M3 e3
        split at h
        · rename_i xs ex
          split at h
          · rename_i j ej
            cases h
            refine he.run S E e1 fun κ1 G1 u H1 l1 S1 r1 => ho.run S1 (E.mono l1) e2 fun κ2 G2 v H2 l2 S2 r2 => hi.run S2 ((E.mono l1).mono l2) e3 fun κ3 G3 w H3 l3 S3 r3 => ?_
            obtain ⟨a, rfl, ha⟩ := r2.mono l3
            obtain ⟨us, _, _, q3, q4⟩ := cell_at S3 ex ha
            refine ⟨a, us, kk, j, rfl, rx_int r3, q3, by rw [q4.length, ← ixD_eq]; exact ej, ?_⟩
            exact k κ3 G3 σ _ ((l1.trans l2).trans l3) (S3.put ex ha (q4.set ((Rv.mono l2.ex r1).mono l3.ex) j)) (((E.mono l1).mono l2).mono l3)
          · cases h
        · cases h
      · cases h
    · cases h
  · cases h⟩
theorem ss_expr {te : TE} {a : DE} (ha : SimE K te a) : SimS K (tDrop te) (dExpr a) := ⟨fun {F κ G σ ρ M H D o} S E h k => by
  unfold dExpr at h
  split at h
  · rename_i v M1 e
    cases h
    exact ha.run S E e fun κ1 G1 u H1 l1 S1 r1 => k κ1 G1 σ H1 l1 S1 (E.mono l1)
  · cases h⟩
theorem ss_ret {te : TE} {a : DE} (ha : SimE K te a) : SimS K (tRet te) (dRet a) := ⟨fun {F κ G σ ρ M H D o} S E h k => by
  unfold dRet at h
  split at h
  · rename_i v M1 e
    cases h
    exact ha.run S E e k
  · cases h⟩
theorem ss_retN : SimS K tRetN dRetN := ⟨fun {F κ G σ ρ M H D o} S E h k => by
  cases h
  exact k κ G _ H (Le.refl _ _) S Rv.non⟩
theorem ss_if {tc : TT} {c : DT} {t u : TS} {a b : DS} (hc : SimT K tc c) (ha : SimS K t a) (hb : SimS K u b) : SimS K (tIfS tc t u) (dIf c a b) := ⟨fun {F κ G σ ρ M H D o} S E h k => by
  unfold dIf at h
  split at h
  · rename_i M1 e
    refine hc.run S E e fun κ1 G1 H1 l1 S1 => ?_
    show (if true = true then _ else _)
    rw [if_pos rfl]
    exact ha.run S1 (E.mono l1) h (k.weak l1)
  · rename_i M1 e
    refine hc.run S E e fun κ1 G1 H1 l1 S1 => ?_
    show (if false = true then _ else _)
    rw [if_neg Bool.false_ne_true]
    exact hb.run S1 (E.mono l1) h (k.weak l1)
  · cases h⟩
theorem ss_break : SimS K tBreak dBreak := ⟨fun {F κ G σ ρ M H D o} S E h k => by
  cases h
  exact k κ G σ H (Le.refl _ _) S E⟩
theorem ss_cont : SimS K tCont dCont := ⟨fun {F κ G σ ρ M H D o} S E h k => by
  cases h
  exact k κ G σ H (Le.refl _ _) S E⟩
theorem ss_never : SimS K tNever dNever := ⟨fun {F κ G σ ρ M H D o} S E h k => by cases h⟩
/-- slots forgotten -/
theorem ss_wipe {t : TS} {a : DS} (vs : List Nat) (ha : SimS K t a) : SimS K t (dWipe vs a) := ⟨fun {F κ G σ ρ M H D o} S E h k => by
  unfold dWipe at h
  split at h
  · rename_i q e
    cases h
    refine ha.run S E e ?_
    cases q with
    | nx ρ1 M1 => exact fun κ' G' σ' H' l S' E' => k κ' G' σ' H' l S' (E'.wipe vs)
    | bk ρ1 M1 => exact fun κ' G' σ' H' l S' E' => k κ' G' σ' H' l S' (E'.wipe vs)
    | ct ρ1 M1 => exact fun κ' G' σ' H' l S' E' => k κ' G' σ' H' l S' (E'.wipe vs)
    | rt v M1 => exact k
  · cases h⟩
theorem ss_for {wi : TI} {it : DI} {tg : Tgt} {tb : TS} {s : DS} (hi : SimI K wi it) (hs : SimS K tb s) : SimS K (tFor wi (tg.tg K) tb) (dFor it tg s) := ⟨fun {F κ G σ ρ M H D o} S E h k => by
  unfold dFor at h
  split at h
  · rename_i xs src M' e
    refine hi.run S E e fun κ1 G1 H1 J Gd Y l1 S1 W hG hY => ?_
    refine for_it W (fun i σ H => ∃ κ2 G2 ρ2 M3, Le κ1 G1 κ2 G2 ∧ Sm K F κ2 G2 M3 H ∧ Se K κ2 G2 σ ρ2 ∧ i ≤ xs.length ∧ forL (stand src M') (forStep tg s) (xs.drop i) ρ2 M3 = some o) ?_ ?_ ?_ ?_
    · exact ⟨κ1, G1, ρ, M', Le.refl _ _, S1, E.mono l1, Nat.zero_le _, h⟩
    · rintro i σ H hi ⟨κ2, G2, ρ2, M3, l2, S2, E2, _, h2⟩
      refine hG F κ2 G2 M3 H l2 S2 ?_
      cases hx : xs.drop i with
      | nil => rw [hx] at h2; unfold forL at h2; exact (grd_some h2).1
      | cons y r => rw [hx] at h2; unfold forL at h2; exact (grd_some h2).1
    · rintro i x σ H H' hi ⟨κ2, G2, ρ2, M3, l2, S2, E2, _, h2⟩ hy
      have hx : xs.drop i = xs[i] :: xs.drop (i + 1) := List.drop_eq_getElem_cons hi
      rw [hx] at h2
      unfold forL at h2
      obtain ⟨st, h2⟩ := grd_some h2
      obtain ⟨G3, d, x3, S3, ed, rd⟩ := hY i F κ2 G2 M3 H x H' hi l2 S2 st hy
      have ed2 : xs[i] = d := by
        rw [List.getElem?_eq_getElem hi] at ed
        exact Option.some.inj ed
      rw [ed2] at h2
      have l3 : Le κ1 G1 κ2 G3 := l2.trans ⟨List.prefix_refl _, x3⟩
      cases es : forStep tg s d ρ2 M3 with
      | none => simp only [es] at h2; cases h2
      | some q =>
        simp only [es] at h2
        unfold forStep at es
        cases ep : tg.put (.d d) ρ2 with
        | none => simp only [ep] at es; cases es
        | some ρ1 =>
          simp only [ep] at es
          refine put_ok S3 tg (x := .d d) rd (E2.mono ⟨List.prefix_refl _, x3⟩) ep fun σ2 E3 _ => hs.run S3 E3 es ?_
          cases q with
          | nx ρ4 M4 => exact fun κ' G' σ' H' l S' E' => ⟨κ', G', ρ4, M4, l3.trans l, S', E', by omega, h2⟩
          | ct ρ4 M4 => exact fun κ' G' σ' H' l S' E' => ⟨κ', G', ρ4, M4, l3.trans l, S', E', by omega, h2⟩
          | bk ρ4 M4 =>
            cases h2
            exact fun κ' G' σ' H' l S' E' => k κ' G' σ' H' ((l1.trans l3).trans l) S' E'
          | rt v M4 =>
            cases h2
            exact fun κ' G' u H' l S' r => k κ' G' u H' ((l1.trans l3).trans l) S' r
    · rintro σ H ⟨κ2, G2, ρ2, M3, l2, S2, E2, _, h2⟩
      rw [List.drop_length] at h2
      unfold forL at h2
      obtain ⟨st, h2⟩ := grd_some h2
      cases h2
      exact k κ2 G2 σ H (l1.trans l2) S2 E2
  · cases h⟩
theorem ss_while {tc : TT} {c : DT} {tb : TS} {s : DS} (hc : SimT K tc c) (hs : SimS K tb s) : SimS K (tWhile tc tb) (dWhile c s) := ⟨fun {F κ G σ ρ M H D o} S E h k => by
  obtain ⟨n, hn⟩ := dWhile_some h
  refine ⟨fun m σ H => ∃ κ2 G2 ρ2 M2, Le κ G κ2 G2 ∧ Sm K F κ2 G2 M2 H ∧ Se K κ2 G2 σ ρ2 ∧ whileL c s m ρ2 M2 = some o, ⟨n, κ, G, ρ, M, Le.refl _ _, S, E, hn⟩, ?_⟩
  rintro m σ H ⟨κ2, G2, ρ2, M2, l2, S2, E2, h2⟩
  cases m with
  | zero => cases h2
  | succ m =>
    unfold whileL at h2
    cases ec : c ρ2 M2 with
    | none => simp only [ec] at h2; cases h2
    | some p =>
      obtain ⟨b, M3⟩ := p
      simp only [ec] at h2
      refine hc.run S2 E2 ec fun κ3 G3 H3 l3 S3 => ?_
      cases b with
      | false =>
        rw [if_neg Bool.false_ne_true]
        simp only at h2
        cases h2
        exact k κ3 G3 σ H3 (l2.trans l3) S3 (E2.mono l3)
      | true =>
        rw [if_pos rfl]
        simp only at h2
        cases es : s ρ2 M3 with
        | none => simp only [es] at h2; cases h2
        | some q =>
          simp only [es] at h2
          refine ⟨fun σ' H' => ∃ κ4 G4 ρ4 M4, Le κ G κ4 G4 ∧ Sm K F κ4 G4 M4 H' ∧ Se K κ4 G4 σ' ρ4 ∧ whileL c s m ρ4 M4 = some o, fun σ' H' w => ⟨m, Nat.lt_succ_self _, w⟩, hs.run S3 (E2.mono l3) es ?_⟩
          cases q with
          | nx ρ4 M4 => exact fun κ' G' σ' H' l S' E' => ⟨κ', G', ρ4, M4, (l2.trans l3).trans l, S', E', h2⟩
          | ct ρ4 M4 => exact fun κ' G' σ' H' l S' E' => ⟨κ', G', ρ4, M4, (l2.trans l3).trans l, S', E', h2⟩
          | bk ρ4 M4 =>
            cases h2
            exact fun κ' G' σ' H' l S' E' => k κ' G' σ' H' ((l2.trans l3).trans l) S' E'
          | rt v M4 =>
            cases h2
            exact fun κ' G' u H' l S' r => k κ' G' u H' ((l2.trans l3).trans l) S' r⟩

/-! ### defs -/
/-- a def's promise: it does as f -/
def spD (K : PySem.W.Frag) (f : DF) (n : Nat) : Sp := fun vs H Q _ => ∃ F κ G M as v M', Sm K F κ G M H ∧ Rxs K κ G vs as ∧ as.length = n ∧ f as M = some (v, M') ∧ PV K F κ G Q v M'
theorem sim_call {f : DF} {n : Nat} {t : TA} {as : DA} {E : XK} (ha : SimA K t as) (hn : ∀ ρ M vs M', as ρ M = some (vs, M') → vs.length = n) : SimE K (tCall (spD K f n) [] E t) (eCall f as) := ⟨fun {F κ G σ ρ M H Q z M'} S E h k => by
  unfold eCall eA at h
  split at h
  · rename_i xs M1 e
    refine ha.run S E e fun κ1 G1 us H1 l1 S1 r1 => ?_
    rw [List.append_nil]
    exact ⟨F, κ1, G1, M1, xs, z, M', S1, r1, hn _ _ _ _ e, h, k.weak l1⟩
  · cases h⟩
theorem al_nil : ∀ ρ M vs M', aNil ρ M = some (vs, M') → vs.length = 0 := fun ρ M vs M' h => by cases h; rfl
theorem al_cons {a : DE} {as : DA} {n : Nat} (h : ∀ ρ M vs M', as ρ M = some (vs, M') → vs.length = n) : ∀ ρ M vs M', aCons a as ρ M = some (vs, M') → vs.length = n + 1 := fun ρ M vs M' e => by
  unfold aCons at e
  split at e
  · split at e
    · rename_i xs M2 e2
      cases e
      simp [h _ _ _ _ e2]
    · cases e
  · cases e
theorem start_se {κ : List Addr} {G : Hp} {N : List Str} : ∀ {vs : List V} {as : List Dv}, Rxs K κ G vs as → Se K κ G (start N vs) (startD N.length as) := fun {vs as} r => by
  refine ⟨by simp [L2.start, startD, r.length], fun i x e => ?_⟩
  unfold startD at e
  by_cases hi : i < as.length
  · rw [List.getElem?_append_left (by simpa using hi)] at e
    rw [List.getElem?_map] at e
    cases ea : as[i]? with
    | none => rw [ea] at e; cases e
    | some y =>
      rw [ea] at e
      cases e
      have : ∀ {vs : List V} {as : List Dv} {i : Nat} {y : Dv}, Rxs K κ G vs as → as[i]? = some y → ∃ v, vs[i]? = some v ∧ Rx K κ G v y := by
        intro vs as i y r h
        induction r generalizing i with
        | nil => simp at h
        | cons a r ih =>
          cases i with
          | zero => simp at h; subst h; exact ⟨_, rfl, a⟩
          | succ i =>
            obtain ⟨v, h1, h2⟩ := ih (i := i) (by simpa using h)
            exact ⟨v, by simpa using h1, h2⟩
      obtain ⟨v, hv, rv⟩ := this r ea
      refine ⟨v, ?_, rv⟩
      unfold L2.start
      rw [List.getElem?_append_left (by simpa [r.length] using hi), List.getElem?_map, hv]
      rfl
  · rw [List.getElem?_append_right (by simpa using hi), List.getElem?_replicate] at e
    split at e <;> cases e
/-- behind a def -/
theorem fin_ok {F : Fz} {κ κ' : List Addr} {G G' : Hp} {M M1 M' : DSt} {H' : Hp} {Q : VK} {v z : Dv} {u : V} (hl : κ.length = M.length) (l : Le κ G κ' G') (S : Sm K F κ' G' M1 H') (r : Rx K κ' G' u v) (h : fin M.length v M1 = some (z, M')) (k : PV K F κ G Q z M') : Q u H' := by
  have e4 : κ'.take M.length = κ := by
    obtain ⟨t, rfl⟩ := l.pre
    rw [← hl, List.take_left]
  have S2 := S.take M.length
  rw [e4] at S2
  have l2 : Le κ G κ G' := ⟨List.prefix_refl _, l.ex⟩
  unfold fin at h
  split at h
  · rename_i n
    obtain ⟨a, rfl, ha⟩ := r
    split at h
    · rename_i hn
      cases h
      refine k κ G' _ H' l2 S2 ⟨a, rfl, ?_⟩
      rw [← e4, List.getElem?_take, if_pos hn]
      exact ha
    · rename_i hn
      split at h
      · rename_i xs ex
        cases h
        obtain ⟨us, q1, q2, q3, q4⟩ := cell_at S ex ha
        have na : a ∉ κ := fun hm => by
          obtain ⟨j, hj, ej⟩ := List.getElem_of_mem hm
          obtain ⟨l1, g1⟩ := List.getElem?_eq_some_iff.mp ha
          have h2 : κ'[j]? = some a := l.at_ (by rw [List.getElem?_eq_getElem hj, ej])
          obtain ⟨l3, g3⟩ := List.getElem?_eq_some_iff.mp h2
          have := (List.getElem_inj S.nd).mp (g1.trans g3.symm)
          omega
        refine k (κ ++ [a]) G' _ H' ⟨List.prefix_append _ _, l.ex⟩ (S2.cell na q1 q2 (S.zn ex ha) q3 fun es e => by cases e; exact q4) ⟨a, rfl, last_at hl⟩
      · cases h
  · rename_i hnc
    cases h
    refine k κ G' u H' l2 S2 ?_
    cases v with
    | d x => exact r
    | c n => exact absurd rfl (hnc n)
    | r xs => exact r

/-! ### the judgements over syntax -/
structure PD (X : Cx) (e : Expr) (d : DE) : Prop where
  ex : ∃ t, PE X e t ∧ SimE X.K t d
structure PDT (X : Cx) (e : Expr) (d : DT) : Prop where
  ex : ∃ t, PT X e t ∧ SimT X.K t d
structure PDW (X : Cx) (e : Expr) (d : DT) : Prop where
  ex : ∃ t, PW X e t ∧ SimT X.K t d
structure PDA (X : Cx) (es : List Expr) (d : DA) (n : Nat) : Prop where
  ex : ∃ t, PA X es t ∧ SimA X.K t d
  len : ∀ ρ M vs M', d ρ M = some (vs, M') → vs.length = n
structure PDI (X : Cx) (tg it : Expr) (d : DI) : Prop where
  ex : ∃ t, PI X tg it t ∧ SimI X.K t d
structure PDS (X : Cx) (s : Stmt) (d : DS) : Prop where
  ex : ∃ t, PS X s t ∧ SimS X.K t d
structure PDB (X : Cx) (s : List Stmt) (d : DS) : Prop where
  ex : ∃ t, PSs X s t ∧ SimS X.K t d
structure PDG (X : Cx) (e : Expr) (t : Tgt) : Prop where
  ex : PG X e (t.tg X.K)
structure PDGs (X : Cx) (es : List Expr) (ts : List Tgt) : Prop where
  ex : PGs X es (Tgt.tgs X.K ts)
structure PDO (X : Cx) (e : Option Expr) (d : DO) : Prop where
  ex : ∃ t, PO X e t ∧ SimO X.K t d
end
/-- THE RULE for a def that raises nothing -/
theorem fn_ok {P : Program} {w : World} {K : PySem.W.Frag} {mg : Str → Option Value} {base : Heap} {x qual : Str} {st : Stmt} {f : Addr} {fd : FuncData} {N ps : List Str} {k : Nat} {ds : DS} (F : Fun K x qual st f fd) (S : FnScope N ps (defScope st))
    (hb : ∀ (cdv : Value) (A : Around) (outer : List Env) (s : Shared) (H : Hp) (E : XK), Room k (A.deeper (envOfC qual (defScope st) s.heap.objs.size f cdv)) → PDB (cxOf CX0 P w K mg base N qual (defScope st) f cdv A outer s H E).nox (defBody st) ds) :
    FnOk P w K mg base CX0 (k + 1) f fd ps (spD K (fnD N.length ds) ps.length) := by
  refine F.ok S (fun vs H Q E h => ?_) (fun cdv A outer s H vs Q E hr h => ?_)
  · obtain ⟨F', κ, G, M, as, v, M', _, r, hl, _⟩ := h
    rw [r.length, hl]
  · obtain ⟨F', κ, G, M, as, v, M', S0, r, hl, hf, k0⟩ := h
    obtain ⟨t, ht, hs⟩ := (hb cdv A outer s H E hr).ex
    refine ⟨t, ht, ?_⟩
    unfold fnD at hf
    split at hf
    · rename_i v1 M1 e
      exact hs.run S0 (start_se r) e fun κ' G' u H' l S' r' => fin_ok S0.len l S' r' hf k0
    · rename_i ρ1 M1 e
      exact hs.run S0 (start_se r) e fun κ' G' σ' H' l S' E' => fin_ok S0.len l S' (show Rx K κ' G' V.non (.d .non) from Rv.non) hf k0
    · cases hf
end Rw
end PRwSimD
section PRwRules
set_option Elab.async false
set_option linter.all false
set_option maxRecDepth 100000
set_option maxHeartbeats 2000000
/-! RwRules: one rule a construct: syntax to the pure reading. -/
namespace Rw
open PySem L2 PySem.Spec PyProof.Rows
section
variable {X : Cx} {a b c e : Expr} {pos : Pos} {da db dc de : DE} {ta tb : DT}
/-! ### expressions -/
theorem d_var (i : Nat) {x : Str} (hN : X.N[i]? = some x := by rfl) (hv : Vis X.env.scope x := by first | exact Or.inl rfl | exact Or.inr (Or.inl rfl) | exact Or.inr (Or.inr rfl)) (hd : (x == ("__debug__" : Str)) = false := by decide)
    (hcd : (x == ("__classdict__" : Str)) = false := by decide) : PD X (.Name x pos) (eVar i) := ⟨_, pe_var hN hv hd hcd, sim_var i⟩
theorem d_int {i : Int} {j} : PD X (.Constant (.int i) j pos) (eC (.int i)) := ⟨_, pe_int, sim_c fun _ => .int i⟩
theorem d_bl {b : Bool} {j} : PD X (.Constant (.bool b) j pos) (eC (.bl b)) := ⟨_, pe_bl, sim_c fun _ => .bl b⟩
theorem d_non {j} : PD X (.Constant .none j pos) (eC .non) := ⟨_, pe_non, sim_c fun _ => .non⟩
theorem d_str {x : Str} {j} : PD X (.Constant (.str x) j pos) (eC (.str x)) := ⟨_, pe_str, sim_c fun _ => .str x⟩
/-- a module's constant -/
theorem d_glob {x : Str} {v : V} {d : D} {u : Value} (hg : Gl X x) (hm : X.mg x = some u) (r : RelV v u) (hd : ∀ G, Rv X.K G v d) (hx : (x == ("__debug__" : Str)) = false := by decide) : PD X (.Name x pos) (eC d) := ⟨_, pe_glob hg hm r hx, sim_c hd⟩
/-- a built-in class as a value -/
theorem d_ty {x : Str} {n : String} (hg : Gl X x) (hm : X.mg x = none) (hv : bootBuiltins x = some (.type n)) (hn : x ≠ "__name__" := by decide) (hd : (x == ("__debug__" : Str)) = false := by decide) (hT : n ∈ tyNs := by decide) : PD X (.Name x pos) (eC (.ty n)) := ⟨_, pe_bltn (v := .ty n) hg hm hv rfl hn hd, sim_c fun _ => .ty n hT⟩
theorem d_op {op : Operator} {r : R2} {f : O2} (ho : OpR X (binaryOp op) r) (hs : SimR2 X.K r f) (ha : PD X a da) (hb : PD X b db) : PD X (.BinOp a op b pos) (e2 f da db) := by
  obtain ⟨t, h1, h2⟩ := ha.ex
  obtain ⟨u, h3, h4⟩ := hb.ex
  exact ⟨_, pe_op ho h1 h3, sim_op hs h2 h4⟩
theorem d_add (c : Bool) (ha : PD X a da) (hb : PD X b db) : PD X (.BinOp a .Add b pos) (e2 (oAdd c) da db) := d_op op_add3 (sr_add c) ha hb
theorem d_sub (ha : PD X a da) (hb : PD X b db) : PD X (.BinOp a .Sub b pos) (e2 oSub da db) := d_op op_sub sr_sub ha hb
theorem d_mul (ha : PD X a da) (hb : PD X b db) : PD X (.BinOp a .Mult b pos) (e2 oMul da db) := d_op op_mulR sr_mul ha hb
theorem d_rep (c : Bool) (ha : PD X a da) (hb : PD X b db) : PD X (.BinOp a .Mult b pos) (e2 (oRep c) da db) := d_op op_rep (sr_rep c) ha hb
theorem d_div (ha : PD X a da) (hb : PD X b db) : PD X (.BinOp a .FloorDiv b pos) (e2 oDiv da db) := d_op op_fdivR sr_div ha hb
theorem d_mod (ha : PD X a da) (hb : PD X b db) : PD X (.BinOp a .Mod b pos) (e2 oMod da db) := d_op op_modN sr_mod ha hb
theorem d_pow (ha : PD X a da) (hb : PD X b db) : PD X (.BinOp a .Pow b pos) (e2 oPow da db) := d_op op_pow sr_pow ha hb
theorem d_neg (ha : PD X a da) : PD X (.UnaryOp .USub a pos) (e1 oNeg da) := by
  obtain ⟨t, h1, h2⟩ := ha.ex
  exact ⟨_, pe_un un_neg h1, sim_un sr_neg h2⟩
/-! comparisons -/
structure CmpR (X : Cx) (op : CmpOp) (f : O2) : Prop where
  ex : ∃ r, OpR X (compareOp op) r ∧ SimR2 X.K r f
theorem k_lt : CmpR X .Lt oLt := ⟨_, op_lt, sr_lt⟩
theorem k_le : CmpR X .LtE oLe := ⟨_, op_le, sr_le⟩
theorem k_gt : CmpR X .Gt oGt := ⟨_, op_gt, sr_gt⟩
theorem k_ge : CmpR X .GtE oGe := ⟨_, op_ge, sr_ge⟩
theorem k_eq {k : Nat} (hr : Room k X.A) : CmpR X .Eq oEq := ⟨_, op_eqD hr.units, sr_eq⟩
theorem k_ne {k : Nat} (hr : Room k X.A) : CmpR X .NotEq oNe := ⟨_, op_neD hr.units, sr_ne⟩
theorem k_in : CmpR X .In (oIn false) := ⟨_, op_in_seq, sr_in false⟩
theorem k_notin : CmpR X .NotIn (oIn true) := ⟨_, op_notIn_seq, sr_in true⟩
theorem d_cmp {op : CmpOp} {f : O2} (hc : CmpR X op f) (ha : PD X a da) (hb : PD X b db) (hm : behindInMarks op b = false := by first | exact nomark _ (by decide) (by decide) | rfl) : PD X (.Compare a [op] [b] pos) (e2 f da db) := by
  obtain ⟨r, h0, h9⟩ := hc.ex
  obtain ⟨t, h1, h2⟩ := ha.ex
  obtain ⟨u, h3, h4⟩ := hb.ex
  exact ⟨_, pe_cmpR h0 h1 h3 hm, sim_op h9 h2 h4⟩
theorem t_cmp {op : CmpOp} {f : O2} (hc : CmpR X op f) (ha : PD X a da) (hb : PD X b db) (hm : behindInMarks op b = false := by first | exact nomark _ (by decide) (by decide) | rfl) : PDT X (.Compare a [op] [b] pos) (tVal (e2 f da db)) := by
  obtain ⟨r, h0, h9⟩ := hc.ex
  obtain ⟨t, h1, h2⟩ := ha.ex
  obtain ⟨u, h3, h4⟩ := hb.ex
  exact ⟨_, pt_cmpR h0 h1 h3 hm, sim_tTest (sim_op h9 h2 h4)⟩
theorem d_isN {j pos'} (ha : PD X a da) : PD X (.Compare a [.Is] [.Constant .none j pos'] pos) (e1 oIsN da) := by
  obtain ⟨t, h1, h2⟩ := ha.ex
  exact ⟨_, pe_cmpR op_isN h1 pe_non (nomark _), sim_isN h2⟩
theorem d_notN {j pos'} (ha : PD X a da) : PD X (.Compare a [.IsNot] [.Constant .none j pos'] pos) (e1 oNotN da) := by
  obtain ⟨t, h1, h2⟩ := ha.ex
  exact ⟨_, pe_cmpR op_notN h1 pe_non (nomark _), sim_notN h2⟩
theorem t_isN {j pos'} (ha : PD X a da) : PDT X (.Compare a [.Is] [.Constant .none j pos'] pos) (tVal (e1 oIsN da)) := by
  obtain ⟨t, h1, h2⟩ := ha.ex
  exact ⟨_, pt_cmpR op_isN h1 pe_non (nomark _), sim_tTest (sim_isN h2)⟩
theorem t_notN {j pos'} (ha : PD X a da) : PDT X (.Compare a [.IsNot] [.Constant .none j pos'] pos) (tVal (e1 oNotN da)) := by
  obtain ⟨t, h1, h2⟩ := ha.ex
  exact ⟨_, pt_cmpR op_notN h1 pe_non (nomark _), sim_tTest (sim_notN h2)⟩
theorem d_chain {op op' : CmpOp} {f g : O2} (hc : CmpR X op f) (hc' : CmpR X op' g) (ha : PD X a da) (hb : PD X b db) (hd : PD X c dc) (hm : lastMarks [op, op'] [b, c] = false := by rfl) :
    PD X (.Compare a [op, op'] [b, c] pos) (eChain f g da db dc) := by
  obtain ⟨r, h0, h9⟩ := hc.ex
  obtain ⟨r', h0', h9'⟩ := hc'.ex
  obtain ⟨t, h1, h2⟩ := ha.ex
  obtain ⟨u, h3, h4⟩ := hb.ex
  obtain ⟨v, h5, h6⟩ := hd.ex
  exact ⟨_, pe_chain h0 h0' h1 h3 h5 hm, sim_chain h9 h9' h2 h4 h6⟩
theorem t_chain {op op' : CmpOp} {f g : O2} (hc : CmpR X op f) (hc' : CmpR X op' g) (ha : PD X a da) (hb : PD X b db) (hd : PD X c dc) (hm : lastMarks [op, op'] [b, c] = false := by rfl) :
    PDT X (.Compare a [op, op'] [b, c] pos) (tVal (eChain f g da db dc)) := by
  obtain ⟨r, h0, h9⟩ := hc.ex
  obtain ⟨r', h0', h9'⟩ := hc'.ex
  obtain ⟨t, h1, h2⟩ := ha.ex
  obtain ⟨u, h3, h4⟩ := hb.ex
  obtain ⟨v, h5, h6⟩ := hd.ex
  exact ⟨_, pt_chain h0 h0' h1 h3 h5 hm, sim_tTest (sim_chain h9 h9' h2 h4 h6)⟩
/-! tests -/
theorem t_val (he : PD X e de) (h : ∀ whole, isTrue e X.env whole = (do let v ← whole; standAt e.pos; holding [v] (truthy v)) := by intro _; rfl) : PDT X e (tVal de) := by
  obtain ⟨t, h1, h2⟩ := he.ex
  exact ⟨_, pt_val h1 h, sim_tB h2⟩
theorem t_not (ha : PDT X a ta) : PDT X (.UnaryOp .Not a pos) (Rw.tNot ta) := by
  obtain ⟨t, h1, h2⟩ := ha.ex
  exact ⟨_, pt_not h1, sim_not h2⟩
variable {rest : List Expr}
theorem w_and1 (ha : PDT X a ta) : PDW X (.BoolOp .And [a] pos) ta := by
  obtain ⟨t, h1, h2⟩ := ha.ex
  exact ⟨_, pw_and1 h1, h2⟩
theorem w_or1 (ha : PDT X a ta) : PDW X (.BoolOp .Or [a] pos) ta := by
  obtain ⟨t, h1, h2⟩ := ha.ex
  exact ⟨_, pw_or1 h1, h2⟩
theorem w_and (ha : PDT X a ta) (hb : PDW X (.BoolOp .And (b :: rest) pos) tb) : PDW X (.BoolOp .And (a :: b :: rest) pos) (Rw.tAnd ta tb) := by
  obtain ⟨t, h1, h2⟩ := ha.ex
  obtain ⟨u, h3, h4⟩ := hb.ex
  exact ⟨_, pw_and h1 h3, sim_and h2 h4⟩
theorem w_or (ha : PDT X a ta) (hb : PDW X (.BoolOp .Or (b :: rest) pos) tb) : PDW X (.BoolOp .Or (a :: b :: rest) pos) (Rw.tOr ta tb) := by
  obtain ⟨t, h1, h2⟩ := ha.ex
  obtain ⟨u, h3, h4⟩ := hb.ex
  exact ⟨_, pw_or h1 h3, sim_or h2 h4⟩
theorem t_w (ha : PDW X a ta) : PDT X a ta := by
  obtain ⟨t, h1, h2⟩ := ha.ex
  exact ⟨_, h1.pt, h2⟩
theorem d_one {op} (ha : PD X a da) : PD X (.BoolOp op [a] pos) da := by
  obtain ⟨t, h1, h2⟩ := ha.ex
  exact ⟨_, pe_one h1, h2⟩
theorem d_and (ha : PD X a da) (hb : PD X (.BoolOp .And (b :: rest) pos) db) : PD X (.BoolOp .And (a :: b :: rest) pos) (eAnd da db) := by
  obtain ⟨t, h1, h2⟩ := ha.ex
  obtain ⟨u, h3, h4⟩ := hb.ex
  exact ⟨_, pe_and h1 h3, sim_andV h2 h4⟩
theorem d_or (ha : PD X a da) (hb : PD X (.BoolOp .Or (b :: rest) pos) db) : PD X (.BoolOp .Or (a :: b :: rest) pos) (eOr da db) := by
  obtain ⟨t, h1, h2⟩ := ha.ex
  obtain ⟨u, h3, h4⟩ := hb.ex
  exact ⟨_, pe_or h1 h3, sim_orV h2 h4⟩
theorem d_not (ha : PD X a da) : PD X (.UnaryOp .Not a pos) (eNot da) := by
  obtain ⟨t, h1, h2⟩ := ha.ex
  exact ⟨_, pe_not h1, sim_notV h2⟩
theorem d_ifE {tc : DT} (hc : PDT X c tc) (ha : PD X a da) (hb : PD X b db) : PD X (.IfExp c a b pos) (eIf tc da db) := by
  obtain ⟨t, h1, h2⟩ := hc.ex
  obtain ⟨u, h3, h4⟩ := ha.ex
  obtain ⟨v, h5, h6⟩ := hb.ex
  exact ⟨_, pe_ifExp h1 h3 h5, sim_ifE h2 h4 h6⟩
/-! arguments, displays, calls -/
variable {es : List Expr} {das : DA} {n : Nat}
theorem a_nil : PDA X [] aNil 0 := ⟨⟨_, pa_nil, sim_nil⟩, al_nil⟩
theorem a_cons (ha : PD X e de) (hr : PDA X es das n) (hs : starEach (e :: es) X.env = (false, eval e X.env) :: starEach es X.env := by rfl) : PDA X (e :: es) (aCons de das) (n + 1) := by
  obtain ⟨t, h1, h2⟩ := ha.ex
  obtain ⟨u, h3, h4⟩ := hr.ex
  exact ⟨⟨_, pa_cons h1 h3 hs, sim_cons h2 h4⟩, al_cons hr.len⟩
theorem d_tup {x1} (h : PDA X es das n) : PD X (.Tuple es x1 pos) (eTup das) := by
  obtain ⟨t, h1, h2⟩ := h.ex
  exact ⟨_, pe_tup h1, sim_tup h2⟩
theorem d_lst (c : Bool) (h : PDA X es das n) : PD X (.List es pos) (eLst c das) := by
  obtain ⟨t, h1, h2⟩ := h.ex
  exact ⟨_, pe_lst h1, sim_lst c h2⟩
theorem d_frz (h : PD X e de) : PD X e (eFrz de) := by
  obtain ⟨t, h1, h2⟩ := h.ex
  exact ⟨_, h1, sim_frz h2⟩
theorem d_frzC (h : PD X e de) : PD X e (eFrzC de) := by
  obtain ⟨t, h1, h2⟩ := h.ex
  exact ⟨_, h1, sim_frzC h2⟩
theorem d_ix (ha : PD X a da) (hb : PD X b db) (hs : PlainIx b := by exact fun _ _ => rfl) : PD X (.Subscript a b pos) (e2 oIx da db) := by
  obtain ⟨t, h1, h2⟩ := ha.ex
  obtain ⟨u, h3, h4⟩ := hb.ex
  exact ⟨_, pe_ix ix_seq h1 h3 hs, sim_op sr_ix h2 h4⟩
theorem o_none : PDO X none pNone := ⟨_, po_none, sim_pn⟩
theorem o_some (h : PD X e de) : PDO X (some e) (pSome de) := by
  obtain ⟨t, h1, h2⟩ := h.ex
  exact ⟨_, po_some h1, sim_ps h2⟩
variable {lo hi : Option Expr} {dl dh : DO} {p2 : Pos}
theorem d_slL (c : Bool) (he : PD X e de) (hl : PDO X lo dl) (hh : PDO X hi dh) : PD X (.Subscript e (.Slice lo hi none p2) pos) (eSl (slL c) de dl dh) := by
  obtain ⟨t, h1, h2⟩ := he.ex
  obtain ⟨u, h3, h4⟩ := hl.ex
  obtain ⟨v, h5, h6⟩ := hh.ex
  exact ⟨_, pe_slice sl_list h1 h3 h5, sim_sl (ss_list c) h2 h4 h6⟩
theorem d_slT (he : PD X e de) (hl : PDO X lo dl) (hh : PDO X hi dh) : PD X (.Subscript e (.Slice lo hi none p2) pos) (eSl slT de dl dh) := by
  obtain ⟨t, h1, h2⟩ := he.ex
  obtain ⟨u, h3, h4⟩ := hl.ex
  obtain ⟨v, h5, h6⟩ := hh.ex
  exact ⟨_, pe_slice sl_tupA h1 h3 h5, sim_sl ss_tup h2 h4 h6⟩
theorem d_rev (c : Bool) {k : Nat} {p1 p3 p4 : Pos} (he : PD X e de) : PD X (.Subscript e (.Slice none none (some (.UnaryOp .USub (.Constant (.int 1) k p1) p4)) p3) pos) (e1 (oRev c) de) := by
  obtain ⟨t, h1, h2⟩ := he.ex
  exact ⟨_, pe_revL h1, sim_rev c h2⟩
variable {p : Pos} {x : Str}
theorem d_call {k : Nat} {f : Addr} {fd : FuncData} {ps : List Str} {df : DF} (F : FnOk X.prog X.w X.K X.mg X.base CX0 k f fd ps (spD X.K df n)) (hr : Room k X.A) (hg : Gl X x) (hm : X.mg x = some (.ref f)) (hk : PySem.W.keepIn X.K (.ref f) = true) (hb : Binds X.K fd ps [])
    (ha : PDA X (e :: es) das n) (hdb : (x == ("__debug__" : Str)) = false := by decide) (he : starEach (e :: es) X.env = (false, eval e X.env) :: starEach es X.env := by rfl) (hpl : (backTo pos (starEach es X.env)).any (·.1) = false := by rfl) :
    PD X (.Call (.Name x p) (e :: es) [] pos) (eCall df das) := by
  obtain ⟨t, h1, h2⟩ := ha.ex
  exact ⟨_, pe_call F hr hg hm hk hb .nil pass0 h1 hdb he hpl, sim_call h2 ha.len⟩
theorem d_call0 {k : Nat} {f : Addr} {fd : FuncData} {ps : List Str} {df : DF} (F : FnOk X.prog X.w X.K X.mg X.base CX0 k f fd ps (spD X.K df 0)) (hr : Room k X.A) (hg : Gl X x) (hm : X.mg x = some (.ref f)) (hk : PySem.W.keepIn X.K (.ref f) = true) (hb : Binds X.K fd ps [])
    (hdb : (x == ("__debug__" : Str)) = false := by decide) : PD X (.Call (.Name x p) [] [] pos) (eCall df aNil) :=
  ⟨_, pe_call0 F hr hg hm hk hb .nil pass0 hdb, sim_call sim_nil al_nil⟩
/-- a built-in function -/
theorem d_bi {id : String} {r : List V → Hp → VK → Prop} {f : OA} (hc : CallR X (.builtin id) r) (hs : SimRA X.K r f) (hg : Gl X x) (hm : X.mg x = none) (hv : bootBuiltins x = some (.builtin id)) (ha : PDA X (e :: es) das n) (hn : x ≠ "__name__" := by decide) (hdb : (x == ("__debug__" : Str)) = false := by decide)
    (he : starEach (e :: es) X.env = (false, eval e X.env) :: starEach es X.env := by rfl) (hpl : (backTo pos (starEach es X.env)).any (·.1) = false := by rfl) : PD X (.Call (.Name x p) (e :: es) [] pos) (eA f das) := by
  obtain ⟨t, h1, h2⟩ := ha.ex
  exact ⟨_, pe_callB hc hg hm hv h1 hn hdb he hpl, sim_cb hs h2⟩
theorem d_bt {T : String} {r : List V → Hp → VK → Prop} {f : OA} (hc : CallR X (.type T) r) (hs : SimRA X.K r f) (hg : Gl X x) (hm : X.mg x = none) (hv : bootBuiltins x = some (.type T)) (ha : PDA X (e :: es) das n) (hn : x ≠ "__name__" := by decide) (hdb : (x == ("__debug__" : Str)) = false := by decide)
    (he : starEach (e :: es) X.env = (false, eval e X.env) :: starEach es X.env := by rfl) (hpl : (backTo pos (starEach es X.env)).any (·.1) = false := by rfl) : PD X (.Call (.Name x p) (e :: es) [] pos) (eA f das) := by
  obtain ⟨t, h1, h2⟩ := ha.ex
  exact ⟨_, pe_callTy hc hg hm hv h1 hn hdb he hpl, sim_cb hs h2⟩
theorem d_abs (hm : X.mg "abs" = none) (ha : PDA X (e :: es) das n) (hg : Gl X "abs" := by rfl) (he : starEach (e :: es) X.env = (false, eval e X.env) :: starEach es X.env := by rfl) (hpl : (backTo pos (starEach es X.env)).any (·.1) = false := by rfl) : PD X (.Call (.Name "abs" p) (e :: es) [] pos) (eA oAbs das) := d_bi (x := "abs") call_abs sa_abs hg hm (by decide +kernel) ha (he := he) (hpl := hpl)
theorem d_len (hm : X.mg "len" = none) (ha : PDA X (e :: es) das n) (hg : Gl X "len" := by rfl) (he : starEach (e :: es) X.env = (false, eval e X.env) :: starEach es X.env := by rfl) (hpl : (backTo pos (starEach es X.env)).any (·.1) = false := by rfl) : PD X (.Call (.Name "len" p) (e :: es) [] pos) (eA oLen das) := d_bi (x := "len") call_len sa_len hg hm (by decide +kernel) ha (he := he) (hpl := hpl)
theorem d_max2 (hm : X.mg "max" = none) (ha : PDA X (e :: es) das n) (hc : X.calm = true := by rfl) (hg : Gl X "max" := by rfl) (he : starEach (e :: es) X.env = (false, eval e X.env) :: starEach es X.env := by rfl) (hpl : (backTo pos (starEach es X.env)).any (·.1) = false := by rfl) : PD X (.Call (.Name "max" p) (e :: es) [] pos) (eA oMax2 das) := d_bi (x := "max") (call_max2 hc) sa_max2 hg hm (by decide +kernel) ha (he := he) (hpl := hpl)
theorem d_min2 (hm : X.mg "min" = none) (ha : PDA X (e :: es) das n) (hc : X.calm = true := by rfl) (hg : Gl X "min" := by rfl) (he : starEach (e :: es) X.env = (false, eval e X.env) :: starEach es X.env := by rfl) (hpl : (backTo pos (starEach es X.env)).any (·.1) = false := by rfl) : PD X (.Call (.Name "min" p) (e :: es) [] pos) (eA oMin2 das) := d_bi (x := "min") (call_min2 hc) sa_min2 hg hm (by decide +kernel) ha (he := he) (hpl := hpl)
theorem d_sum (hm : X.mg "sum" = none) (ha : PDA X (e :: es) das n) (hc : X.calm = true := by rfl) (hg : Gl X "sum" := by rfl) (he : starEach (e :: es) X.env = (false, eval e X.env) :: starEach es X.env := by rfl) (hpl : (backTo pos (starEach es X.env)).any (·.1) = false := by rfl) : PD X (.Call (.Name "sum" p) (e :: es) [] pos) (eA oSum das) := d_bi (x := "sum") (cr_sum hc) sa_sum hg hm (by decide +kernel) ha (he := he) (hpl := hpl)
theorem d_all (hm : X.mg "all" = none) (ha : PDA X (e :: es) das n) (hc : X.calm = true := by rfl) (hg : Gl X "all" := by rfl) (he : starEach (e :: es) X.env = (false, eval e X.env) :: starEach es X.env := by rfl) (hpl : (backTo pos (starEach es X.env)).any (·.1) = false := by rfl) : PD X (.Call (.Name "all" p) (e :: es) [] pos) (eA oAll das) := d_bi (x := "all") (cr_all hc) sa_all hg hm (by decide +kernel) ha (he := he) (hpl := hpl)
theorem d_any (hm : X.mg "any" = none) (ha : PDA X (e :: es) das n) (hc : X.calm = true := by rfl) (hg : Gl X "any" := by rfl) (he : starEach (e :: es) X.env = (false, eval e X.env) :: starEach es X.env := by rfl) (hpl : (backTo pos (starEach es X.env)).any (·.1) = false := by rfl) : PD X (.Call (.Name "any" p) (e :: es) [] pos) (eA oAny das) := d_bi (x := "any") (cr_any hc) sa_any hg hm (by decide +kernel) ha (he := he) (hpl := hpl)
theorem d_sorted (c : Bool) (hm : X.mg "sorted" = none) (ha : PDA X (e :: es) das n) (hg : Gl X "sorted" := by rfl) (he : starEach (e :: es) X.env = (false, eval e X.env) :: starEach es X.env := by rfl) (hpl : (backTo pos (starEach es X.env)).any (·.1) = false := by rfl) : PD X (.Call (.Name "sorted" p) (e :: es) [] pos) (eA (oSorted c) das) := d_bi (x := "sorted") cr_sortedI (sa_sorted c) hg hm (by decide +kernel) ha (he := he) (hpl := hpl)
theorem d_intf (hm : X.mg "int" = none) (ha : PDA X (e :: es) das n) (hg : Gl X "int" := by rfl) (he : starEach (e :: es) X.env = (false, eval e X.env) :: starEach es X.env := by rfl) (hpl : (backTo pos (starEach es X.env)).any (·.1) = false := by rfl) : PD X (.Call (.Name "int" p) (e :: es) [] pos) (eA oInt das) := d_bt (x := "int") call_int1 sa_int hg hm (by decide +kernel) ha (he := he) (hpl := hpl)
theorem d_list (c : Bool) (hm : X.mg "list" = none) (ha : PDA X (e :: es) das n) (hg : Gl X "list" := by rfl) (he : starEach (e :: es) X.env = (false, eval e X.env) :: starEach es X.env := by rfl) (hpl : (backTo pos (starEach es X.env)).any (·.1) = false := by rfl) : PD X (.Call (.Name "list" p) (e :: es) [] pos) (eA (oList c) das) := d_bt (x := "list") call_list_of (sa_list c) hg hm (by decide +kernel) ha (he := he) (hpl := hpl)
theorem d_isi (T : String) (hm : X.mg "isinstance" = none) (ha : PDA X (e :: es) das n) (hT : T ∈ ["bool", "int", "str", "list", "tuple"] := by decide) (hg : Gl X "isinstance" := by rfl) (he : starEach (e :: es) X.env = (false, eval e X.env) :: starEach es X.env := by rfl) (hpl : (backTo pos (starEach es X.env)).any (·.1) = false := by rfl) : PD X (.Call (.Name "isinstance" p) (e :: es) [] pos) (eA (oIsi T) das) := d_bi (x := "isinstance") call_isi (sa_isi T hT) hg hm (by decide +kernel) ha (he := he) (hpl := hpl)
theorem d_listR1 (c : Bool) {p' pos' : Pos} (hm : X.mg "list" = none) (hm' : X.mg "range" = none) (ha : PD X a da) (hc : X.calm = true := by rfl) (hg : Gl X "list" := by rfl) (hg' : Gl X "range" := by rfl) (na : starEach [a] X.env = (false, eval a X.env) :: starEach [] X.env := by rfl) (nb : starEach [.Call (.Name "range" p') [a] [] pos'] X.env = (false, eval (.Call (.Name "range" p') [a] [] pos') X.env) :: starEach [] X.env := by rfl) :
    PD X (.Call (.Name "list" p) [.Call (.Name "range" p') [a] [] pos'] [] pos) (eA (oListR1 c) (aCons da aNil)) := by
  obtain ⟨t, h1, h2⟩ := ha.ex
  exact ⟨_, pe_listRg hc hg hm (prg_1 hg' hm' h1 na) nb, sim_listR1 c h2⟩
theorem d_listR2 (c : Bool) {p' pos' : Pos} (hm : X.mg "list" = none) (hm' : X.mg "range" = none) (ha : PD X a da) (hb : PD X b db) (hc : X.calm = true := by rfl) (hg : Gl X "list" := by rfl) (hg' : Gl X "range" := by rfl) (na : starEach [a, b] X.env = (false, eval a X.env) :: starEach [b] X.env := by rfl) (nb : starEach [b] X.env = (false, eval b X.env) :: starEach [] X.env := by rfl) (np : (backTo pos' (starEach [b] X.env)).any (·.1) = false := by rfl)
    (nc : starEach [.Call (.Name "range" p') [a, b] [] pos'] X.env = (false, eval (.Call (.Name "range" p') [a, b] [] pos') X.env) :: starEach [] X.env := by rfl) :
    PD X (.Call (.Name "list" p) [.Call (.Name "range" p') [a, b] [] pos'] [] pos) (eA (oListR2 c) (aCons da (aCons db aNil))) := by
  obtain ⟨t, h1, h2⟩ := ha.ex
  obtain ⟨u, h3, h4⟩ := hb.ex
  exact ⟨_, pe_listRg hc hg hm (prg_2 hg' hm' h1 h3 na nb np) nc, sim_listR2 c h2 h4⟩
end
end Rw
end PRwRules
section PRwRules2
set_option Elab.async false
set_option linter.all false
set_option maxRecDepth 100000
set_option maxHeartbeats 2000000
namespace Rw
open PySem L2 PySem.Spec PyProof.Rows
section
variable {X : Cx} {a b c e : Expr} {pos : Pos} {da db dc de : DE} {ta tb : DT} {es : List Expr} {das : DA} {n : Nat} {p : Pos} {x : Str} {tg : Expr}
/-! ### targets -/
theorem g_name (i : Nat) {x : Str} (hN : X.N.Nodup) (hi : X.N[i]? = some x := by rfl) (hx : Loc X.env.scope x := by first | exact Or.inl rfl | exact Or.inr rfl) (hf : X.fn x = true ∨ X.env.scope.names.lookup x = some .local := by first | exact .inl rfl | exact .inr rfl) : PDG X (.Name x pos) (.name i) := ⟨by
  simp only [Tgt.tg]
  exact pg_name hN hi hx hf⟩
theorem g_nil : PDGs X [] [] := ⟨by simp only [Tgt.tgs]; exact pgs_nil⟩
theorem g_cons {t : Tgt} {ts : List Tgt} (h : PDG X e t) (hr : PDGs X es ts) (hs : (assignEach (e :: es) X.env).map (·.2) = assign e X.env :: (assignEach es X.env).map (·.2) := by rfl) : PDGs X (e :: es) (t :: ts) := ⟨by
  simp only [Tgt.tgs]
  exact pgs_cons h.ex hr.ex hs⟩
theorem g_tup {k : Nat} {ts : List Tgt} (h : PDGs X es ts) (hc : X.calm = true := by rfl) (hn : (assignEach es X.env).length = ts.length := by rfl) (hst : (assignEach es X.env).findIdx? (·.1) = none := by rfl) : PDG X (.Tuple es k pos) (.tup ts) := ⟨by
  simp only [Tgt.tg]
  exact ⟨fun pins s σ H v u Q I r hw => hw.elim (fun q => (pg_tup hc h.ex hn hst).run pins s σ H v u Q I r q) fun q => (pg_unl hc h.ex hn hst).run pins s σ H v u Q I r q⟩⟩
/-! ### ints or lists, lists or tuples -/
theorem sr_mulU {K : PySem.W.Frag} (c : Bool) : SimR2 K (fun x y H Q => rI CMulR (fun i j => .int (i * j)) x y H Q ∨ rRep x y H Q) (oMulU c) := fun {F κ G M H Q x y z M' u v} S rx ry h k => by
  unfold oMulU at h
  split at h
  · obtain ⟨hp, h⟩ := grd_some h
    cases h
    exact .inl ⟨_, _, rx_int rx, rx_int ry, mulOk_ok hp, k.here S (Rv.int _)⟩
  · exact .inr (sr_rep c S rx ry h k)
theorem d_mulU (c : Bool) (ha : PD X a da) (hb : PD X b db) : PD X (.BinOp a .Mult b pos) (e2 (oMulU c) da db) := d_op (op_mulR.or op_rep) (sr_mulU c) ha hb
theorem ss_slU {K : PySem.W.Frag} (c : Bool) : SimSl K (fun x lo hi H Q => rSlL K x lo hi H Q ∨ rSlA K x lo hi H Q) (slU c) := fun {F κ G M H Q x lo hi z M' u} S rx h k => by
  unfold slU at h
  split at h
  · exact .inr (ss_tup S rx (by unfold slT; exact h) k)
  · exact .inl (ss_list c S rx h k)
variable {lo hi : Option Expr} {dl dh : DO} {p2 : Pos}
theorem d_slU (c : Bool) (he : PD X e de) (hl : PDO X lo dl) (hh : PDO X hi dh) : PD X (.Subscript e (.Slice lo hi none p2) pos) (eSl (slU c) de dl dh) := by
  obtain ⟨t, h1, h2⟩ := he.ex
  obtain ⟨u, h3, h4⟩ := hl.ex
  obtain ⟨v, h5, h6⟩ := hh.ex
  exact ⟨_, pe_slice (sl_list.or sl_tupA) h1 h3 h5, sim_sl (ss_slU c) h2 h4 h6⟩
/-! ### what is walked -/
theorem i_seq (he : PD X e de) : PDI X tg e (iS de) := by
  obtain ⟨t, h1, h2⟩ := he.ex
  refine ⟨fun σ H R => iList X.K t σ H R ∨ iTup X.K t σ H R, ⟨fun pins s σ H R I h => ?_⟩, ⟨fun {F κ G σ ρ M H xs src M' R} S E h k => ?_⟩⟩
  · rcases h with h | h
    · exact (pi_list h1).run pins s σ H R I h
    · exact (pi_tup h1).run pins s σ H R I h
  · unfold iS at h
    split at h
    · rename_i ys M1 e1
      cases h
      exact .inr ((sim_iT h2).run S E (by unfold iT; rw [e1]) k)
    · rename_i y M1 _ e1
      exact .inl ((sim_iL h2).run S E (by unfold iL; rw [e1]; exact h) k)
    · cases h
theorem i_list (he : PD X e de) : PDI X tg e (iL de) := by
  obtain ⟨t, h1, h2⟩ := he.ex
  exact ⟨_, pi_list h1, sim_iL h2⟩
theorem i_tup (he : PD X e de) : PDI X tg e (iT de) := by
  obtain ⟨t, h1, h2⟩ := he.ex
  exact ⟨_, pi_tup h1, sim_iT h2⟩
theorem i_r1 (hm : X.mg "range" = none) (ha : PDA X [a] das n) (hg : Gl X "range" := by rfl) (hs : starEach [a] X.env = [(false, eval a X.env)] := by rfl) : PDI X tg (.Call (.Name "range" p) [a] [] pos) (iR1 das) := by
  obtain ⟨t, h1, h2⟩ := ha.ex
  exact ⟨_, pi_range1 hg hm h1 hs, sim_iR1 h2⟩
theorem i_r2 (hm : X.mg "range" = none) (ha : PDA X [a, b] das n) (hg : Gl X "range" := by rfl) (hs : starEach [a, b] X.env = [(false, eval a X.env), (false, eval b X.env)] := by rfl) (hs2 : starEach [b] X.env = [(false, eval b X.env)] := by rfl) : PDI X tg (.Call (.Name "range" p) [a, b] [] pos) (iR2 das) := by
  obtain ⟨t, h1, h2⟩ := ha.ex
  exact ⟨_, pi_range2 hg hm h1 hs hs2, sim_iR2 h2⟩
theorem i_en {elts : List Expr} {kk : Nat} {tpos : Pos} (hm : X.mg "enumerate" = none) (ha : PDA X [a] das n) (hg : Gl X "enumerate" := by rfl) (hs : starEach [a] X.env = [(false, eval a X.env)] := by rfl) : PDI X (.Tuple elts kk tpos) (.Call (.Name "enumerate" p) [a] [] pos) (iEn das) := by
  obtain ⟨t, h1, h2⟩ := ha.ex
  exact ⟨_, pi_enum hg hm h1 hs, sim_iEn h2⟩
theorem i_zip {elts : List Expr} {kk : Nat} {tpos : Pos} (hm : X.mg "zip" = none) (ha : PDA X [a, b] das n) (hg : Gl X "zip" := by rfl) (hs : starEach [a, b] X.env = (false, eval a X.env) :: starEach [b] X.env := by rfl) (hpl : (backTo pos (starEach [b] X.env)).any (·.1) = false := by rfl) : PDI X (.Tuple elts kk tpos) (.Call (.Name "zip" p) [a, b] [] pos) (iZ das) := by
  obtain ⟨t, h1, h2⟩ := ha.ex
  exact ⟨_, pi_zip hg hm h1 hs hpl, sim_iZ h2⟩
/-! ### comprehensions -/
theorem ts_nil : PTs X [] L2.tYes := pts_nil
theorem sim_yes {K : PySem.W.Frag} : SimT K L2.tYes Rw.tYes := ⟨fun {F κ G σ ρ M H b M' Q} S E h k => by
  cases h
  exact k κ G H (Le.refl _ _) S⟩
structure PDTs (X : Cx) (es : List Expr) (d : DT) : Prop where
  ex : ∃ t, PTs X es t ∧ SimT X.K t d
theorem c_nil : PDTs X [] Rw.tYes := ⟨_, pts_nil, sim_yes⟩
theorem c_one (h : PDT X e ta) : PDTs X [e] ta := by
  obtain ⟨t, h1, h2⟩ := h.ex
  exact ⟨_, pts_one h1, h2⟩
/-- the reading that a pure reading makes -/
def tOf (K : PySem.W.Frag) (d : DE) : TE := fun σ H Q => ∃ F κ G ρ M v M', Sm K F κ G M H ∧ Se K κ G σ ρ ∧ d ρ M = some (v, M') ∧ PV K F κ G Q v M'
def tOfT (K : PySem.W.Frag) (d : DT) : TT := fun σ H Q => ∃ F κ G ρ M b M', Sm K F κ G M H ∧ Se K κ G σ ρ ∧ d ρ M = some (b, M') ∧ ∀ κ' G' H', Le κ G κ' G' → Sm K F κ' G' M' H' → Q b H'
theorem simOf {K : PySem.W.Frag} {d : DE} : SimE K (tOf K d) d := ⟨fun {F κ G σ ρ M H Q v M'} S E h k => ⟨F, κ, G, ρ, M, v, M', S, E, h, k⟩⟩
theorem simOfT {K : PySem.W.Frag} {d : DT} : SimT K (tOfT K d) d := ⟨fun {F κ G σ ρ M H b M' Q} S E h k => ⟨F, κ, G, ρ, M, b, M', S, E, h, k⟩⟩
theorem PD.can {X : Cx} {e : Expr} {d : DE} (h : PD X e d) : PE X e (tOf X.K d) := by
  obtain ⟨t, h1, h2⟩ := h.ex
  exact ⟨fun pins s σ H Q I ⟨F, κ, G, ρ, M, v, M', S, E, hd, k⟩ => h1.run pins s σ H Q I (h2.run S E hd k)⟩
theorem PDTs.can {X : Cx} {es : List Expr} {d : DT} (h : PDTs X es d) : PTs X es (tOfT X.K d) := by
  obtain ⟨t, h1, h2⟩ := h.ex
  exact ⟨fun pins s σ H Q I ⟨F, κ, G, ρ, M, v, M', S, E, hd, k⟩ => h1.run pins s σ H Q I (h2.run S E hd k)⟩
theorem d_lc (c : Bool) {elt iter : Expr} {ifs : List Expr} {scope : Scope} (own : List (Str × Nat)) {it : DI} {tgt : Tgt} {tt : DT} {el : DE} (hN : X.N.Nodup) (hi : PDI X tg iter it) (ok : blkC X.N X.env.scope scope own = true)
    (hg : ∀ (s : Shared) (H : Hp) (C : Addr) (cl : List (Str × Addr)) (fp : List Addr), PDG (X.blk s H scope (compEnvC scope cl C X.env) fp) tg tgt) (ht : ∀ (s : Shared) (H : Hp) (C : Addr) (cl : List (Str × Addr)) (fp : List Addr), PDTs (X.blk s H scope (compEnvC scope cl C X.env) fp) ifs tt)
    (he : ∀ (s : Shared) (H : Hp) (C : Addr) (cl : List (Str × Addr)) (fp : List Addr), PD (X.blk s H scope (compEnvC scope cl C X.env) fp) elt el) (hown : ∀ i ∈ tgt.slots, i ∈ own.map (·.2) := by decide) (hc : X.calm = true := by rfl) (hs : ∀ x, foldedSetIterable iter X.env x = pure x := by intro _; rfl) :
    PD X (.ListComp elt [⟨tg, iter, ifs, 0⟩] scope pos) (eComp c it tgt tt el (own.map (·.2))) := by
  obtain ⟨t, h1, h2⟩ := hi.ex
  exact ⟨_, pe_lc hc hN h1 (blkOk_by ok) (fun s H C cl fp => (hg s H C cl fp).ex) (fun s H C cl fp => (ht s H C cl fp).can) (fun s H C cl fp => (he s H C cl fp).can) hs, sim_lc h2 simOfT simOf hown⟩
/-! ### methods of lists -/
theorem lm_pop : ∀ v as M z, mPop v as M = some z → ∃ n, v = .c n := fun v as M z h => by
  unfold mPop at h
  split at h
  · exact ⟨_, rfl⟩
  · exact ⟨_, rfl⟩
  · cases h
theorem lm_insert : ∀ v as M z, mInsert v as M = some z → ∃ n, v = .c n := fun v as M z h => by
  unfold mInsert at h
  split at h
  · exact ⟨_, rfl⟩
  · cases h
def rInsert : V → List V → Hp → VK → Prop := fun x vs H Q => ∃ (l : Addr) (xs : List V) (i : Int) (y : V), x = .ref l ∧ vs = [.int i, y] ∧ H l = some (.lst xs) ∧ xs.length < sizeLine ∧ 0 ≤ i ∧ i < 2 ^ 63 ∧
    Q .non (upd H l (.lst (xs.take i.toNat ++ [y] ++ xs.drop i.toNat)))
theorem sm_insert {K : PySem.W.Frag} : SimRM K "list" rInsert mInsert := fun {F κ G M H Q x xs z M' u us} S r rs h k => by
  unfold mInsert at h
  split at h
  · rename_i n i y
    split at h
    · rename_i ys e
      obtain ⟨hp, h⟩ := grd_some h
      cases h
      obtain ⟨a, rfl, ha⟩ := r
      obtain ⟨v, w, rfl, rv, rw'⟩ := rxs2 rs
      obtain rfl := rx_int rv
      obtain ⟨vs, _, _, e3, e4⟩ := cell_at S e ha
      refine ⟨a, vs, i, w, rfl, rfl, e3, sz_big1 (by rw [e4.length]; exact hp.1), hp.2.1, by omega, ?_⟩
      exact k κ G _ _ (Le.refl _ _) (S.put e ha (((e4.take _).append (.cons rw' .nil)).append (e4.drop _))) Rv.non
    · cases h
  · cases h
theorem d_append {apos : Pos} (ho : PD X a da) (hb : PDA X (e :: es) das n) (hbase : attributeBase a "append" X.env (eval a X.env) = eval a X.env := by rfl)
    (hfew : ((backTo pos (starEach (e :: es) X.env)).all (fun x => !x.1) && (backToKw pos (keywordEach [] X.env)).all (fun x => x.1.isSome)
      && decide ((e :: es).length + ([] : List Keyword).length + (if ([] : List Keyword).isEmpty then 0 else 1) < 30)) = true := by rfl)
    (hline : (apos.endLine == pos.line) = true := by rfl) (hs : starEach (e :: es) X.env = (false, eval e X.env) :: starEach es X.env := by rfl) (hplain : (backTo pos (starEach es X.env)).any (·.1) = false := by rfl) : PD X (.Call (.Attribute a "append" apos) (e :: es) [] pos) (eM mAppend da das) := by
  obtain ⟨t, h1, h2⟩ := ho.ex
  obtain ⟨u, h3, h4⟩ := hb.ex
  exact ⟨_, pe_bm PySem.F.plainAttrs_list PySem.F.slot_list_append PySem.F.type_list_append mt_append h1 h3 hbase hfew hline hs hplain, sim_bm sm_append lm_append h2 h4⟩
theorem d_pop {apos : Pos} (ho : PD X a da) (hb : PDA X (e :: es) das n) (hbase : attributeBase a "pop" X.env (eval a X.env) = eval a X.env := by rfl)
    (hfew : ((backTo pos (starEach (e :: es) X.env)).all (fun x => !x.1) && (backToKw pos (keywordEach [] X.env)).all (fun x => x.1.isSome)
      && decide ((e :: es).length + ([] : List Keyword).length + (if ([] : List Keyword).isEmpty then 0 else 1) < 30)) = true := by rfl)
    (hline : (apos.endLine == pos.line) = true := by rfl) (hs : starEach (e :: es) X.env = (false, eval e X.env) :: starEach es X.env := by rfl) (hplain : (backTo pos (starEach es X.env)).any (·.1) = false := by rfl) : PD X (.Call (.Attribute a "pop" apos) (e :: es) [] pos) (eM mPop da das) := by
  obtain ⟨t, h1, h2⟩ := ho.ex
  obtain ⟨u, h3, h4⟩ := hb.ex
  exact ⟨_, pe_bm PySem.F.plainAttrs_list PySem.F.slot_list_pop PySem.F.type_list_pop mt_pops h1 h3 hbase hfew hline hs hplain, sim_bm sm_pop lm_pop h2 h4⟩
theorem d_insert {apos : Pos} (ho : PD X a da) (hb : PDA X (e :: es) das n) (hbase : attributeBase a "insert" X.env (eval a X.env) = eval a X.env := by rfl)
    (hfew : ((backTo pos (starEach (e :: es) X.env)).all (fun x => !x.1) && (backToKw pos (keywordEach [] X.env)).all (fun x => x.1.isSome)
      && decide ((e :: es).length + ([] : List Keyword).length + (if ([] : List Keyword).isEmpty then 0 else 1) < 30)) = true := by rfl)
    (hline : (apos.endLine == pos.line) = true := by rfl) (hs : starEach (e :: es) X.env = (false, eval e X.env) :: starEach es X.env := by rfl) (hplain : (backTo pos (starEach es X.env)).any (·.1) = false := by rfl) : PD X (.Call (.Attribute a "insert" apos) (e :: es) [] pos) (eM mInsert da das) := by
  obtain ⟨t, h1, h2⟩ := ho.ex
  obtain ⟨u, h3, h4⟩ := hb.ex
  exact ⟨_, pe_bm PySem.F.plainAttrs_list PySem.F.slot_list_insert PySem.F.type_list_insert mt_insert h1 h3 hbase hfew hline hs hplain, sim_bm sm_insert lm_insert h2 h4⟩
theorem d_pop0 {apos : Pos} (ho : PD X a da) (hbase : attributeBase a "pop" X.env (eval a X.env) = eval a X.env := by rfl) (hline : (apos.endLine == pos.line) = true := by rfl) : PD X (.Call (.Attribute a "pop" apos) [] [] pos) (eM mPop da aNil) := by
  obtain ⟨t, h1, h2⟩ := ho.ex
  exact ⟨_, pe_bm0 PySem.F.plainAttrs_list PySem.F.slot_list_pop PySem.F.type_list_pop mt_pops h1 hbase hline, sim_bm0 sm_pop lm_pop h2⟩
theorem d_clear {apos : Pos} (ho : PD X a da) (hbase : attributeBase a "clear" X.env (eval a X.env) = eval a X.env := by rfl) (hline : (apos.endLine == pos.line) = true := by rfl) : PD X (.Call (.Attribute a "clear" apos) [] [] pos) (eM mClear da aNil) := by
  obtain ⟨t, h1, h2⟩ := ho.ex
  exact ⟨_, pe_bm0 PySem.F.plainAttrs_list PySem.F.slot_list_clear PySem.F.type_list_clear mt_clear h1 hbase hline, sim_bm0 sm_clear lm_clear h2⟩

/-! ### statements -/
variable {st : Stmt} {rest : List Stmt} {s t u : DS}
theorem b_nil : PDB X [] dPass := ⟨_, pss_nil, ss_pass⟩
theorem b_cons (h1 : PDS X st s) (h2 : PDB X rest t) : PDB X (st :: rest) (dSeq s t) := by
  obtain ⟨t1, a1, a2⟩ := h1.ex
  obtain ⟨t2, b1, b2⟩ := h2.ex
  exact ⟨_, pss_cons a1 b1, ss_seq a2 b2⟩
theorem b_one (h1 : PDS X st s) : PDB X [st] s := by
  obtain ⟨t1, a1, a2⟩ := h1.ex
  exact ⟨_, pss_one a1, a2⟩
theorem b_wipe (vs : List Nat) (h : PDB X rest s) : PDB X rest (dWipe vs s) := by
  obtain ⟨t1, a1, a2⟩ := h.ex
  exact ⟨_, a1, ss_wipe vs a2⟩
theorem b_pre (vs : List Nat) (h : PDB X rest s) : PDB X rest (dPre vs s) := by
  obtain ⟨t1, a1, a2⟩ := h.ex
  exact ⟨_, a1, ⟨fun {F κ G σ ρ M H D o} S E h k => a2.run S (E.wipe vs) h k⟩⟩
theorem s_wipe (vs : List Nat) (h : PDS X st s) : PDS X st (dWipe vs s) := by
  obtain ⟨t1, a1, a2⟩ := h.ex
  exact ⟨_, a1, ss_wipe vs a2⟩
theorem s_pass : PDS X (.Pass pos) dPass := ⟨_, ps_pass, ss_pass⟩
theorem s_break : PDS X (.Break pos) dBreak := ⟨_, ps_break, ss_break⟩
theorem s_cont : PDS X (.Continue pos) dCont := ⟨_, ps_continue, ss_cont⟩
theorem s_never : PDS X st dNever := ⟨_, ps_never, ss_never⟩
theorem s_set (i : Nat) {y : Str} {pos' : Pos} (hN : X.N.Nodup) (he : PD X e de) (hi : X.N[i]? = some y := by rfl) (hx : Loc X.env.scope y := by first | exact Or.inl rfl | exact Or.inr rfl) (hs : swapsWith e (some (.Name y pos')) pos.line X.env = pure false := by rfl) (hf : X.fn y = true ∨ X.env.scope.names.lookup y = some .local := by first | exact .inl rfl | exact .inr rfl) :
    PDS X (.Assign [.Name y pos'] e pos) (dAsg (.name i) de) := by
  obtain ⟨t1, a1, a2⟩ := he.ex
  have h := ss_asg (tg := .name i) a2
  simp only [Tgt.tg] at h
  exact ⟨_, ps_set hN hi hx a1 hs hf, h⟩
theorem s_asg {tgt : Tgt} (he : PD X e de) (hg : PDG X tg tgt) (hs : swapsWithSole [tg] e pos.line X.env = pure false := by rfl) (hw : swappedStores [tg] e X.env = pure none := by rfl)
    (h1 : (assignEach [tg] X.env).map (·.2) = [assign tg X.env] := by rfl) : PDS X (.Assign [tg] e pos) (dAsg tgt de) := by
  obtain ⟨t1, a1, a2⟩ := he.ex
  exact ⟨_, ps_asg a1 hg.ex hs hw h1, ss_asg a2⟩
/-- name = [..] -/
theorem s_setLc (i : Nat) (c : Bool) {y : Str} {py spos : Pos} {elt iter : Expr} {ifs : List Expr} {scope : Scope} (own : List (Str × Nat)) {it : DI} {tgt : Tgt} {tt : DT} {el : DE} (hN : X.N.Nodup) (hi : PDI X tg iter it) (ok : blkC X.N X.env.scope scope own = true)
    (hg : ∀ (s : Shared) (H : Hp) (C : Addr) (cl : List (Str × Addr)) (fp : List Addr), PDG (X.blk s H scope (compEnvC scope cl C X.env) fp) tg tgt) (ht : ∀ (s : Shared) (H : Hp) (C : Addr) (cl : List (Str × Addr)) (fp : List Addr), PDTs (X.blk s H scope (compEnvC scope cl C X.env) fp) ifs tt)
    (he : ∀ (s : Shared) (H : Hp) (C : Addr) (cl : List (Str × Addr)) (fp : List Addr), PD (X.blk s H scope (compEnvC scope cl C X.env) fp) elt el)
    (hsw : swapsWith (.ListComp elt [⟨tg, iter, ifs, 0⟩] scope pos) (some (.Name y py)) spos.line X.env = pure true) (hy : X.N[i]? = some y := by rfl) (hyl : X.env.scope.names.lookup y = some .local := by rfl) (hown : ∀ i ∈ tgt.slots, i ∈ own.map (·.2) := by decide) (hc : X.calm = true := by rfl) (hs : ∀ x, foldedSetIterable iter X.env x = pure x := by intro _; rfl) :
    PDS X (.Assign [.Name y py] (.ListComp elt [⟨tg, iter, ifs, 0⟩] scope pos) spos) (dAsg (.name i) (eComp c it tgt tt el (own.map (·.2)))) := by
  obtain ⟨t1, a1, a2⟩ := hi.ex
  have h := ss_asg (tg := .name i) (sim_lc (c := c) (tg := tgt) a2 simOfT simOf hown (K := X.K) (t := tt) (el := el))
  simp only [Tgt.tg] at h
  exact ⟨_, ps_setLc hc hN hy hyl hsw a1 (blkOk_by ok) (fun s H C cl fp => (hg s H C cl fp).ex) (fun s H C cl fp => (ht s H C cl fp).can) (fun s H C cl fp => (he s H C cl fp).can) hs, h⟩
theorem s_par (i j : Nat) {y z : Str} {px py pt : Pos} {kt k2 : Nat} {pt2 : Pos} (hN : X.N.Nodup) (ha : PD X a da) (hb : PD X b db) (hi : X.N[i]? = some y := by rfl) (hj : X.N[j]? = some z := by rfl) (hij : i ≠ j := by decide)
    (hx : X.env.scope.names.lookup y = some .local := by rfl) (hy : X.env.scope.names.lookup z = some .local := by rfl) (hc : X.calm = true := by rfl)
    (hst : starEach [a, b] X.env = (false, eval a X.env) :: starEach [b] X.env := by rfl) (hst2 : starEach [b] X.env = (false, eval b X.env) :: starEach [] X.env := by rfl)
    (hw : swappedStores [.Tuple [.Name y px, .Name z py] kt pt] (.Tuple [a, b] k2 pt2) X.env = pure (some [y, z]) := by rfl)
    (hs : swapsWithSole [.Tuple [.Name y px, .Name z py] kt pt] (.Tuple [a, b] k2 pt2) pos.line X.env = pure false := by rfl) :
    PDS X (.Assign [.Tuple [.Name y px, .Name z py] kt pt] (.Tuple [a, b] k2 pt2) pos) (dPar i j da db) := by
  obtain ⟨t1, a1, a2⟩ := ha.ex
  obtain ⟨t2, b1, b2⟩ := hb.ex
  exact ⟨_, ps_par hc hN hi hj hij hx hy (pa_cons a1 (pa_cons b1 pa_nil hst2) hst) hw hs, ss_par a2 b2⟩
structure AugR (X : Cx) (op : Operator) (f : O2) : Prop where
  ex : ∃ r, PIp X op r ∧ SimIp X.K r f
theorem u_add : AugR X .Add (oI fun i j => .int (i + j)) := ⟨_, ip_add, ip_addI⟩
theorem u_sub : AugR X .Sub (oI fun i j => .int (i - j)) := ⟨_, ip_sub, ip_subI⟩
theorem s_aug (i : Nat) {y : Str} {op : Operator} {f : O2} {pos' : Pos} (hN : X.N.Nodup) (hr : AugR X op f) (he : PD X e de) (hi : X.N[i]? = some y := by rfl) (hx : Loc X.env.scope y := by first | exact Or.inl rfl | exact Or.inr rfl) (hf : X.fn y = true ∨ X.env.scope.names.lookup y = some .local := by first | exact .inl rfl | exact .inr rfl) :
    PDS X (.AugAssign (.Name y pos') op e pos) (dAug i f de) := by
  obtain ⟨t1, a1, a2⟩ := he.ex
  obtain ⟨r, h1, h2⟩ := hr.ex
  exact ⟨_, ps_aug hN hi hx a1 h1 hf, ss_aug h2 a2⟩
theorem s_put {o i : Expr} {do_ di : DE} {pos' : Pos} (ho : PD X o do_) (hi : PD X i di) (he : PD X e de)
    (ha : ∀ v, assign (.Subscript o i pos') X.env v = (do
      let ov ← holding [v] (eval o X.env)
      let iv ← holding [v, ov] (eval i X.env)
      standAt pos'
      holding [v, ov, iv] (setItem ov iv v)
      release [v, ov, iv] []) := by intro _; rfl)
    (hs : swapsWithSole [.Subscript o i pos'] e pos.line X.env = pure false := by rfl) (hw : swappedStores [.Subscript o i pos'] e X.env = pure none := by rfl)
    (h1 : (assignEach [.Subscript o i pos'] X.env).map (·.2) = [assign (.Subscript o i pos') X.env] := by rfl) : PDS X (.Assign [.Subscript o i pos'] e pos) (dPut do_ di de) := by
  obtain ⟨t1, a1, a2⟩ := ho.ex
  obtain ⟨t2, b1, b2⟩ := hi.ex
  obtain ⟨t3, c1, c2⟩ := he.ex
  exact ⟨_, ps_asg c1 (pg_sub a1 b1 set_list ha) hs hw h1, ss_put a2 b2 c2⟩
theorem s_expr (he : PD X e de) (hs : swapsWith e none pos.line X.env = pure false := by rfl) : PDS X (.Expr e pos) (dExpr de) := by
  obtain ⟨t1, a1, a2⟩ := he.ex
  exact ⟨_, ps_expr a1 hs, ss_expr a2⟩
theorem s_ret (he : PD X e de) : PDS X (.Return (some e) pos) (dRet de) := by
  obtain ⟨t1, a1, a2⟩ := he.ex
  exact ⟨_, ps_ret a1, ss_ret a2⟩
theorem s_retN : PDS X (.Return none pos) dRetN := ⟨_, ps_retN, ss_retN⟩
theorem s_if {x y : List Stmt} {tc : DT} (hc : PDT X c tc) (ha : PDB X x s) (hb : PDB X y t) : PDS X (.If c x y pos) (dIf tc s t) := by
  obtain ⟨t1, a1, a2⟩ := hc.ex
  obtain ⟨t2, b1, b2⟩ := ha.ex
  obtain ⟨t3, c1, c2⟩ := hb.ex
  exact ⟨_, ps_if a1 b1 c1, ss_if a2 b2 c2⟩
theorem s_for {iter : Expr} {body : List Stmt} {it : DI} {tgt : Tgt} (hi : PDI X tg iter it) (hg : PDG X tg tgt) (hb : PDB X body s) (hp : PassesOwn (model X.prog X.w) X.A X.env X.xe := by exact PassesOwn.never) (hc : X.calm = true := by rfl) (hs : ∀ x, foldedSetIterable iter X.env x = pure x := by intro _; rfl) : PDS X (.For tg iter body [] pos) (dFor it tgt s) := by
  obtain ⟨t1, a1, a2⟩ := hi.ex
  obtain ⟨t3, c1, c2⟩ := hb.ex
  exact ⟨_, ps_for hp hc a1 hg.ex c1 hs, ss_for a2 c2⟩
theorem s_while {body : List Stmt} {tc : DT} (hc : PDT X c tc) (hb : PDB X body s) (hp : PassesOwn (model X.prog X.w) X.A X.env X.xe := by exact PassesOwn.never) : PDS X (.While c body [] pos) (dWhile tc s) := by
  obtain ⟨t1, a1, a2⟩ := hc.ex
  obtain ⟨t3, c1, c2⟩ := hb.ex
  exact ⟨_, ps_while hp a1 c1, ss_while a2 c2⟩
end
/-- a def by its name -/
structure Has (P : Program) (w : World) (K : PySem.W.Frag) (mg : Str → Option Value) (base : Heap) (x : Str) (k n : Nat) (df : DF) : Prop where
  ex : ∃ (f : Addr) (fd : FuncData) (ps : List Str), FnOk P w K mg base CX0 k f fd ps (spD K df n) ∧ mg x = some (.ref f) ∧ PySem.W.keepIn K (.ref f) = true ∧ Binds K fd ps []
section
variable {X : Cx} {e : Expr} {es : List Expr} {das : DA} {p pos : Pos} {x : Str} {k n : Nat} {df : DF}
theorem d_def (Hs : Has X.prog X.w X.K X.mg X.base x k n df) (hr : Room k X.A) (ha : PDA X (e :: es) das n) (hg : Gl X x := by rfl) (hdb : (x == ("__debug__" : Str)) = false := by decide) (he : starEach (e :: es) X.env = (false, eval e X.env) :: starEach es X.env := by rfl) (hpl : (backTo pos (starEach es X.env)).any (·.1) = false := by rfl) :
    PD X (.Call (.Name x p) (e :: es) [] pos) (eCall df das) := by
  obtain ⟨f, fd, ps, F, hm, hk, hb⟩ := Hs.ex
  exact d_call F hr hg hm hk hb ha hdb he hpl
theorem d_def0 (Hs : Has X.prog X.w X.K X.mg X.base x k 0 df) (hr : Room k X.A) (hg : Gl X x := by rfl) (hdb : (x == ("__debug__" : Str)) = false := by decide) : PD X (.Call (.Name x p) [] [] pos) (eCall df aNil) := by
  obtain ⟨f, fd, ps, F, hm, hk, hb⟩ := Hs.ex
  exact d_call0 F hr hg hm hk hb hdb
end
theorem bits_log {ns : List Int} (h : ∀ z ∈ ns, Builtin.Int.intBits z ≤ 1048576) : ∀ z ∈ ns, z.natAbs.log2 < 1048577 := fun z hz => by
  have q := h z hz
  unfold Builtin.Int.intBits at q
  split at q
  · rename_i e
    have e2 : z = 0 := by simpa using e
    subst e2
    decide
  · omega
/-- the law's own promise, from what it does -/
theorem law_sp {K : PySem.W.Frag} {H : Hp} {a : Addr} {ns : List Int} {f : DF} {M' : DSt} (hS : SqL K H a (ns.map V.int)) (h : f [.r (ns.map D.int)] [] = some (.d (.bl true), M')) : spD K f 1 [.ref a] H (fun v _ => v = .bl true) fun _ _ _ => False :=
  ⟨⟨fun _ => none, fun _ => none⟩, [], H, [], [.r (ns.map D.int)], .d (.bl true), M', ⟨Evl.Ex.refl _, fun _ _ e => (nomatch e), fun _ _ e => (nomatch e), fun _ _ e => (nomatch e), fun _ _ e => (nomatch e), fun _ _ e => (nomatch e), fun _ h => (nomatch h), fun n a ds e => by simp at e, rfl, List.Pairwise.nil, fun _ h => (nomatch h), fun n ds e => by simp at e⟩,
    .cons ⟨a, _, rfl, hS, Rvs.of_ints ns⟩ .nil, rfl, h, fun _ _ _ _ _ _ r => by cases r; rfl⟩
end Rw
end PRwRules2
section PRwExt
set_option Elab.async false
set_option linter.all false
set_option maxRecDepth 100000
set_option maxHeartbeats 2000000
/-! RwExt: the layer keeps the further constructs. -/
namespace Rw
open PySem L2 PySem.Spec PyProof.Rows
open Evl (Ex)
/-! ### a def that calls itself -/
theorem fn_none {P : Program} {w : World} {K : PySem.W.Frag} {mg : Str → Option Value} {base : Heap} {k n : Nat} {f : Addr} {fd : FuncData} {ps : List Str} : FnOk P w K mg base CX0 k f fd ps (spD K (fun _ _ => none) n) :=
  have no : ∀ vs H Q E, ¬ spD K (fun _ _ => none) n vs H Q E := fun vs H Q E h => by
    obtain ⟨_, _, _, _, _, _, _, _, _, _, h, _⟩ := h
    cases h
  ⟨fun vs H Q E h => (no _ _ _ _ h).elim, fun A outer s H args us vs Q E hr he hb hv h => (no _ _ _ _ h).elim⟩
section
variable {K : PySem.W.Frag}
/-! ### range of three -/
theorem fits_of {x : Int} (h : -1000000000000 ≤ x) (h' : x ≤ 1000000000000) : Builtin.Range.rangeFitsLong x = true := by
  unfold Builtin.Range.rangeFitsLong
  rw [Bool.and_eq_true]
  exact ⟨decide_eq_true (by omega), decide_eq_true (by omega)⟩
theorem size_bd {i j c : Int} (hc : c ≠ 0) (hi : -1000000000 ≤ i ∧ i ≤ 1000000000) (hj : -1000000000 ≤ j ∧ j ≤ 1000000000) : 0 ≤ Builtin.Range.rangeSize i j c ∧ Builtin.Range.rangeSize i j c ≤ 3000000000 := by
  unfold Builtin.Range.rangeSize
  by_cases h : c > 0
  · rw [if_pos h]
    by_cases h2 : i < j
    · rw [if_pos h2]
      have a := Int.ediv_nonneg (show 0 ≤ j - i - 1 by omega) (show 0 ≤ c by omega)
      have b := Int.ediv_le_self c (show 0 ≤ j - i - 1 by omega)
      omega
    · rw [if_neg h2]
      omega
  · rw [if_neg h]
    by_cases h2 : i > j
    · rw [if_pos h2]
      have a := Int.ediv_nonneg (show 0 ≤ i - j - 1 by omega) (show 0 ≤ -c by omega)
      have b := Int.ediv_le_self (-c) (show 0 ≤ i - j - 1 by omega)
      omega
    · rw [if_neg h2]
      omega
theorem rgC_of {i j c : Int} (hc : c ≠ 0) (c0 : -1000000 ≤ c) (c1 : c ≤ 1000000) (hi : -1000000000 ≤ i ∧ i ≤ 1000000000) (hj : -1000000000 ≤ j ∧ j ≤ 1000000000) : RgC i j c (szC i j c) := by
  obtain ⟨s0, s1⟩ := size_bd hc hi hj
  refine ⟨hc, by omega, ?_, ?_⟩
  · unfold Builtin.Range.small
    rw [fits_of (by omega) (by omega), fits_of (by omega) (by omega), fits_of (by omega) (by omega), fits_of (by omega) (by omega)]
    simp only [Bool.true_and]
    rw [Bool.or_eq_true]
    right
    split
    · exact fits_of (by omega) (by omega)
    · exact fits_of (by omega) (by omega)
  · have : (szC i j c : Int) = Builtin.Range.rangeSize i j c := by
      unfold szC
      rw [show (if c > 0 then (if i < j then (j - i - 1) / c + 1 else 0) else (if i > j then (i - j - 1) / (-c) + 1 else 0)) = Builtin.Range.rangeSize i j c from rfl]
      omega
    exact this.symm
theorem rxs3 {κ : List Addr} {G : Hp} {us : List V} {x y z : Dv} (r : Rxs K κ G us [x, y, z]) : ∃ u v w, us = [u, v, w] ∧ Rx K κ G u x ∧ Rx K κ G v y ∧ Rx K κ G w z := by
  cases r with
  | cons a r =>
    cases r with
    | cons b r =>
      cases r with
      | cons c r =>
        cases r
        exact ⟨_, _, _, rfl, a, b, c⟩
theorem rngC_length (i c : Int) (n : Nat) : (rngC i c n).length = n := by simp [rngC]
theorem rngC_get {a c : Int} {n i : Nat} (h : i < n) : (rngC a c n)[i]? = some (.int (a + (i : Int) * c)) := by unfold rngC; simp [h]
theorem sim_iR3 {ta : TA} {a : DA} (ha : SimA K ta a) : SimI K (iRng3 ta) (iR3 a) := ⟨fun {F κ G σ ρ M H xs src M' R} S E h k => by
  unfold iR3 at h
  split at h
  · rename_i lo j c M1 e
    obtain ⟨⟨hc, c0, c1, i0, i1, j0, j1⟩, h⟩ := grd_some h
    cases h
    refine ha.run S E e fun κ1 G1 us H1 l1 S1 r1 => ?_
    obtain ⟨u, v, w, rfl, ru, rv, rw'⟩ := rxs3 r1
    obtain rfl := rx_int ru
    obtain rfl := rx_int rv
    obtain rfl := rx_int rw'
    refine ⟨lo, j, c, szC lo j c, rfl, rgC_of hc c0 c1 ⟨i0, i1⟩ ⟨j0, j1⟩, ?_⟩
    refine k κ1 G1 H1 (Itc lo c (szC lo j c)) (fun _ => True) (YFn fun i => .int (lo + (i : Nat) * c)) l1 S1 (by rw [rngC_length]; exact walk_rangeC) (fun _ _ _ _ _ _ _ _ => trivial) fun i F2 κ2 G2 M2 H2 x H3 hi l2 S2 st y => ?_
    obtain ⟨rfl, rfl⟩ := y
    rw [rngC_length] at hi
    exact ⟨G2, _, Ex.refl _, S2, rngC_get hi, .int _⟩
  · cases h⟩
/-! ### the greatest, the least of a list of ints -/
theorem maxZ_mem : ∀ {ns : List Int}, 0 < ns.length → maxZ ns ∈ ns
  | [], h => by simp at h
  | [x], _ => by simp [maxZ]
  | x :: y :: r, _ => by
    have ih := maxZ_mem (ns := y :: r) (by simp)
    unfold maxZ
    rw [Int.max_def]
    split
    · exact List.mem_cons_of_mem _ ih
    · simp
theorem maxZ_ge : ∀ {ns : List Int} {x : Int}, x ∈ ns → x ≤ maxZ ns
  | [], x, h => by cases h
  | [y], x, h => by
    simp at h
    subst h
    simp [maxZ]
  | z :: y :: r, x, h => by
    unfold maxZ
    rcases List.mem_cons.mp h with rfl | h
    · omega
    · have := maxZ_ge (ns := y :: r) h
      omega
theorem minZ_mem : ∀ {ns : List Int}, 0 < ns.length → minZ ns ∈ ns
  | [], h => by simp at h
  | [x], _ => by simp [minZ]
  | x :: y :: r, _ => by
    have ih := minZ_mem (ns := y :: r) (by simp)
    unfold minZ
    rw [Int.min_def]
    split
    · simp
    · exact List.mem_cons_of_mem _ ih
theorem minZ_le : ∀ {ns : List Int} {x : Int}, x ∈ ns → minZ ns ≤ x
  | [], x, h => by cases h
  | [y], x, h => by
    simp at h
    subst h
    simp [minZ]
  | z :: y :: r, x, h => by
    unfold minZ
    rcases List.mem_cons.mp h with rfl | h
    · omega
    · have := minZ_le (ns := y :: r) h
      omega
theorem sa_max1 : SimRA K (rMax K) oMax1 := fun {F κ G M H Q xs z M' us} S r h k => by
  unfold oMax1 at h
  split at h
  · split at h
    · rename_i xs e
      split at h
      · rename_i ns en
        obtain ⟨hp, h⟩ := grd_some h
        cases h
        obtain ⟨u, rfl, a⟩ := rxs1 r
        obtain ⟨p, vs, rfl, hs, rr⟩ := lv_at S a e
        rw [rr.ints_of en] at hs
        refine ⟨p, ns, rfl, hs, hp, fun m hm hg => ?_⟩
        have : m = maxZ ns := Int.le_antisymm (maxZ_ge hm) (hg _ (maxZ_mem hp))
        subst this
        exact k.here S (Rv.int _)
      · cases h
    · cases h
  · cases h
theorem sa_min1 : SimRA K (rMin K) oMin1 := fun {F κ G M H Q xs z M' us} S r h k => by
  unfold oMin1 at h
  split at h
  · split at h
    · rename_i xs e
      split at h
      · rename_i ns en
        obtain ⟨hp, h⟩ := grd_some h
        cases h
        obtain ⟨u, rfl, a⟩ := rxs1 r
        obtain ⟨p, vs, rfl, hs, rr⟩ := lv_at S a e
        rw [rr.ints_of en] at hs
        refine ⟨p, ns, rfl, hs, hp, fun m hm hg => ?_⟩
        have : m = minZ ns := Int.le_antisymm (hg _ (minZ_mem hp)) (minZ_le hm)
        subst this
        exact k.here S (Rv.int _)
      · cases h
    · cases h
  · cases h
/-! ### xs.reverse() -/
theorem sm_reverse : SimRM K "list" rReverse mReverse := fun {F κ G M H Q x xs z M' u us} S r rs h k => by
  unfold mReverse at h
  split at h
  · rename_i n
    split at h
    · rename_i ys e
      cases h
      obtain ⟨a, rfl, ha⟩ := r
      obtain ⟨vs, _, _, e3, e4⟩ := cell_at S e ha
      refine ⟨a, vs, rfl, rxs0 rs, e3, ?_⟩
      exact k κ G _ _ (Le.refl _ _) (S.put e ha e4.reverse) Rv.non
    · cases h
  · cases h
theorem lm_reverse : ∀ v as M z, mReverse v as M = some z → ∃ n, v = .c n := fun v as M z h => by
  unfold mReverse at h
  split at h
  · exact ⟨_, rfl⟩
  · cases h
/-! ### o[i] op= e -/
def rGetL : V → V → Hp → VK → Prop := fun o i H Q => ∃ p xs k j z, o = .ref p ∧ i = .int k ∧ H p = some (.lst xs) ∧ ixN xs.length k = some j ∧ xs[j]? = some z ∧ Q z H
theorem get_list {X : Cx} : PGet X rGetL := by
  intro pins s σ H o i ov iv Q I ro ri h
  obtain ⟨p, xs, k, j, z, rfl, rfl, hp, hj, hz, q⟩ := h
  cases ro
  obtain ⟨t, rfl⟩ := ri
  obtain ⟨its, r, pl, hsz⟩ := I.list (SqL.of hp)
  obtain ⟨w, ew, rw'⟩ := r.get hz
  have hl := r.length
  have hn := line63
  have fin : EP X pins σ Q w s := ⟨z, H, I, rw', q⟩
  have hjl : j < xs.length := (List.getElem?_eq_some_iff.mp hz).1
  unfold ixN at hj
  by_cases h0 : 0 ≤ k
  · rw [if_pos h0] at hj
    split at hj
    · rename_i hk
      have ej : k.toNat = j := Option.some.inj hj
      exact wpAny_getItem_list pl.isList h0 (by omega) (by rw [ej]; simpa using ew) fin
    · cases hj
  · rw [if_neg h0] at hj
    split at hj
    · rename_i hk
      have ej : (k + (xs.length : Int)).toNat = j := Option.some.inj hj
      refine wpAny_getItem_list_neg pl.isList (by omega) (by rw [List.size_toArray] <;> omega) (by omega) ?_ fin
      rw [List.size_toArray, ← hl, ej]
      simpa using ew
    · cases hj
theorem ss_augS {to ti te : TE} {o i e : DE} {r : TIp} {f : O2} (hr : SimIp K r f) (ho : SimE K to o) (hi : SimE K ti i) (he : SimE K te e) : SimS K (tAugS to ti te rGetL r rSetL) (dAugS f o i e) := ⟨fun {F κ G σ ρ M H D oo} S E h k => by
  unfold dAugS at h
  split at h
  · rename_i n M1 e1
    split at h
    · rename_i kk M2 e2
      split at h
      · rename_i xs ex
        split at h
        · rename_i j ej
          split at h
          · rename_i x exj
            split at h
            · rename_i y M3 e3
              split at h
              · rename_i z M4 e4
                split at h
                · rename_i ys ey
                  split at h
                  · rename_i hl
                    cases h
                    refine ho.run S E e1 fun κ1 G1 u H1 l1 S1 r1 => hi.run S1 (E.mono l1) e2 fun κ2 G2 v H2 l2 S2 r2 => ?_
                    obtain ⟨a, rfl, ha⟩ := r1.mono l2
                    obtain ⟨us, _, _, q3, q4⟩ := cell_at S2 ex ha
                    obtain ⟨w, hw, rw'⟩ := q4.get exj
                    refine ⟨a, us, kk, j, w, rfl, rx_int r2, q3, by rw [q4.length, ← ixD_eq]; exact ej, hw, ?_⟩
                    refine he.run S2 ((E.mono l1).mono l2) e3 fun κ3 G3 y' H3 l3 S3 r3 => hr S3 (show Rx K κ3 G3 w (.d x) from Rv.mono l3.ex rw') r3 e4 fun κ4 G4 z' H4 l4 S4 r4 => ?_
                    have ha4 := l4.at_ (l3.at_ ha)
                    obtain ⟨us4, _, _, p3, p4⟩ := cell_at S4 ey ha4
                    refine ⟨a, us4, kk, j, rfl, rx_int r2, p3, by rw [p4.length, hl, ← ixD_eq]; exact ej, ?_⟩
                    exact k κ4 G4 σ _ (((l1.trans l2).trans l3).trans l4) (S4.put ey ha4 (p4.set r4 j)) ((((E.mono l1).mono l2).mono l3).mono l4)
                  · cases h
                · cases h
              · cases h
            · cases h
          · cases h
        · cases h
      · cases h
    · cases h
  · cases h⟩
end
section
variable {X : Cx} {a b c e o i : Expr} {pos : Pos} {da db dc de do_ di : DE} {es : List Expr} {das : DA} {n : Nat} {p : Pos} {tg : Expr}
theorem i_r3 (hm : X.mg "range" = none) (ha : PDA X [a, b, c] das n) (hg : Gl X "range" := by rfl) (hs : starEach [a, b, c] X.env = (false, eval a X.env) :: starEach [b, c] X.env := by rfl) (hpl : (backTo pos (starEach [b, c] X.env)).any (·.1) = false := by rfl) : PDI X tg (.Call (.Name "range" p) [a, b, c] [] pos) (iR3 das) := by
  obtain ⟨t, h1, h2⟩ := ha.ex
  exact ⟨_, pi_range3 hg hm h1 hs hpl, sim_iR3 h2⟩
theorem d_max1 (hm : X.mg "max" = none) (ha : PDA X (e :: es) das n) (hc : X.calm = true := by rfl) (hg : Gl X "max" := by rfl) (he : starEach (e :: es) X.env = (false, eval e X.env) :: starEach es X.env := by rfl) (hpl : (backTo pos (starEach es X.env)).any (·.1) = false := by rfl) : PD X (.Call (.Name "max" p) (e :: es) [] pos) (eA oMax1 das) := d_bi (x := "max") (cr_max hc) sa_max1 hg hm (by decide +kernel) ha (he := he) (hpl := hpl)
theorem d_min1 (hm : X.mg "min" = none) (ha : PDA X (e :: es) das n) (hc : X.calm = true := by rfl) (hg : Gl X "min" := by rfl) (he : starEach (e :: es) X.env = (false, eval e X.env) :: starEach es X.env := by rfl) (hpl : (backTo pos (starEach es X.env)).any (·.1) = false := by rfl) : PD X (.Call (.Name "min" p) (e :: es) [] pos) (eA oMin1 das) := d_bi (x := "min") (cr_min hc) sa_min1 hg hm (by decide +kernel) ha (he := he) (hpl := hpl)
theorem d_reverse {apos : Pos} (ho : PD X a da) (hbase : attributeBase a "reverse" X.env (eval a X.env) = eval a X.env := by rfl) (hline : (apos.endLine == pos.line) = true := by rfl) : PD X (.Call (.Attribute a "reverse" apos) [] [] pos) (eM mReverse da aNil) := by
  obtain ⟨t, h1, h2⟩ := ho.ex
  exact ⟨_, pe_bm0 PySem.F.plainAttrs_list PySem.F.slot_list_reverse PySem.F.type_list_reverse mt_reverse h1 hbase hline, sim_bm0 sm_reverse lm_reverse h2⟩
theorem s_augS {op : Operator} {f : O2} {tpos : Pos} (hr : AugR X op f) (ho : PD X o do_) (hi : PD X i di) (he : PD X e de) (ha : ∀ ov iv new, augStore i ov iv new = (do holding [new, ov, iv] (setItem ov iv new); release [new, ov, iv] []; pure .next) := by intros; rfl) :
    PDS X (.AugAssign (.Subscript o i tpos) op e pos) (dAugS f do_ di de) := by
  obtain ⟨t1, a1, a2⟩ := ho.ex
  obtain ⟨t2, b1, b2⟩ := hi.ex
  obtain ⟨t3, c1, c2⟩ := he.ex
  obtain ⟨r, h1, h2⟩ := hr.ex
  exact ⟨_, ps_augS a1 b1 get_list c1 h1 set_list ha, ss_augS h2 a2 b2 c2⟩
end
/-! ### <= of two tuples of two ints -/
theorem sr_leT {K : PySem.W.Frag} : SimR2 K (rLeT K) oLeT := fun {F κ G M H Q x y z M' u v} S rx ry h k => by
  unfold oLeT at h
  split at h
  · rename_i a b c d
    cases h
    cases rx with
    | tup sx vx =>
      rename_i p us
      cases ry with
      | tup sy vy =>
        rename_i q vs
        have e1 := Rvs.ints_of vx (ns := [a, b]) rfl
        have e2 := Rvs.ints_of vy (ns := [c, d]) rfl
        subst e1
        subst e2
        refine ⟨p, q, [a, b], [c, d], rfl, rfl, Evl.ex_t S.ex sx, Evl.ex_t S.ex sy, ?_⟩
        have ev : Ob.lexAt (fun j => decide (([a, b] : List Int).getD j 0 = ([c, d] : List Int).getD j 0)) (fun j => decide (([a, b] : List Int).getD j 0 ≤ ([c, d] : List Int).getD j 0)) (decide (([a, b] : List Int).length ≤ ([c, d] : List Int).length)) 0 (min ([a, b] : List Int).length ([c, d] : List Int).length) = (if a = c then decide (b ≤ d) else decide (a ≤ c)) := by
          show (if decide (a = c) = true then (if decide (b = d) = true then decide ((2 : Nat) ≤ 2) else decide (b ≤ d)) else decide (a ≤ c)) = _
          by_cases h1 : a = c
          · by_cases h2 : b = d
            · simp [h1, h2]
            · simp [h1, h2]
          · simp [h1]
        rw [ev]
        exact k.here S (Rv.bl _)
  · cases h
theorem k_leT {X : Cx} {k : Nat} (hr : Room k X.A) : CmpR X .LtE oLeT := ⟨_, op_leT (Nat.lt_of_le_of_lt (Nat.le_add_right _ 64) hr.units), sr_leT⟩
end Rw
end PRwExt
section PRwOk
set_option autoImplicit false
set_option linter.all false
set_option maxRecDepth 100000
/-! RwOk: what a pure reading comes to, pushed through its parts by simp. -/
namespace Rw
open PySem (Str)
/-- it comes to something of which P holds -/
def Ok {α : Type} (o : Option α) (P : α → Prop) : Prop := ∃ x, o = some x ∧ P x
section
variable {α β : Type} {P : α → Prop} {ρ : DEnv} {M : DSt}
@[simp ↓] theorem ok_some {x : α} : Ok (some x) P ↔ P x := ⟨fun ⟨y, e, h⟩ => by cases e; exact h, fun h => ⟨x, rfl, h⟩⟩
@[simp ↓] theorem ok_none : Ok (none : Option α) P ↔ False := ⟨fun ⟨y, e, h⟩ => (nomatch e), fun h => h.elim⟩
@[simp ↓] theorem ok_grd {p : Prop} {o : Option α} : Ok (grd p o) P ↔ p ∧ Ok o P := by
  constructor
  · rintro ⟨x, e, h⟩
    obtain ⟨a, b⟩ := grd_some e
    exact ⟨a, x, b, h⟩
  · rintro ⟨a, x, b, h⟩
    exact ⟨x, by rw [grd_ok a]; exact b, h⟩
theorem Ok.mono {o : Option α} {Q : α → Prop} (h : Ok o P) (k : ∀ x, P x → Q x) : Ok o Q := let ⟨x, e, p⟩ := h; ⟨x, e, k x p⟩
theorem Ok.of {o : Option α} {x : α} (e : o = some x) (h : P x) : Ok o P := ⟨x, e, h⟩
theorem ok_eq {o : Option α} {x : α} (h : Ok o fun y => y = x) : o = some x := let ⟨_, e, p⟩ := h; p ▸ e
end
/-- the value of a slot; a value of a kind -/
def getV : DEnv → Nat → Option Dv
  | [], _ => none
  | x :: _, 0 => x
  | _ :: r, i + 1 => getV r i
theorem getV_eq : ∀ (ρ : DEnv) (i : Nat), getV ρ i = (ρ[i]?).join
  | [], _ => by simp [getV]
  | x :: r, 0 => by simp [getV]
  | x :: r, i + 1 => by simp [getV, getV_eq r i]
def asB : Dv → Option Bool
  | .d (.bl b) => some b
  | _ => none
def asI : Dv → Option Int
  | .d (.int b) => some b
  | _ => none
def asD : Dv → Option D
  | .d x => some x
  | _ => none
def asC : Dv → Option Nat
  | .c n => some n
  | _ => none
/-- the cell n of the store -/
def cel (M : DSt) (n : Nat) : Option (List D) := (M[n]?).join
/-- the item at a place -/
def atD (xs : List D) (i : Int) : Option D := match ixD xs.length i with
  | some k => xs[k]?
  | none => none
section
variable {α : Type} {x : Dv} {y : Option Dv} {r : DEnv} {i : Nat} {P : Dv → Prop}
@[simp ↓] theorem ok_getV0 : Ok (getV (some x :: r) 0) P ↔ P x := by simp [getV]
@[simp ↓] theorem ok_getV0n : Ok (getV (none :: r) 0) P ↔ False := by simp [getV]
@[simp ↓] theorem ok_getVs : Ok (getV (y :: r) (i + 1)) P ↔ Ok (getV r i) P := by simp [getV]
@[simp ↓] theorem ok_asB {b : Bool} {P : Bool → Prop} : Ok (asB (.d (.bl b))) P ↔ P b := by simp [asB]
@[simp ↓] theorem ok_asI {b : Int} {P : Int → Prop} : Ok (asI (.d (.int b))) P ↔ P b := by simp [asI]
@[simp ↓] theorem ok_asD {b : D} {P : D → Prop} : Ok (asD (.d b)) P ↔ P b := by simp [asD]
@[simp ↓] theorem ok_asC {b : Nat} {P : Nat → Prop} : Ok (asC (.c b)) P ↔ P b := by simp [asC]
theorem celOk {M : DSt} {n : Nat} {xs : List D} (h : M[n]? = some (some xs)) (P : List D → Prop) : Ok (cel M n) P ↔ P xs := by simp [cel, h]
end
section
variable {ρ : DEnv} {M : DSt} {P : Dv × DSt → Prop}
@[simp ↓] theorem ok_var {i : Nat} : Ok (eVar i ρ M) P ↔ Ok (getV ρ i) fun x => P (x, M) := by
  unfold eVar
  rw [getV_eq]
  cases e : ρ[i]? with
  | none => simp
  | some o => cases o <;> simp
@[simp ↓] theorem ok_c {d : D} : Ok (eC d ρ M) P ↔ P (.d d, M) := by simp [eC]
@[simp ↓] theorem ok_e1 {f : O1} {a : DE} : Ok (e1 f a ρ M) P ↔ Ok (a ρ M) fun p => Ok (f p.1 p.2) P := by
  unfold e1
  cases a ρ M <;> simp
@[simp ↓] theorem ok_e2 {f : O2} {a b : DE} : Ok (e2 f a b ρ M) P ↔ Ok (a ρ M) fun p => Ok (b ρ p.2) fun q => Ok (f p.1 q.1 q.2) P := by
  unfold e2
  cases a ρ M with
  | none => simp
  | some p =>
    obtain ⟨x, M1⟩ := p
    simp only [ok_some]
    cases b ρ M1 <;> simp
@[simp ↓] theorem ok_aNil {P : List Dv × DSt → Prop} : Ok (aNil ρ M) P ↔ P ([], M) := by simp [aNil]
@[simp ↓] theorem ok_aCons {a : DE} {as : DA} {P : List Dv × DSt → Prop} : Ok (aCons a as ρ M) P ↔ Ok (a ρ M) fun p => Ok (as ρ p.2) fun q => P (p.1 :: q.1, q.2) := by
  unfold aCons
  cases a ρ M with
  | none => simp
  | some p =>
    obtain ⟨x, M1⟩ := p
    simp only [ok_some]
    cases as ρ M1 <;> simp
@[simp ↓] theorem ok_eA {f : OA} {as : DA} : Ok (eA f as ρ M) P ↔ Ok (as ρ M) fun p => Ok (f p.1 p.2) P := by
  unfold eA
  cases as ρ M <;> simp
@[simp ↓] theorem ok_call {f : DF} {as : DA} : Ok (eCall f as ρ M) P ↔ Ok (as ρ M) fun p => Ok (f p.1 p.2) P := by
  unfold eCall
  exact ok_eA
@[simp ↓] theorem ok_eM {f : Dv → List Dv → DSt → Option (Dv × DSt)} {a : DE} {as : DA} : Ok (eM f a as ρ M) P ↔ Ok (a ρ M) fun p => Ok (as ρ p.2) fun q => Ok (f p.1 q.1 q.2) P := by
  unfold eM
  cases a ρ M with
  | none => simp
  | some p =>
    obtain ⟨x, M1⟩ := p
    simp only [ok_some]
    cases as ρ M1 <;> simp
@[simp ↓] theorem ok_eTup {as : DA} : Ok (eTup as ρ M) P ↔ Ok (as ρ M) fun p => Ok (allD p.1) fun xs => xs.length ≤ big ∧ P (.d (.tup xs), p.2) := by
  unfold eTup
  rw [ok_eA]
  constructor <;> (intro h; refine h.mono fun p hp => ?_) <;> (cases e : allD p.1 <;> simp [e] at hp ⊢ <;> exact hp)
@[simp ↓] theorem ok_eLst {c : Bool} {as : DA} : Ok (eLst c as ρ M) P ↔ Ok (as ρ M) fun p => Ok (allD p.1) fun xs => xs.length ≤ big ∧ Ok (mkL c xs p.2) P := by
  unfold eLst
  rw [ok_eA]
  constructor <;> (intro h; refine h.mono fun p hp => ?_) <;> (cases e : allD p.1 <;> simp [e] at hp ⊢ <;> exact hp)
@[simp ↓] theorem ok_chain {f g : O2} {a b c : DE} : Ok (eChain f g a b c ρ M) P ↔ Ok (a ρ M) fun p => Ok (b ρ p.2) fun q => Ok (f p.1 q.1 q.2) fun r => Ok (asB r.1) fun k => if k = true then Ok (c ρ r.2) fun s => Ok (g q.1 s.1 s.2) P else P (.d (.bl false), r.2) := by
  unfold eChain
  cases a ρ M with
  | none => simp
  | some p =>
    obtain ⟨x, M1⟩ := p
    simp only [ok_some]
    cases b ρ M1 with
    | none => simp
    | some q =>
      obtain ⟨y, M2⟩ := q
      simp only [ok_some]
      cases f x y M2 with
      | none => simp
      | some r =>
        obtain ⟨z, M3⟩ := r
        simp only [ok_some]
        cases z with
        | c n => simp [asB]
        | r n => simp [asB]
        | d z =>
          cases z with
          | bl k =>
            cases k
            · simp
            · simp only [ok_asB, if_true]
              cases c ρ M3 <;> simp
          | _ => simp [asB]
@[simp ↓] theorem ok_eAnd {a b : DE} : Ok (eAnd a b ρ M) P ↔ Ok (a ρ M) fun p => Ok (asB p.1) fun k => if k = true then Ok (b ρ p.2) P else P (.d (.bl false), p.2) := by
  unfold eAnd
  cases a ρ M with
  | none => simp
  | some p =>
    obtain ⟨z, M3⟩ := p
    cases z with
    | c n => simp [asB]
    | r n => simp [asB]
    | d z =>
      cases z with
      | bl k => cases k <;> simp
      | _ => simp [asB]
@[simp ↓] theorem ok_eOr {a b : DE} : Ok (eOr a b ρ M) P ↔ Ok (a ρ M) fun p => Ok (asB p.1) fun k => if k = true then P (.d (.bl true), p.2) else Ok (b ρ p.2) P := by
  unfold eOr
  cases a ρ M with
  | none => simp
  | some p =>
    obtain ⟨z, M3⟩ := p
    cases z with
    | c n => simp [asB]
    | r n => simp [asB]
    | d z =>
      cases z with
      | bl k => cases k <;> simp
      | _ => simp [asB]
@[simp ↓] theorem ok_eNot {a : DE} : Ok (eNot a ρ M) P ↔ Ok (a ρ M) fun p => Ok (asB p.1) fun k => P (.d (.bl (!k)), p.2) := by
  unfold eNot
  cases a ρ M with
  | none => simp
  | some p =>
    obtain ⟨z, M3⟩ := p
    cases z with
    | c n => simp [asB]
    | r n => simp [asB]
    | d z =>
      cases z with
      | bl k => cases k <;> simp
      | _ => simp [asB]
@[simp ↓] theorem ok_eIf {t : DT} {a b : DE} : Ok (eIf t a b ρ M) P ↔ Ok (t ρ M) fun p => if p.1 = true then Ok (a ρ p.2) P else Ok (b ρ p.2) P := by
  unfold eIf
  cases t ρ M with
  | none => simp
  | some p =>
    obtain ⟨k, M3⟩ := p
    cases k <;> simp
@[simp ↓] theorem ok_eFrz {a : DE} : Ok (eFrz a ρ M) P ↔ Ok (a ρ M) fun p => Ok (frz M.length p) P := by
  unfold eFrz
  cases a ρ M <;> simp
@[simp ↓] theorem ok_eFrzC {a : DE} : Ok (eFrzC a ρ M) P ↔ Ok (a ρ M) fun p => Ok (asC p.1) fun n => Ok (cel p.2 n) fun xs => P (.d (.lst xs), p.2.set n none) := by
  unfold eFrzC
  cases a ρ M with
  | none => simp
  | some p =>
    obtain ⟨z, M3⟩ := p
    cases z with
    | d z => simp [asC]
    | r n => simp [asC]
    | c n =>
      simp only [ok_some, ok_asC]
      unfold cel
      cases e : (M3[n]?).join with
      | none => simp
      | some xs => simp
@[simp ↓] theorem ok_eSl {f : Dv → Option Int → Option Int → DSt → Option (Dv × DSt)} {a : DE} {lo hi : DO} : Ok (eSl f a lo hi ρ M) P ↔ Ok (a ρ M) fun p => Ok (lo ρ p.2) fun q => Ok (hi ρ q.2) fun r => Ok (f p.1 q.1 r.1 r.2) P := by
  unfold eSl
  cases a ρ M with
  | none => simp
  | some p =>
    obtain ⟨x, M1⟩ := p
    simp only [ok_some]
    cases lo ρ M1 with
    | none => simp
    | some q =>
      obtain ⟨y, M2⟩ := q
      simp only [ok_some]
      cases hi ρ M2 <;> simp
@[simp ↓] theorem ok_pNone {P : Option Int × DSt → Prop} : Ok (pNone ρ M) P ↔ P (none, M) := by simp [pNone]
@[simp ↓] theorem ok_pSome {a : DE} {P : Option Int × DSt → Prop} : Ok (pSome a ρ M) P ↔ Ok (a ρ M) fun p => Ok (asI p.1) fun i => P (some i, p.2) := by
  unfold pSome
  cases a ρ M with
  | none => simp
  | some p =>
    obtain ⟨z, M3⟩ := p
    cases z with
    | c n => simp [asI]
    | r n => simp [asI]
    | d z => cases z <;> simp [asI]
end
section
variable {ρ : DEnv} {M : DSt} {P : Bool × DSt → Prop}
@[simp ↓] theorem ok_tVal {a : DE} : Ok (tVal a ρ M) P ↔ Ok (a ρ M) fun p => Ok (asB p.1) fun b => P (b, p.2) := by
  unfold tVal
  cases a ρ M with
  | none => simp
  | some p =>
    obtain ⟨z, M3⟩ := p
    cases z with
    | c n => simp [asB]
    | r n => simp [asB]
    | d z => cases z <;> simp [asB]
@[simp ↓] theorem ok_tAnd {a b : DT} : Ok (Rw.tAnd a b ρ M) P ↔ Ok (a ρ M) fun p => if p.1 = true then Ok (b ρ p.2) P else P (false, p.2) := by
  unfold tAnd
  cases a ρ M with
  | none => simp
  | some p =>
    obtain ⟨k, M3⟩ := p
    cases k <;> simp
@[simp ↓] theorem ok_tOr {a b : DT} : Ok (Rw.tOr a b ρ M) P ↔ Ok (a ρ M) fun p => if p.1 = true then P (true, p.2) else Ok (b ρ p.2) P := by
  unfold tOr
  cases a ρ M with
  | none => simp
  | some p =>
    obtain ⟨k, M3⟩ := p
    cases k <;> simp
@[simp ↓] theorem ok_tNot {a : DT} : Ok (Rw.tNot a ρ M) P ↔ Ok (a ρ M) fun p => P (!p.1, p.2) := by
  unfold tNot
  cases a ρ M <;> simp
@[simp ↓] theorem ok_tYes : Ok (tYes ρ M) P ↔ P (true, M) := by simp [tYes]
end
section
variable {ρ : DEnv} {M : DSt} {P : Out → Prop}
/-- what follows a statement -/
def seqP (t : DS) (P : Out → Prop) : Out → Prop
  | .nx ρ M => Ok (t ρ M) P
  | .rt v M => P (.rt v M)
  | .bk ρ M => P (.bk ρ M)
  | .ct ρ M => P (.ct ρ M)
@[simp ↓] theorem seqP_nx {t : DS} : seqP t P (.nx ρ M) ↔ Ok (t ρ M) P := Iff.rfl
@[simp ↓] theorem seqP_rt {t : DS} {v : Dv} : seqP t P (.rt v M) ↔ P (.rt v M) := Iff.rfl
@[simp ↓] theorem seqP_bk {t : DS} : seqP t P (.bk ρ M) ↔ P (.bk ρ M) := Iff.rfl
@[simp ↓] theorem seqP_ct {t : DS} : seqP t P (.ct ρ M) ↔ P (.ct ρ M) := Iff.rfl
@[simp ↓] theorem ok_seq {s t : DS} : Ok (dSeq s t ρ M) P ↔ Ok (s ρ M) (seqP t P) := by
  unfold dSeq
  cases s ρ M with
  | none => simp
  | some o => cases o <;> simp
@[simp ↓] theorem ok_pass : Ok (dPass ρ M) P ↔ P (.nx ρ M) := by simp [dPass]
@[simp ↓] theorem ok_break : Ok (dBreak ρ M) P ↔ P (.bk ρ M) := by simp [dBreak]
@[simp ↓] theorem ok_cont : Ok (dCont ρ M) P ↔ P (.ct ρ M) := by simp [dCont]
@[simp ↓] theorem ok_never : Ok (dNever ρ M) P ↔ False := by simp [dNever]
@[simp ↓] theorem ok_asg {tg : Tgt} {a : DE} : Ok (dAsg tg a ρ M) P ↔ Ok (a ρ M) fun p => Ok (tg.put p.1 ρ) fun ρ1 => P (.nx ρ1 p.2) := by
  unfold dAsg
  cases a ρ M with
  | none => simp
  | some p =>
    obtain ⟨x, M1⟩ := p
    simp only [ok_some]
    cases tg.put x ρ <;> simp
@[simp] theorem put_name {i : Nat} {v : Dv} : Tgt.put (.name i) v ρ = some (ρ.set i (some v)) := by simp [Tgt.put]
@[simp ↓] theorem ok_putN {i : Nat} {v : Dv} {P : DEnv → Prop} : Ok (Tgt.put (.name i) v ρ) P ↔ P (ρ.set i (some v)) := by simp
@[simp] theorem put_tup {ts : List Tgt} {xs : List D} : Tgt.put (.tup ts) (.d (.tup xs)) ρ = if xs.length = ts.length then Tgt.puts ts xs ρ else none := by simp [Tgt.put]
@[simp] theorem put_lst {ts : List Tgt} {xs : List D} : Tgt.put (.tup ts) (.d (.lst xs)) ρ = if xs.length = ts.length then Tgt.puts ts xs ρ else none := by simp [Tgt.put]
@[simp ↓] theorem ok_putT {ts : List Tgt} {xs : List D} {P : DEnv → Prop} : Ok (Tgt.put (.tup ts) (.d (.tup xs)) ρ) P ↔ xs.length = ts.length ∧ Ok (Tgt.puts ts xs ρ) P := by
  simp only [put_tup]
  split <;> simp_all
@[simp ↓] theorem ok_putL {ts : List Tgt} {xs : List D} {P : DEnv → Prop} : Ok (Tgt.put (.tup ts) (.d (.lst xs)) ρ) P ↔ xs.length = ts.length ∧ Ok (Tgt.puts ts xs ρ) P := by
  simp only [put_lst]
  split <;> simp_all
@[simp] theorem puts_nil : Tgt.puts [] [] ρ = some ρ := by simp [Tgt.puts]
@[simp] theorem puts_cons {t : Tgt} {ts : List Tgt} {x : D} {xs : List D} : Tgt.puts (t :: ts) (x :: xs) ρ = (t.put (.d x) ρ).bind (Tgt.puts ts xs) := by
  simp only [Tgt.puts]
  cases t.put (.d x) ρ <;> rfl
@[simp ↓] theorem ok_puts0 {P : DEnv → Prop} : Ok (Tgt.puts [] [] ρ) P ↔ P ρ := by simp
@[simp ↓] theorem ok_putsC {t : Tgt} {ts : List Tgt} {x : D} {xs : List D} {P : DEnv → Prop} : Ok (Tgt.puts (t :: ts) (x :: xs) ρ) P ↔ Ok (t.put (.d x) ρ) fun ρ1 => Ok (Tgt.puts ts xs ρ1) P := by
  rw [puts_cons]
  cases t.put (.d x) ρ <;> simp
@[simp ↓] theorem ok_par {i j : Nat} {a b : DE} : Ok (dPar i j a b ρ M) P ↔ Ok (a ρ M) fun p => Ok (b ρ p.2) fun q => P (.nx ((ρ.set i (some p.1)).set j (some q.1)) q.2) := by
  unfold dPar
  cases a ρ M with
  | none => simp
  | some p =>
    obtain ⟨x, M1⟩ := p
    simp only [ok_some]
    cases b ρ M1 <;> simp
@[simp ↓] theorem ok_aug {i : Nat} {f : O2} {a : DE} : Ok (dAug i f a ρ M) P ↔ Ok (getV ρ i) fun x => Ok (a ρ M) fun p => Ok (f x p.1 p.2) fun q => P (.nx (ρ.set i (some q.1)) q.2) := by
  unfold dAug
  rw [getV_eq]
  cases e : ρ[i]? with
  | none => simp
  | some o =>
    cases o with
    | none => simp
    | some x =>
      simp only [Option.join_some, ok_some]
      cases a ρ M with
      | none => simp
      | some p =>
        obtain ⟨y, M1⟩ := p
        simp only [ok_some]
        cases f x y M1 <;> simp
@[simp ↓] theorem ok_put {o i e : DE} : Ok (dPut o i e ρ M) P ↔ Ok (e ρ M) fun p => Ok (asD p.1) fun x => Ok (o ρ p.2) fun q => Ok (asC q.1) fun n => Ok (i ρ q.2) fun r => Ok (asI r.1) fun k => Ok (cel r.2 n) fun xs => Ok (ixD xs.length k) fun j => P (.nx ρ (setC r.2 n (xs.set j x))) := by
  unfold dPut
  cases e ρ M with
  | none => simp
  | some p =>
    obtain ⟨x, M1⟩ := p
    simp only [ok_some]
    cases x with
    | c n => simp [asD]
    | r n => simp [asD]
    | d x =>
      simp only [ok_asD]
      cases o ρ M1 with
      | none => simp
      | some q =>
        obtain ⟨y, M2⟩ := q
        simp only [ok_some]
        cases y with
        | d n => simp [asC]
        | r n => simp [asC]
        | c n =>
          simp only [ok_asC]
          cases i ρ M2 with
          | none => simp
          | some r =>
            obtain ⟨z, M3⟩ := r
            simp only [ok_some]
            cases z with
            | c n => simp [asI]
            | r n => simp [asI]
            | d z =>
              cases z with
              | int k =>
                simp only [ok_asI]
                unfold cel
                cases e1 : (M3[n]?).join with
                | none => simp
                | some xs =>
                  simp only [ok_some]
                  cases e2 : ixD xs.length k with
                  | none => simp
                  | some j => simp
              | _ => simp [asI]
@[simp ↓] theorem ok_expr {a : DE} : Ok (dExpr a ρ M) P ↔ Ok (a ρ M) fun p => P (.nx ρ p.2) := by
  unfold dExpr
  cases a ρ M <;> simp
@[simp ↓] theorem ok_ret {a : DE} : Ok (dRet a ρ M) P ↔ Ok (a ρ M) fun p => P (.rt p.1 p.2) := by
  unfold dRet
  cases a ρ M <;> simp
@[simp ↓] theorem ok_retN : Ok (dRetN ρ M) P ↔ P (.rt (.d .non) M) := by simp [dRetN]
@[simp ↓] theorem ok_if {t : DT} {a b : DS} : Ok (dIf t a b ρ M) P ↔ Ok (t ρ M) fun p => if p.1 = true then Ok (a ρ p.2) P else Ok (b ρ p.2) P := by
  unfold dIf
  cases t ρ M with
  | none => simp
  | some p =>
    obtain ⟨k, M3⟩ := p
    cases k <;> simp
@[simp ↓] theorem ok_wipe {vs : List Nat} {s : DS} : Ok (dWipe vs s ρ M) P ↔ Ok (s ρ M) fun o => P (wipeO vs o) := by
  unfold dWipe
  cases s ρ M <;> simp
@[simp ↓] theorem ok_pre {vs : List Nat} {s : DS} : Ok (dPre vs s ρ M) P ↔ Ok (s (wipeD ρ vs) M) P := Iff.rfl
@[simp] theorem wipeO_nx {vs : List Nat} : wipeO vs (.nx ρ M) = .nx (wipeD ρ vs) M := rfl
@[simp] theorem wipeO_bk {vs : List Nat} : wipeO vs (.bk ρ M) = .bk (wipeD ρ vs) M := rfl
@[simp] theorem wipeO_ct {vs : List Nat} : wipeO vs (.ct ρ M) = .ct (wipeD ρ vs) M := rfl
@[simp] theorem wipeO_rt {vs : List Nat} {v : Dv} : wipeO vs (.rt v M) = .rt v M := rfl
@[simp] theorem wipeD_nil : wipeD ρ [] = ρ := rfl
@[simp] theorem wipeD_cons {v : Nat} {vs : List Nat} : wipeD ρ (v :: vs) = (wipeD ρ vs).set v none := rfl
@[simp ↓] theorem ok_for {it : DI} {tg : Tgt} {s : DS} : Ok (dFor it tg s ρ M) P ↔ Ok (it ρ M) fun p => Ok (forL (stand p.2.1 p.2.2) (forStep tg s) p.1 ρ p.2.2) P := by
  unfold dFor
  cases it ρ M <;> simp
@[simp ↓] theorem ok_forStep {tg : Tgt} {s : DS} {x : D} : Ok (forStep tg s x ρ M) P ↔ Ok (tg.put (.d x) ρ) fun ρ1 => Ok (s ρ1 M) P := by
  unfold forStep
  cases tg.put (.d x) ρ <;> simp
/-- what a turn is to reach -/
def turnP (Nx : DEnv → DSt → Prop) (P : Out → Prop) : Out → Prop
  | .nx ρ M => Nx ρ M
  | .ct ρ M => Nx ρ M
  | .bk ρ M => P (.nx ρ M)
  | .rt v M => P (.rt v M)
@[simp ↓] theorem turnP_nx {Nx : DEnv → DSt → Prop} : turnP Nx P (.nx ρ M) ↔ Nx ρ M := Iff.rfl
@[simp ↓] theorem turnP_ct {Nx : DEnv → DSt → Prop} : turnP Nx P (.ct ρ M) ↔ Nx ρ M := Iff.rfl
@[simp ↓] theorem turnP_bk {Nx : DEnv → DSt → Prop} : turnP Nx P (.bk ρ M) ↔ P (.nx ρ M) := Iff.rfl
@[simp ↓] theorem turnP_rt {Nx : DEnv → DSt → Prop} {v : Dv} : turnP Nx P (.rt v M) ↔ P (.rt v M) := Iff.rfl
/-- a for by its invariant -/
theorem forL_by {α : Type} {chk : DSt → Prop} {step : α → DEnv → DSt → Option Out} : ∀ (xs : List α) {ρ : DEnv} {M : DSt} (I : Nat → DEnv → DSt → Prop), I 0 ρ M →
    (∀ i x ρ M, xs[i]? = some x → I i ρ M → chk M ∧ Ok (step x ρ M) (turnP (I (i + 1)) P)) → (∀ ρ M, I xs.length ρ M → chk M ∧ P (.nx ρ M)) → Ok (forL chk step xs ρ M) P
  | [], ρ, M, I, h0, _, hd => by
    unfold forL
    rw [ok_grd]
    obtain ⟨a, b⟩ := hd ρ M h0
    exact ⟨a, by simpa using b⟩
  | x :: xs, ρ, M, I, h0, hs, hd => by
    unfold forL
    rw [ok_grd]
    obtain ⟨a, o, e, b⟩ := hs 0 x ρ M rfl h0
    refine ⟨a, ?_⟩
    rw [e]
    cases o with
    | nx ρ1 M1 => exact forL_by xs (fun i => I (i + 1)) b (fun i y ρ M hy hI => hs (i + 1) y ρ M (by simpa using hy) hI) (fun ρ M hI => hd ρ M hI)
    | ct ρ1 M1 => exact forL_by xs (fun i => I (i + 1)) b (fun i y ρ M hy hI => hs (i + 1) y ρ M (by simpa using hy) hI) (fun ρ M hI => hd ρ M hI)
    | bk ρ1 M1 => simpa using b
    | rt v M1 => simpa using b
/-- a while by its invariant and a measure -/
theorem while_by {t : DT} {s : DS} (I : Nat → DEnv → DSt → Prop) : ∀ (n : Nat) {ρ : DEnv} {M : DSt}, I n ρ M →
    (∀ n ρ M, I n ρ M → Ok (t ρ M) fun p => if p.1 = true then Ok (s ρ p.2) (turnP (fun ρ' M' => ∃ m, m < n ∧ I m ρ' M') P) else P (.nx ρ p.2)) → Ok (dWhile t s ρ M) P := by
  intro n
  induction n using Nat.strongRecOn with
  | _ n ih =>
    intro ρ M h0 hs
    obtain ⟨p, e, h⟩ := hs n ρ M h0
    obtain ⟨b, M1⟩ := p
    rw [dWhile_eq, e]
    cases b with
    | false => simpa using h
    | true =>
      simp only [if_true] at h
      obtain ⟨o, e2, h⟩ := h
      simp only [e2]
      cases o with
      | nx ρ1 M2 =>
        obtain ⟨m, hm, hI⟩ := h
        exact ih m hm hI hs
      | ct ρ1 M2 =>
        obtain ⟨m, hm, hI⟩ := h
        exact ih m hm hI hs
      | bk ρ1 M2 => simpa using h
      | rt v M2 => simpa using h
/-- behind a def's body -/
def finP (b : Nat) (P : Dv × DSt → Prop) : Out → Prop
  | .rt v M => Ok (fin b v M) P
  | .nx _ M => Ok (fin b (.d .non) M) P
  | _ => False
@[simp ↓] theorem finP_rt {b : Nat} {P : Dv × DSt → Prop} {v : Dv} : finP b P (.rt v M) ↔ Ok (fin b v M) P := Iff.rfl
@[simp ↓] theorem finP_nx {b : Nat} {P : Dv × DSt → Prop} : finP b P (.nx ρ M) ↔ Ok (fin b (.d .non) M) P := Iff.rfl
theorem ok_fn {n : Nat} {s : DS} {as : List Dv} {P : Dv × DSt → Prop} : Ok (fnD n s as M) P ↔ Ok (s (startD n as) M) (finP M.length P) := by
  unfold fnD
  cases s (startD n as) M with
  | none => simp
  | some o => cases o <;> simp [finP]
@[simp] theorem fin_d {b : Nat} {x : D} : fin b (.d x) M = some (.d x, M.take b) := rfl
@[simp] theorem fin_r {b : Nat} {x : List D} : fin b (.r x) M = some (.r x, M.take b) := rfl
end
/-! ### what is walked -/
section
variable {ρ : DEnv} {M : DSt} {P : List D × List Nat × DSt → Prop}
@[simp ↓] theorem ok_iS {a : DE} : Ok (iS a ρ M) P ↔ Ok (a ρ M) fun p => Ok (sv p.2 p.1) fun xs => P (xs, cellsOf p.1, p.2) := by
  unfold iS
  cases a ρ M with
  | none => simp
  | some p =>
    obtain ⟨x, M1⟩ := p
    simp only [ok_some]
    cases x with
    | c n => simp only [sv]; cases lv M1 (.c n) <;> simp
    | r n => simp [sv, lv]
    | d x => cases x <;> simp [sv, lv, cellsOf]
/-- ranges, pairs, of known arguments -/
noncomputable def wR1 (vs : List Dv) (M : DSt) : Option (List D × List Nat × DSt) := match vs with
  | [.d (.int j)] => grd (-(2 ^ 62) ≤ j ∧ j < 2 ^ 62) (some (rng 0 j.toNat, [], M))
  | _ => none
noncomputable def wR2 (vs : List Dv) (M : DSt) : Option (List D × List Nat × DSt) := match vs with
  | [.d (.int i), .d (.int j)] => grd (-(2 ^ 62) ≤ i ∧ i < 2 ^ 62 ∧ -(2 ^ 62) ≤ j ∧ j < 2 ^ 62) (some (rng i (j - i).toNat, [], M))
  | _ => none
@[simp ↓] theorem ok_iR1 {a : DA} : Ok (iR1 a ρ M) P ↔ Ok (a ρ M) fun p => Ok (wR1 p.1 p.2) P := by
  unfold iR1 wR1
  cases a ρ M with
  | none => simp
  | some p =>
    obtain ⟨x, M1⟩ := p
    simp only [ok_some]
    split
    · rename_i j M2 e
      cases e
      exact Iff.rfl
    · rename_i h
      split
      · rename_i j
        exact absurd rfl (h j M1)
      · exact Iff.rfl
@[simp ↓] theorem ok_iR2 {a : DA} : Ok (iR2 a ρ M) P ↔ Ok (a ρ M) fun p => Ok (wR2 p.1 p.2) P := by
  unfold iR2 wR2
  cases a ρ M with
  | none => simp
  | some p =>
    obtain ⟨x, M1⟩ := p
    simp only [ok_some]
    split
    · rename_i i j M2 e
      cases e
      exact Iff.rfl
    · rename_i h
      split
      · rename_i i j
        exact absurd rfl (h i j M1)
      · exact Iff.rfl
@[simp ↓] theorem ok_wR1 {j : Int} : Ok (wR1 [.d (.int j)] M) P ↔ (-(2 ^ 62) ≤ j ∧ j < 2 ^ 62) ∧ P (rng 0 j.toNat, [], M) := by simp only [wR1, ok_grd, ok_some]
@[simp ↓] theorem ok_wR2 {i j : Int} : Ok (wR2 [.d (.int i), .d (.int j)] M) P ↔ (-(2 ^ 62) ≤ i ∧ i < 2 ^ 62 ∧ -(2 ^ 62) ≤ j ∧ j < 2 ^ 62) ∧ P (rng i (j - i).toNat, [], M) := by simp only [wR2, ok_grd, ok_some]
def wEn (vs : List Dv) (M : DSt) : Option (List D × List Nat × DSt) := match vs with
  | [x] => match lv M x with
    | some xs => some (enumD 0 xs, cellsOf x, M)
    | none => none
  | _ => none
def wZ (vs : List Dv) (M : DSt) : Option (List D × List Nat × DSt) := match vs with
  | [x, y] => match lv M x, lv M y with
    | some xs, some ys => some (zipD xs ys, cellsOf x ++ cellsOf y, M)
    | _, _ => none
  | _ => none
@[simp ↓] theorem ok_iEn {a : DA} : Ok (iEn a ρ M) P ↔ Ok (a ρ M) fun p => Ok (wEn p.1 p.2) P := by
  unfold iEn wEn
  cases a ρ M with
  | none => simp
  | some p =>
    obtain ⟨x, M1⟩ := p
    simp only [ok_some]
    split
    · rename_i y M2 e
      cases e
      exact Iff.rfl
    · rename_i h
      split
      · rename_i y
        exact absurd rfl (h y M1)
      · exact Iff.rfl
@[simp ↓] theorem ok_iZ {a : DA} : Ok (iZ a ρ M) P ↔ Ok (a ρ M) fun p => Ok (wZ p.1 p.2) P := by
  unfold iZ wZ
  cases a ρ M with
  | none => simp
  | some p =>
    obtain ⟨x, M1⟩ := p
    simp only [ok_some]
    split
    · rename_i y z M2 e
      cases e
      exact Iff.rfl
    · rename_i h
      split
      · rename_i y z
        exact absurd rfl (h y z M1)
      · exact Iff.rfl
@[simp ↓] theorem ok_wEn {x : Dv} : Ok (wEn [x] M) P ↔ Ok (lv M x) fun xs => P (enumD 0 xs, cellsOf x, M) := by
  unfold wEn
  cases e : lv M x <;> simp [e]
@[simp ↓] theorem ok_wZ {x y : Dv} : Ok (wZ [x, y] M) P ↔ Ok (lv M x) fun xs => Ok (lv M y) fun ys => P (zipD xs ys, cellsOf x ++ cellsOf y, M) := by
  unfold wZ
  cases e : lv M x <;> cases e' : lv M y <;> simp [e, e']
end
/-! ### operators on known values -/
section
variable {M : DSt} {i j : Int} {c : Bool}
@[simp] theorem oAdd_i : oAdd c (.d (.int i)) (.d (.int j)) M = some (.d (.int (i + j)), M) := rfl
@[simp] theorem oSub_i : oSub (.d (.int i)) (.d (.int j)) M = some (.d (.int (i - j)), M) := rfl
@[simp] theorem oI_i {f : Int → Int → D} : oI f (.d (.int i)) (.d (.int j)) M = some (.d (f i j), M) := rfl
@[simp] theorem oMulU_i : oMulU c (.d (.int i)) (.d (.int j)) M = grd (mulOk i j) (some (.d (.int (i * j)), M)) := rfl
@[simp] theorem oDiv_i : oDiv (.d (.int i)) (.d (.int j)) M = grd (divOk j) (some (.d (.int (i.fdiv j)), M)) := rfl
@[simp] theorem oMod_i : oMod (.d (.int i)) (.d (.int j)) M = grd (j ≠ 0) (some (.d (.int (i.fmod j)), M)) := rfl
@[simp] theorem oPow_i : oPow (.d (.int i)) (.d (.int j)) M = grd (powOk i j) (some (.d (.int (i ^ j.toNat)), M)) := rfl
@[simp] theorem oLt_i : oLt (.d (.int i)) (.d (.int j)) M = some (.d (.bl (decide (i < j))), M) := rfl
@[simp] theorem oLe_i : oLe (.d (.int i)) (.d (.int j)) M = some (.d (.bl (decide (i ≤ j))), M) := rfl
@[simp] theorem oGt_i : oGt (.d (.int i)) (.d (.int j)) M = some (.d (.bl (decide (j < i))), M) := rfl
@[simp] theorem oGe_i : oGe (.d (.int i)) (.d (.int j)) M = some (.d (.bl (decide (j ≤ i))), M) := rfl
@[simp] theorem oNeg_i : oNeg (.d (.int i)) M = some (.d (.int (-i)), M) := rfl
@[simp] theorem oAbs_i : oAbs [.d (.int i)] M = some (.d (.int (if i < 0 then -i else i)), M) := rfl
@[simp] theorem oMax2_i : oMax2 [.d (.int i), .d (.int j)] M = some (.d (.int (if j > i then j else i)), M) := rfl
@[simp] theorem oMin2_i : oMin2 [.d (.int i), .d (.int j)] M = some (.d (.int (if j < i then j else i)), M) := rfl
@[simp] theorem oInt_i : oInt [.d (.int i)] M = some (.d (.int i), M) := rfl
@[simp] theorem oInt_b {b : Bool} : oInt [.d (.bl b)] M = some (.d (.int (if b then 1 else 0)), M) := rfl
@[simp] theorem oEq_i : oEq (.d (.int i)) (.d (.int j)) M = some (.d (.bl (i == j)), M) := by simp [oEq, dv, D.shp, D.eqv, grd_ok]
@[simp] theorem oNe_i : oNe (.d (.int i)) (.d (.int j)) M = some (.d (.bl (!(i == j))), M) := by simp [oNe, dv, D.shp, D.eqv, grd_ok]
@[simp] theorem oIsN_d {x : D} : oIsN (.d x) M = some (.d (.bl (isNon (.d x))), M) := rfl
@[simp] theorem oNotN_d {x : D} : oNotN (.d x) M = some (.d (.bl (!isNon (.d x))), M) := rfl
@[simp] theorem isNon_non : isNon (.d .non) = true := rfl
@[simp] theorem isNon_int : isNon (.d (.int i)) = false := rfl
@[simp] theorem isNon_tup {xs : List D} : isNon (.d (.tup xs)) = false := rfl
@[simp] theorem isNon_lst {xs : List D} : isNon (.d (.lst xs)) = false := rfl
@[simp] theorem lv_lst {xs : List D} : lv M (.d (.lst xs)) = some xs := rfl
@[simp] theorem lv_r {xs : List D} : lv M (.r xs) = some xs := rfl
@[simp] theorem lv_c {n : Nat} : lv M (.c n) = (M[n]?).join := rfl
@[simp] theorem lw_lst {xs : List D} : lw M (.d (.lst xs)) = some xs := rfl
@[simp] theorem lw_c {n : Nat} : lw M (.c n) = (M[n]?).join := rfl
@[simp] theorem sv_lst {xs : List D} : sv M (.d (.lst xs)) = some xs := rfl
@[simp] theorem sv_tup {xs : List D} : sv M (.d (.tup xs)) = some xs := rfl
@[simp] theorem sv_r {xs : List D} : sv M (.r xs) = some xs := rfl
@[simp] theorem sv_c {n : Nat} : sv M (.c n) = (M[n]?).join := rfl
@[simp] theorem cellsOf_d {x : D} : cellsOf (.d x) = [] := rfl
@[simp] theorem cellsOf_r {x : List D} : cellsOf (.r x) = [] := rfl
@[simp] theorem cellsOf_c {n : Nat} : cellsOf (.c n) = [n] := rfl
@[simp] theorem stand_nil {M' : DSt} : stand [] M M' ↔ True := by simp [stand]
@[simp] theorem allD_nil : allD [] = some [] := rfl
@[simp] theorem allD_cons {x : D} {r : List Dv} : allD (.d x :: r) = (allD r).map (x :: ·) := rfl
@[simp] theorem mkL_f {xs : List D} : mkL false xs M = some (.d (.lst xs), M) := rfl
@[simp] theorem mkL_t {xs : List D} : mkL true xs M = some (.c M.length, M ++ [some xs]) := rfl
@[simp] theorem setC_eq {n : Nat} {xs : List D} : setC M n xs = M.set n (some xs) := rfl
@[simp] theorem take_set_len {n : Nat} {x : Option (List D)} : (List.set M n x).take (List.length M) = M.set n x := by rw [List.take_of_length_le]; simp
@[simp ↓] theorem ok_allD0 {P : List D → Prop} : Ok (allD []) P ↔ P [] := by simp
@[simp ↓] theorem ok_allDC {x : D} {r : List Dv} {P : List D → Prop} : Ok (allD (.d x :: r)) P ↔ Ok (allD r) fun xs => P (x :: xs) := by
  rw [allD_cons]
  cases allD r <;> simp
@[simp] theorem fin_new {xs : List D} : fin (List.length M) (.c (List.length M)) (M ++ [some xs]) = some (.c (List.length M), M ++ [some xs]) := by simp [fin]
theorem rng_at {a : Int} {n i : Nat} {x : D} : (rng a n)[i]? = some x ↔ i < n ∧ x = .int (a + (i : Int)) := by
  unfold rng
  rw [List.getElem?_map]
  by_cases h : i < n
  · rw [List.getElem?_range h]
    simp [h, eq_comm]
  · rw [List.getElem?_eq_none (by simpa using h)]
    simp [h]
@[simp] theorem rng_len {a : Int} {n : Nat} : (rng a n).length = n := by simp [rng]
@[simp] theorem big_eq : big = 1000000 := rfl
@[simp] theorem oAdd_l {xs ys : List D} : oAdd c (.d (.lst xs)) (.d (.lst ys)) M = grd (xs.length + ys.length ≤ big) (mkL c (xs ++ ys) M) := rfl
@[simp] theorem slU_l {xs : List D} {l h : Option Int} : slU c (.d (.lst xs)) l h M = mkL c (cutD xs l h) M := rfl
@[simp] theorem slU_r {xs : List D} {l h : Option Int} : slU c (.r xs) l h M = mkL c (cutD xs l h) M := rfl
@[simp] theorem slU_t {xs : List D} {l h : Option Int} : slU c (.d (.tup xs)) l h M = some (.d (.tup (cutD xs l h)), M) := rfl
theorem cutD_mem {xs : List D} {l h : Option Int} {x : D} (hx : x ∈ cutD xs l h) : x ∈ xs := List.mem_of_mem_drop (List.mem_of_mem_take hx)
theorem cutD_len {xs : List D} {l h : Option Int} : (cutD xs l h).length ≤ xs.length := by
  unfold cutD
  rw [List.length_take, List.length_drop]
  exact Nat.le_trans (Nat.min_le_right _ _) (Nat.sub_le _ _)
theorem oIsi_d {T : String} {x : D} (h : ∀ n, x ≠ .ty n) : oIsi T [.d x, .d (.ty T)] M = some (.d (.bl (subTy x.tyN T)), M) := by
  unfold oIsi
  cases x <;> first | (simp [dv]; done) | exact absurd rfl (h _)
@[simp] theorem oIsi_bl {T : String} {b : Bool} : oIsi T [.d (.bl b), .d (.ty T)] M = some (.d (.bl (subTy "bool" T)), M) := oIsi_d (fun _ h => nomatch h)
@[simp] theorem oIsi_int {T : String} {b : Int} : oIsi T [.d (.int b), .d (.ty T)] M = some (.d (.bl (subTy "int" T)), M) := oIsi_d (fun _ h => nomatch h)
@[simp] theorem oIsi_tup {T : String} {b : List D} : oIsi T [.d (.tup b), .d (.ty T)] M = some (.d (.bl (subTy "tuple" T)), M) := oIsi_d (fun _ h => nomatch h)
@[simp] theorem oIsi_lst {T : String} {b : List D} : oIsi T [.d (.lst b), .d (.ty T)] M = some (.d (.bl (subTy "list" T)), M) := oIsi_d (fun _ h => nomatch h)
@[simp ↓] theorem ok_fin_d {b : Nat} {x : D} {P : Dv × DSt → Prop} : Ok (fin b (.d x) M) P ↔ P (.d x, M.take b) := by rw [fin_d] <;> simp
@[simp ↓] theorem ok_fin_r {b : Nat} {x : List D} {P : Dv × DSt → Prop} : Ok (fin b (.r x) M) P ↔ P (.r x, M.take b) := by rw [fin_r] <;> simp
@[simp ↓] theorem ok_oAdd_i {P : Dv × DSt → Prop} : Ok (oAdd c (.d (.int i)) (.d (.int j)) M) P ↔ P (.d (.int (i + j)), M) := by rw [oAdd_i] <;> simp
@[simp ↓] theorem ok_oSub_i {P : Dv × DSt → Prop} : Ok (oSub (.d (.int i)) (.d (.int j)) M) P ↔ P (.d (.int (i - j)), M) := by rw [oSub_i] <;> simp
@[simp ↓] theorem ok_oI_i {f : Int → Int → D} {P : Dv × DSt → Prop} : Ok (oI f (.d (.int i)) (.d (.int j)) M) P ↔ P (.d (f i j), M) := by rw [oI_i] <;> simp
@[simp ↓] theorem ok_oMulU_i {P : Dv × DSt → Prop} : Ok (oMulU c (.d (.int i)) (.d (.int j)) M) P ↔ (mulOk i j) ∧ P (.d (.int (i * j)), M) := by rw [oMulU_i] <;> simp
@[simp ↓] theorem ok_oDiv_i {P : Dv × DSt → Prop} : Ok (oDiv (.d (.int i)) (.d (.int j)) M) P ↔ (divOk j) ∧ P (.d (.int (i.fdiv j)), M) := by rw [oDiv_i] <;> simp
@[simp ↓] theorem ok_oMod_i {P : Dv × DSt → Prop} : Ok (oMod (.d (.int i)) (.d (.int j)) M) P ↔ (j ≠ 0) ∧ P (.d (.int (i.fmod j)), M) := by rw [oMod_i] <;> simp
@[simp ↓] theorem ok_oPow_i {P : Dv × DSt → Prop} : Ok (oPow (.d (.int i)) (.d (.int j)) M) P ↔ (powOk i j) ∧ P (.d (.int (i ^ j.toNat)), M) := by rw [oPow_i] <;> simp
@[simp ↓] theorem ok_oLt_i {P : Dv × DSt → Prop} : Ok (oLt (.d (.int i)) (.d (.int j)) M) P ↔ P (.d (.bl (decide (i < j))), M) := by rw [oLt_i] <;> simp
@[simp ↓] theorem ok_oLe_i {P : Dv × DSt → Prop} : Ok (oLe (.d (.int i)) (.d (.int j)) M) P ↔ P (.d (.bl (decide (i ≤ j))), M) := by rw [oLe_i] <;> simp
@[simp ↓] theorem ok_oGt_i {P : Dv × DSt → Prop} : Ok (oGt (.d (.int i)) (.d (.int j)) M) P ↔ P (.d (.bl (decide (j < i))), M) := by rw [oGt_i] <;> simp
@[simp ↓] theorem ok_oGe_i {P : Dv × DSt → Prop} : Ok (oGe (.d (.int i)) (.d (.int j)) M) P ↔ P (.d (.bl (decide (j ≤ i))), M) := by rw [oGe_i] <;> simp
@[simp ↓] theorem ok_oNeg_i {P : Dv × DSt → Prop} : Ok (oNeg (.d (.int i)) M) P ↔ P (.d (.int (-i)), M) := by rw [oNeg_i] <;> simp
@[simp ↓] theorem ok_oAbs_i {P : Dv × DSt → Prop} : Ok (oAbs [.d (.int i)] M) P ↔ P (.d (.int (if i < 0 then -i else i)), M) := by rw [oAbs_i] <;> simp
@[simp ↓] theorem ok_oMax2_i {P : Dv × DSt → Prop} : Ok (oMax2 [.d (.int i), .d (.int j)] M) P ↔ P (.d (.int (if j > i then j else i)), M) := by rw [oMax2_i] <;> simp
@[simp ↓] theorem ok_oMin2_i {P : Dv × DSt → Prop} : Ok (oMin2 [.d (.int i), .d (.int j)] M) P ↔ P (.d (.int (if j < i then j else i)), M) := by rw [oMin2_i] <;> simp
@[simp ↓] theorem ok_oInt_i {P : Dv × DSt → Prop} : Ok (oInt [.d (.int i)] M) P ↔ P (.d (.int i), M) := by rw [oInt_i] <;> simp
@[simp ↓] theorem ok_oInt_b {b : Bool} {P : Dv × DSt → Prop} : Ok (oInt [.d (.bl b)] M) P ↔ P (.d (.int (if b then 1 else 0)), M) := by rw [oInt_b] <;> simp
@[simp ↓] theorem ok_oEq_i {P : Dv × DSt → Prop} : Ok (oEq (.d (.int i)) (.d (.int j)) M) P ↔ P (.d (.bl (i == j)), M) := by rw [oEq_i] <;> simp
@[simp ↓] theorem ok_oNe_i {P : Dv × DSt → Prop} : Ok (oNe (.d (.int i)) (.d (.int j)) M) P ↔ P (.d (.bl (!(i == j))), M) := by rw [oNe_i] <;> simp
@[simp ↓] theorem ok_oIsN_d {x : D} {P : Dv × DSt → Prop} : Ok (oIsN (.d x) M) P ↔ P (.d (.bl (isNon (.d x))), M) := by rw [oIsN_d] <;> simp
@[simp ↓] theorem ok_oNotN_d {x : D} {P : Dv × DSt → Prop} : Ok (oNotN (.d x) M) P ↔ P (.d (.bl (!isNon (.d x))), M) := by rw [oNotN_d] <;> simp
@[simp ↓] theorem ok_lv_lst {xs : List D} {P : List D → Prop} : Ok (lv M (.d (.lst xs))) P ↔ P xs := by rw [lv_lst] <;> simp
@[simp ↓] theorem ok_lv_r {xs : List D} {P : List D → Prop} : Ok (lv M (.r xs)) P ↔ P xs := by rw [lv_r] <;> simp
@[simp ↓] theorem ok_lw_lst {xs : List D} {P : List D → Prop} : Ok (lw M (.d (.lst xs))) P ↔ P xs := by rw [lw_lst] <;> simp
@[simp ↓] theorem ok_sv_lst {xs : List D} {P : List D → Prop} : Ok (sv M (.d (.lst xs))) P ↔ P xs := by rw [sv_lst] <;> simp
@[simp ↓] theorem ok_sv_tup {xs : List D} {P : List D → Prop} : Ok (sv M (.d (.tup xs))) P ↔ P xs := by rw [sv_tup] <;> simp
@[simp ↓] theorem ok_sv_r {xs : List D} {P : List D → Prop} : Ok (sv M (.r xs)) P ↔ P xs := by rw [sv_r] <;> simp
@[simp ↓] theorem ok_mkL_f {xs : List D} {P : Dv × DSt → Prop} : Ok (mkL false xs M) P ↔ P (.d (.lst xs), M) := by rw [mkL_f] <;> simp
@[simp ↓] theorem ok_mkL_t {xs : List D} {P : Dv × DSt → Prop} : Ok (mkL true xs M) P ↔ P (.c M.length, M ++ [some xs]) := by rw [mkL_t] <;> simp
@[simp ↓] theorem ok_fin_new {xs : List D} {P : Dv × DSt → Prop} : Ok (fin (List.length M) (.c (List.length M)) (M ++ [some xs])) P ↔ P (.c (List.length M), M ++ [some xs]) := by rw [fin_new] <;> simp
@[simp ↓] theorem ok_oAdd_l {xs ys : List D} {P : Dv × DSt → Prop} : Ok (oAdd c (.d (.lst xs)) (.d (.lst ys)) M) P ↔ (xs.length + ys.length ≤ big) ∧ Ok (mkL c (xs ++ ys) M) P := by rw [oAdd_l] <;> simp
@[simp ↓] theorem ok_slU_t {xs : List D} {l h : Option Int} {P : Dv × DSt → Prop} : Ok (slU c (.d (.tup xs)) l h M) P ↔ P (.d (.tup (cutD xs l h)), M) := by rw [slU_t] <;> simp
@[simp ↓] theorem ok_oIsi_bl {T : String} {b : Bool} {P : Dv × DSt → Prop} : Ok (oIsi T [.d (.bl b), .d (.ty T)] M) P ↔ P (.d (.bl (subTy "bool" T)), M) := by rw [oIsi_bl] <;> simp
@[simp ↓] theorem ok_oIsi_int {T : String} {b : Int} {P : Dv × DSt → Prop} : Ok (oIsi T [.d (.int b), .d (.ty T)] M) P ↔ P (.d (.bl (subTy "int" T)), M) := by rw [oIsi_int] <;> simp
@[simp ↓] theorem ok_oIsi_tup {T : String} {b : List D} {P : Dv × DSt → Prop} : Ok (oIsi T [.d (.tup b), .d (.ty T)] M) P ↔ P (.d (.bl (subTy "tuple" T)), M) := by rw [oIsi_tup] <;> simp
@[simp ↓] theorem ok_oIsi_lst {T : String} {b : List D} {P : Dv × DSt → Prop} : Ok (oIsi T [.d (.lst b), .d (.ty T)] M) P ↔ P (.d (.bl (subTy "list" T)), M) := by rw [oIsi_lst] <;> simp
@[simp ↓] theorem ok_map {α β : Type} {o : Option α} {f : α → β} {P : β → Prop} : Ok (o.map f) P ↔ Ok o fun x => P (f x) := by cases o <;> simp
@[simp ↓] theorem ok_bind {α β : Type} {o : Option α} {f : α → Option β} {P : β → Prop} : Ok (o.bind f) P ↔ Ok o fun x => Ok (f x) P := by cases o <;> simp
theorem ok_oIxS {x : Dv} {P : Dv × DSt → Prop} {xs : List D} (h : sv M x = some xs) : Ok (oIx x (.d (.int i)) M) P ↔ Ok (atD xs i) fun z => P (.d z, M) := by
  unfold oIx atD
  simp only [h]
  cases e : ixD xs.length i with
  | none => simp
  | some k =>
    simp only
    cases e2 : xs[k]? with
    | none => simp
    | some z => simp
@[simp ↓] theorem ok_oIx_lst {P : Dv × DSt → Prop} {xs : List D} : Ok (oIx (.d (.lst xs)) (.d (.int i)) M) P ↔ Ok (atD xs i) fun z => P (.d z, M) := ok_oIxS rfl
@[simp ↓] theorem ok_oIx_tup {P : Dv × DSt → Prop} {xs : List D} : Ok (oIx (.d (.tup xs)) (.d (.int i)) M) P ↔ Ok (atD xs i) fun z => P (.d z, M) := ok_oIxS rfl
@[simp ↓] theorem ok_oIx_r {P : Dv × DSt → Prop} {xs : List D} : Ok (oIx (.r xs) (.d (.int i)) M) P ↔ Ok (atD xs i) fun z => P (.d z, M) := ok_oIxS rfl
@[simp ↓] theorem ok_oIx_c {P : Dv × DSt → Prop} {n : Nat} : Ok (oIx (.c n) (.d (.int i)) M) P ↔ Ok (cel M n) fun xs => Ok (atD xs i) fun z => P (.d z, M) := by
  unfold cel
  cases e : (M[n]?).join with
  | none => simp [oIx, sv, lv, e]
  | some xs =>
    rw [ok_oIxS (xs := xs) (by simp [e])]
    simp
@[simp] theorem ixD_0 {n : Nat} : ixD (n + 1) 0 = some 0 := by unfold ixD; rw [if_pos (by omega), if_pos (by omega)]; rfl
@[simp] theorem ixD_1 {n : Nat} : ixD (n + 2) 1 = some 1 := by unfold ixD; rw [if_pos (by omega), if_pos (by omega)]; rfl
@[simp] theorem ixD_2 {n : Nat} : ixD (n + 3) 2 = some 2 := by unfold ixD; rw [if_pos (by omega), if_pos (by omega)]; rfl
@[simp] theorem ixD_3 {n : Nat} : ixD (n + 4) 3 = some 3 := by unfold ixD; rw [if_pos (by omega), if_pos (by omega)]; rfl
@[simp ↓] theorem ok_atD0 {x : D} {r : List D} {P : D → Prop} : Ok (atD (x :: r) 0) P ↔ P x := by simp [atD]
@[simp ↓] theorem ok_atD1 {x y : D} {r : List D} {P : D → Prop} : Ok (atD (x :: y :: r) 1) P ↔ P y := by simp [atD]
@[simp ↓] theorem ok_atD2 {x y z : D} {r : List D} {P : D → Prop} : Ok (atD (x :: y :: z :: r) 2) P ↔ P z := by simp [atD]
@[simp ↓] theorem ok_atD3 {x y z w : D} {r : List D} {P : D → Prop} : Ok (atD (x :: y :: z :: w :: r) 3) P ↔ P w := by simp [atD]
@[simp ↓] theorem ok_ixD0 {n : Nat} {P : Nat → Prop} : Ok (ixD (n + 1) 0) P ↔ P 0 := by simp
@[simp ↓] theorem ok_ixD1 {n : Nat} {P : Nat → Prop} : Ok (ixD (n + 2) 1) P ↔ P 1 := by simp
theorem ok_ixDL {xs : List D} {k : Int} {P : Nat → Prop} (h0 : 0 ≤ k) (h1 : k < xs.length) : Ok (ixD xs.length k) P ↔ P k.toNat := by
  have : ixD xs.length k = some k.toNat := by unfold ixD; rw [if_pos h0, if_pos h1]
  simp [this]
@[simp ↓] theorem ok_ixDL0 {x : D} {xs : List D} {P : Nat → Prop} : Ok (ixD (x :: xs).length 0) P ↔ P 0 := by simp
@[simp ↓] theorem ok_ixDL1 {x y : D} {xs : List D} {P : Nat → Prop} : Ok (ixD (x :: y :: xs).length 1) P ↔ P 1 := by simp
theorem ixD_of {n : Nat} {i : Int} (h0 : 0 ≤ i) (h1 : i < n) : ixD n i = some i.toNat := by unfold ixD; rw [if_pos h0, if_pos h1]
theorem ixD_nat {n k : Nat} (h1 : k < n) : ixD n (k : Int) = some k := by rw [ixD_of (by omega) (by omega)]; rfl
end
theorem ok_forN {α : Type} {chk : DSt → Prop} {step : α → DEnv → DSt → Option Out} {ρ : DEnv} {M : DSt} {P : Out → Prop} : Ok (forL chk step [] ρ M) P ↔ chk M ∧ P (.nx ρ M) := by simp [forL]
theorem ok_forC {α : Type} {chk : DSt → Prop} {step : α → DEnv → DSt → Option Out} {x : α} {xs : List α} {ρ : DEnv} {M : DSt} {P : Out → Prop} : Ok (forL chk step (x :: xs) ρ M) P ↔ chk M ∧ Ok (step x ρ M) (turnP (fun ρ M => Ok (forL chk step xs ρ M) P) P) := by
  simp only [forL, ok_grd]
  refine and_congr_right fun _ => ?_
  cases h : step x ρ M with
  | none => simp
  | some o => cases o <;> simp
/-- a step that passes: the rest goes on from the same state -/
theorem if_pass {s t : DS} {ρ : DEnv} {M : DSt} {P : Out → Prop} (h : Ok (s ρ M) fun o => o = .nx ρ M) (k : Ok (t ρ M) P) : Ok (dSeq s t ρ M) P := by
  rw [ok_seq]
  exact h.mono fun o e => by subst e; exact k
theorem if_last {s : DS} {ρ : DEnv} {M : DSt} {P : Out → Prop} (h : Ok (s ρ M) fun o => o = .nx ρ M) (k : P (.nx ρ M)) : Ok (s ρ M) P := h.mono fun o e => by subst e; exact k
/-- a step, then the rest -/
theorem seq_by {s t : DS} {ρ : DEnv} {M : DSt} {P : Out → Prop} (Q : Out → Prop) (h : Ok (s ρ M) Q) (k : ∀ o, Q o → seqP t P o) : Ok (dSeq s t ρ M) P := by
  rw [ok_seq]
  exact h.mono k
end Rw
end PRwOk
section PRwMath
set_option autoImplicit false
set_option linter.all false
set_option maxRecDepth 100000
/-! RwMath: bounds, sizes, the greatest divisor. -/
namespace Rw
/-- x lies within A -/
def bd (A x : Int) : Prop := -A ≤ x ∧ x ≤ A
theorem bd_mono {A B x : Int} (h : bd A x) (l : A ≤ B) : bd B x := ⟨by have := h.1; omega, by have := h.2; omega⟩
theorem bd_add {A B C x y : Int} (hx : bd A x) (hy : bd B y) (l : A + B ≤ C) : bd C (x + y) := ⟨by have := hx.1; have := hy.1; omega, by have := hx.2; have := hy.2; omega⟩
theorem bd_sub {A B C x y : Int} (hx : bd A x) (hy : bd B y) (l : A + B ≤ C) : bd C (x - y) := ⟨by have := hx.1; have := hy.2; omega, by have := hx.2; have := hy.1; omega⟩
theorem bd_neg {A x : Int} (hx : bd A x) : bd A (-x) := ⟨by have := hx.2; omega, by have := hx.1; omega⟩
theorem bd_natAbs {A x : Int} (h : bd A x) : (x.natAbs : Int) ≤ A := by have := h.1; have := h.2; omega
theorem bd_of_natAbs {A x : Int} (h : (x.natAbs : Int) ≤ A) : bd A x := ⟨by omega, by omega⟩
theorem bd_nonneg {A x : Int} (h : bd A x) : 0 ≤ A := by have := h.1; have := h.2; omega
theorem bd_mul {A B C x y : Int} (hx : bd A x) (hy : bd B y) (l : A * B ≤ C) : bd C (x * y) := by
  refine bd_of_natAbs (Int.le_trans ?_ l)
  rw [Int.natAbs_mul, Int.natCast_mul]
  exact Int.mul_le_mul (bd_natAbs hx) (bd_natAbs hy) (by omega) (bd_nonneg hx)
theorem bd_fdiv {A x y : Int} (hx : bd A x) : bd A (x.fdiv y) := by
  refine bd_of_natAbs (Int.le_trans ?_ (bd_natAbs hx))
  have := Int.natAbs_fdiv_le_natAbs x y
  omega
theorem log2_lt {n k : Nat} (h : n < 2 ^ k) (hk : 0 < k) : n.log2 < k := by
  by_cases h0 : n = 0
  · subst h0
    simp
    exact hk
  · exact (Nat.log2_lt h0).mpr h
theorem natAbs_lt {A x : Int} {k : Nat} (h : bd A x) (l : A < 2 ^ k) : x.natAbs < 2 ^ k := by
  have h1 := bd_natAbs h
  have h2 : (x.natAbs : Int) < 2 ^ k := by omega
  have h3 : ((2 : Int) ^ k) = ((2 ^ k : Nat) : Int) := by simp
  rw [h3] at h2
  exact_mod_cast h2
theorem iLn_of {A x : Int} (k : Nat) (h : bd A x) (l : A < 2 ^ k) (h0 : 0 < k) (hk : k ≤ 4000000) : iLn x := Nat.lt_of_lt_of_le (log2_lt (natAbs_lt h l) h0) hk
theorem mulOk_bd {A B x y : Int} (k : Nat) (hx : bd A x) (hy : bd B y) (la : A < 2 ^ k) (lb : B < 2 ^ k) (h0 : 0 < k) (hk : k ≤ 4000000) : mulOk x y := .inr (.inr ⟨iLn_of k hx la h0 hk, iLn_of k hy lb h0 hk⟩)
theorem mulOk_l {x y : Int} (h : -(2 ^ 64) < x) (h' : x < 2 ^ 64) : mulOk x y := .inl ⟨h, h'⟩
theorem mulOk_r {x y : Int} (h : -(2 ^ 64) < y) (h' : y < 2 ^ 64) : mulOk x y := .inr (.inl ⟨h, h'⟩)
theorem divOk_bd {A x : Int} (k : Nat) (h : bd A x) (hx : x ≠ 0) (l : A < 2 ^ k) (h0 : 0 < k) (hk : k ≤ 9000) : divOk x := ⟨hx, Nat.lt_of_lt_of_le (log2_lt (natAbs_lt h l) h0) hk⟩
theorem fmod_nn (x : Int) {m : Int} (h : 0 < m) : 0 ≤ x.fmod m := Int.fmod_nonneg_of_pos x h
theorem fmod_lt (x : Int) {m : Int} (h : 0 < m) : x.fmod m < m := Int.fmod_lt_of_pos x h
/-- an item at a drawn place: what all items have -/
theorem pick {xs : List D} {s : Int} {P : D → Prop} (h0 : 0 ≤ s) (h1 : s < xs.length) (h : ∀ z ∈ xs, P z) : Ok (atD xs s) P := by
  have hk : s.toNat < xs.length := by omega
  unfold atD
  rw [ixD_of h0 h1]
  simp only [List.getElem?_eq_getElem hk, ok_some]
  exact h _ (List.getElem_mem hk)
/-- a call whose answer is known -/
theorem okE {α : Type} {o : Option α} {x : α} (h : o = some x) (P : α → Prop) : Ok o P ↔ P x := by rw [h, ok_some]
/-! ### while b > 0: a, b = b, a % b -/
noncomputable def gcdLoop (i j : Nat) : DS := dWhile (tVal (e2 oGt (eVar j) (eC (.int 0)))) (dPar i j (eVar j) (e2 oMod (eVar i) (eVar j)))
theorem set_set2 {α : Type} (l : List α) {i j : Nat} (h : i ≠ j) (a b c d : α) : ((((l.set i a).set j b).set i c).set j d) = ((l.set i c).set j d) := by
  rw [List.set_comm a b h, List.set_set, List.set_comm b c (Ne.symm h), List.set_set]
theorem gcd_while {i j : Nat} (hij : i ≠ j) {M : DSt} : ∀ (n : Nat) {ρ : DEnv} {a b : Int}, b.toNat = n → 0 ≤ a → 0 ≤ b → i < ρ.length → j < ρ.length → ρ[i]? = some (some (.d (.int a))) → ρ[j]? = some (some (.d (.int b))) →
    gcdLoop i j ρ M = some (.nx ((ρ.set i (some (.d (.int (Int.gcd a b))))).set j (some (.d (.int 0)))) M) := by
  intro n
  induction n using Nat.strongRecOn with
  | _ n ih =>
    intro ρ a b hn ha hb hi hj ei ej
    unfold gcdLoop
    rw [dWhile_eq]
    by_cases h0 : 0 < b
    · have e1 : tVal (e2 oGt (eVar j) (eC (.int 0))) ρ M = some (true, M) := by simp [tVal, e2, eVar, eC, ej, h0]
      have e2 : dPar i j (eVar j) (Rw.e2 oMod (eVar i) (eVar j)) ρ M = some (.nx ((ρ.set i (some (.d (.int b)))).set j (some (.d (.int (a.fmod b))))) M) := by
        have hb0 : b ≠ 0 := by omega
        simp [dPar, Rw.e2, eVar, ej, ei, oMod_i, grd_ok hb0]
      simp only [e1, e2]
      have hlt : (a.fmod b).toNat < n := by
        have := fmod_lt a h0
        have := fmod_nn a h0
        omega
      have r := ih _ hlt (ρ := (ρ.set i (some (.d (.int b)))).set j (some (.d (.int (a.fmod b))))) (a := b) (b := a.fmod b) rfl hb (fmod_nn a h0) (by simpa using hi) (by simpa using hj)
        (by rw [List.getElem?_set_ne (Ne.symm hij), List.getElem?_set_self hi]) (by rw [List.getElem?_set_self (by simpa using hj)])
      unfold gcdLoop at r
      rw [r, set_set2 _ hij]
      have g : Int.gcd b (a.fmod b) = Int.gcd a b := by
        rw [Int.fmod_eq_emod_of_nonneg a hb]
        obtain ⟨x, rfl⟩ := Int.eq_ofNat_of_zero_le ha
        obtain ⟨y, rfl⟩ := Int.eq_ofNat_of_zero_le hb
        rw [← Int.natCast_emod, Int.gcd_natCast_natCast, Int.gcd_natCast_natCast, Nat.gcd_comm x y, Nat.gcd_rec y x, Nat.gcd_comm]
      rw [g]
    · have hb0 : b = 0 := by omega
      subst hb0
      have e1 : tVal (e2 oGt (eVar j) (eC (.int 0))) ρ M = some (false, M) := by simp [tVal, e2, eVar, eC, ej]
      simp only [e1]
      have g : ((Int.gcd a 0 : Nat) : Int) = a := by
        rw [Int.gcd_zero_right]
        omega
      rw [g]
      congr 2
      apply List.ext_getElem?
      intro k
      by_cases hk : j = k
      · subst hk
        rw [List.getElem?_set_self (by simpa using hj), ej]
      · rw [List.getElem?_set_ne hk]
        by_cases hk2 : i = k
        · subst hk2
          rw [List.getElem?_set_self hi, ei]
        · rw [List.getElem?_set_ne hk2]
theorem gcd_abs (t b : Int) : Int.gcd (if t < 0 then -t else t) (if b < 0 then -b else b) = Int.gcd t b := by
  split <;> split <;> simp [Int.gcd_neg, Int.neg_gcd]
theorem abs_nn (t : Int) : 0 ≤ (if t < 0 then -t else t) := by split <;> omega
theorem fdiv_ne {b g : Int} (h : b ≠ 0) (hd : g ∣ b) : b.fdiv g ≠ 0 := by
  obtain ⟨c, rfl⟩ := hd
  by_cases hg : g = 0
  · subst hg; simp at h
  · rw [Int.mul_fdiv_cancel_left _ hg]
    intro z
    subst z
    simp at h
theorem gcd_pos {t b : Int} (h : b ≠ 0) : (0 : Int) < (Int.gcd t b : Int) := by
  have := Int.gcd_pos_of_ne_zero_right t h
  omega
theorem gcd_bd {t b A : Int} (h : b ≠ 0) (hb : bd A b) : bd A (Int.gcd t b : Int) := by
  have h1 := Int.gcd_le_natAbs_right t h
  have h2 := bd_natAbs hb
  exact ⟨by omega, by omega⟩
theorem gcd_dvd_r (t b : Int) : (Int.gcd t b : Int) ∣ b := Int.gcd_dvd_right ..
theorem gcd_dvd_l (t b : Int) : (Int.gcd t b : Int) ∣ t := Int.gcd_dvd_left ..
/-! ### bounds by figures -/
def Bn (k : Nat) (x : Int) : Prop := bd (10 ^ k) x
theorem Bn.of {k : Nat} {x : Int} (h : bd (10 ^ k) x) : Bn k x := h
theorem Bn.mono {j k : Nat} {x : Int} (h : Bn j x) (l : j ≤ k) : Bn k x := bd_mono h (by
  have : (10 : Nat) ^ j ≤ 10 ^ k := Nat.pow_le_pow_right (by decide) l
  exact_mod_cast this)
theorem Bn.mul {j k : Nat} {x y : Int} (hx : Bn j x) (hy : Bn k y) : Bn (j + k) (x * y) := bd_mul hx hy (by rw [Int.pow_add]; exact Int.le_refl _)
theorem ten_succ (k : Nat) : (10 : Int) ^ (k + 1) = 10 ^ k * 10 := Int.pow_succ ..
theorem ten_pos (k : Nat) : (0 : Int) < 10 ^ k := Int.pow_pos (by decide)
theorem Bn.add {k : Nat} {x y : Int} (hx : Bn k x) (hy : Bn k y) : Bn (k + 1) (x + y) := bd_add hx hy (by rw [ten_succ]; have := ten_pos k; omega)
theorem Bn.sub {k : Nat} {x y : Int} (hx : Bn k x) (hy : Bn k y) : Bn (k + 1) (x - y) := bd_sub hx hy (by rw [ten_succ]; have := ten_pos k; omega)
theorem Bn.neg {k : Nat} {x : Int} (hx : Bn k x) : Bn k (-x) := bd_neg hx
theorem Bn.ok {j k : Nat} {x y : Int} (hx : Bn j x) (hy : Bn k y) (hj : j ≤ 100000) (hk : k ≤ 100000) : mulOk x y := by
  have up : ∀ {m : Nat} {z : Int}, Bn m z → m ≤ 100000 → iLn z := fun {m z} h hm => by
    unfold iLn
    have h1 : z.natAbs < 2 ^ (4 * m + 1) := by
      have a := bd_natAbs h
      have b : (10 : Nat) ^ m ≤ 2 ^ (4 * m) := by
        rw [Nat.pow_mul]
        exact Nat.pow_le_pow_left (by decide) m
      have c : (z.natAbs : Int) ≤ ((10 ^ m : Nat) : Int) := by simpa using a
      have d : z.natAbs ≤ 10 ^ m := by exact_mod_cast c
      have e : 2 ^ (4 * m + 1) = 2 ^ (4 * m) * 2 := Nat.pow_succ ..
      have f : 0 < 2 ^ (4 * m) := Nat.two_pow_pos _
      omega
    have := log2_lt h1 (by omega)
    omega
  exact .inr (.inr ⟨up hx hj, up hy hk⟩)
theorem Bn.div {k : Nat} {x : Int} (h : Bn k x) (h0 : x ≠ 0) (hk : k ≤ 2000) : divOk x := by
  refine ⟨h0, ?_⟩
  have h1 : x.natAbs < 2 ^ (4 * k + 1) := by
    have a := bd_natAbs h
    have b : (10 : Nat) ^ k ≤ 2 ^ (4 * k) := by
      rw [Nat.pow_mul]
      exact Nat.pow_le_pow_left (by decide) k
    have c : (x.natAbs : Int) ≤ ((10 ^ k : Nat) : Int) := by simpa using a
    have d : x.natAbs ≤ 10 ^ k := by exact_mod_cast c
    have e : 2 ^ (4 * k + 1) = 2 ^ (4 * k) * 2 := Nat.pow_succ ..
    have f : 0 < 2 ^ (4 * k) := Nat.two_pow_pos _
    omega
  have := log2_lt h1 (by omega)
  omega
end Rw
end PRwMath
section PRwLib
set_option autoImplicit false
set_option linter.all false
set_option maxRecDepth 100000
/-! RwLib: comprehensions, sums, lists of ints. -/
namespace Rw
open PySem (Str)
section
variable {ρ : DEnv} {M : DSt}
@[simp ↓] theorem ok_comp {c : Bool} {it : DI} {tg : Tgt} {t : DT} {el : DE} {own : List Nat} {P : Dv × DSt → Prop} : Ok (eComp c it tg t el own ρ M) P ↔ Ok (it ρ M) fun p => p.1.length ≤ big ∧ Ok (compL (stand p.2.1 p.2.2) (compStep tg t el (wipeD ρ own)) p.1 p.2.2) fun q => Ok (mkL c q.1 q.2) P := by
  unfold eComp
  cases h : it ρ M with
  | none => simp
  | some p =>
    obtain ⟨xs, src, M1⟩ := p
    simp only [ok_some, ok_grd]
    refine and_congr_right fun _ => ?_
    cases h2 : compL (stand src M1) (compStep tg t el (wipeD ρ own)) xs M1 with
    | none => simp
    | some q => simp
@[simp ↓] theorem ok_compStep {tg : Tgt} {t : DT} {el : DE} {x : D} {P : Option D × DSt → Prop} : Ok (compStep tg t el ρ x M) P ↔ Ok (tg.put (.d x) ρ) fun ρ1 => Ok (t ρ1 M) fun p => if p.1 = true then Ok (el ρ1 p.2) fun q => Ok (asD q.1) fun y => P (some y, q.2) else P (none, p.2) := by
  unfold compStep
  cases h : tg.put (.d x) ρ with
  | none => simp
  | some ρ1 =>
    simp only [ok_some]
    cases h2 : t ρ1 M with
    | none => simp
    | some p =>
      obtain ⟨b, M1⟩ := p
      cases b with
      | false => simp
      | true =>
        simp only [ok_some, if_true]
        cases h3 : el ρ1 M1 with
        | none => simp
        | some q =>
          obtain ⟨v, M2⟩ := q
          cases v <;> simp [asD]
end
/-- a comprehension that changes nothing -/
theorem comp_map {α : Type} {chk : DSt → Prop} {step : D → DSt → Option (Option D × DSt)} {M : DSt} {P : List D × DSt → Prop} {f : α → D} {l : List α} (g : α → D) (hc : chk M)
    (h : ∀ a ∈ l, Ok (step (f a) M) fun p => p = (some (g a), M)) (k : P (l.map g, M)) : Ok (compL chk step (l.map f) M) P := by
  refine Ok.of (x := (l.map g, M)) ?_ k
  clear k
  induction l with
  | nil => simp [compL, grd_ok hc]
  | cons a l ih =>
    have e := ok_eq (h a (by simp))
    have r := ih fun a ha => h a (by simp [ha])
    simp [compL, grd_ok hc, e, r]
/-- .. with a test -/
theorem comp_fm {α : Type} {chk : DSt → Prop} {step : D → DSt → Option (Option D × DSt)} {M : DSt} {P : List D × DSt → Prop} {f : α → D} {l : List α} (g : α → Option D) (hc : chk M)
    (h : ∀ a ∈ l, Ok (step (f a) M) fun p => p = (g a, M)) (k : P (l.filterMap g, M)) : Ok (compL chk step (l.map f) M) P := by
  refine Ok.of (x := (l.filterMap g, M)) ?_ k
  clear k
  induction l with
  | nil => simp [compL, grd_ok hc]
  | cons a l ih =>
    have e := ok_eq (h a (by simp))
    have r := ih fun a ha => h a (by simp [ha])
    simp only [List.map_cons, compL, grd_ok hc, e, r, List.filterMap_cons]
    cases g a <;> simp
/-- a comprehension that draws: what every item has -/
theorem comp_draw {chk : DSt → Prop} {step : D → DSt → Option (Option D × DSt)} {P : List D × DSt → Prop} (I : DSt → Prop) (R : D → Prop) (hc : ∀ M, I M → chk M) : ∀ {xs : List D} {M : DSt}, I M →
    (∀ x ∈ xs, ∀ M, I M → Ok (step x M) fun p => I p.2 ∧ ∃ y, p.1 = some y ∧ R y) → (∀ ys M, I M → ys.length = xs.length → (∀ y ∈ ys, R y) → P (ys, M)) → Ok (compL chk step xs M) P := by
  intro xs
  induction xs generalizing P with
  | nil =>
    intro M hM h k
    simp only [compL, ok_grd, ok_some]
    exact ⟨hc M hM, k [] M hM rfl (by simp)⟩
  | cons x xs ih =>
    intro M hM h k
    obtain ⟨⟨o, M1⟩, e, hM1, y, rfl, hy⟩ := h x (by simp) M hM
    have r := ih (P := fun q => P (y :: q.1, q.2)) hM1 (fun z hz => h z (by simp [hz])) fun ys M2 h2 l a => k _ _ h2 (by simp [l]) (by
      intro z hz
      rcases List.mem_cons.mp hz with rfl | hz
      · exact hy
      · exact a z hz)
    simp only [compL, ok_grd]
    refine ⟨hc M hM, ?_⟩
    obtain ⟨⟨ys, M2⟩, e2, hP⟩ := r
    simp only [e, e2, ok_some]
    exact hP
theorem rng_map {a : Int} {n : Nat} : rng a n = (List.range n).map fun (k : Nat) => .int (a + (k : Int)) := rfl
theorem rng0 {n : Nat} : rng 0 n = (List.range n).map fun (k : Nat) => .int (k : Int) := by simp [rng]
theorem zip_map {xs ys : List Int} : zipD (xs.map D.int) (ys.map D.int) = (xs.zip ys).map fun p => .tup [.int p.1, .int p.2] := by
  induction xs generalizing ys with
  | nil => rfl
  | cons x xs ih => cases ys <;> simp [zipD, ih]
@[simp] theorem intsD_map {ns : List Int} : intsD (ns.map D.int) = some ns := by
  induction ns with
  | nil => rfl
  | cons n ns ih => simp [intsD, ih]
theorem intsD_mapf {α : Type} {l : List α} {g : α → Int} : intsD (l.map fun a => D.int (g a)) = some (l.map g) := by
  have : (l.map fun a => D.int (g a)) = (l.map g).map D.int := by simp
  rw [this, intsD_map]
section
variable {M : DSt} {P : Dv × DSt → Prop}
@[simp ↓] theorem ok_sum {ns : List Int} : Ok (oSum [.d (.lst (ns.map D.int))] M) P ↔ P (.d (.int ns.sum), M) := by simp [oSum]
@[simp ↓] theorem ok_sumf {α : Type} {l : List α} {g : α → Int} : Ok (oSum [.d (.lst (l.map fun a => D.int (g a)))] M) P ↔ P (.d (.int (l.map g).sum), M) := by simp only [oSum, lv_lst, intsD_mapf, ok_some]
@[simp ↓] theorem ok_len {xs : List D} : Ok (oLen [.d (.lst xs)] M) P ↔ P (.d (.int xs.length), M) := by simp [oLen]
@[simp ↓] theorem ok_lenT {xs : List D} : Ok (oLen [.d (.tup xs)] M) P ↔ P (.d (.int xs.length), M) := by simp [oLen]
@[simp ↓] theorem ok_lenR {xs : List D} : Ok (oLen [.r xs] M) P ↔ P (.d (.int xs.length), M) := by simp [oLen]
@[simp ↓] theorem ok_lenC {n : Nat} : Ok (oLen [.c n] M) P ↔ Ok (cel M n) fun xs => P (.d (.int xs.length), M) := by
  unfold oLen cel
  simp only [sv_c]
  cases (M[n]?).join <;> simp
@[simp ↓] theorem ok_wZ2 {xs ys : List D} {P : List D × List Nat × DSt → Prop} : Ok (wZ [.d (.lst xs), .d (.lst ys)] M) P ↔ P (zipD xs ys, [], M) := by simp [wZ]
@[simp ↓] theorem ok_eqS {s t : Str} : Ok (oEq (.d (.str s)) (.d (.str t)) M) P ↔ (strFine s = true ∧ strFine t = true) ∧ P (.d (.bl (s == t)), M) := by
  simp [oEq, dv, D.shp, D.eqv]
@[simp ↓] theorem ok_neS {s t : Str} : Ok (oNe (.d (.str s)) (.d (.str t)) M) P ↔ (strFine s = true ∧ strFine t = true) ∧ P (.d (.bl (!(s == t))), M) := by
  simp [oNe, dv, D.shp, D.eqv]
end
/-- == of two data -/
theorem ok_eqD {x y : D} {M : DSt} {P : Dv × DSt → Prop} (hx : x.shp 9 = true) (hy : y.shp 9 = true) : Ok (oEq (.d x) (.d y) M) P ↔ P (.d (.bl (D.eqv x y)), M) := by
  simp [oEq, dv, hx, hy]
theorem ok_neD {x y : D} {M : DSt} {P : Dv × DSt → Prop} (hx : x.shp 9 = true) (hy : y.shp 9 = true) : Ok (oNe (.d x) (.d y) M) P ↔ P (.d (.bl (!D.eqv x y)), M) := by
  simp [oNe, dv, hx, hy]
mutual
theorem eqv_refl : ∀ (n : Nat) (x : D), x.shp n = true → D.eqv x x = true
  | _, .non, _ => rfl
  | _, .bl _, _ => by simp [D.eqv]
  | _, .int _, _ => by simp [D.eqv]
  | _, .str _, _ => by simp [D.eqv]
  | _, .ty _, h => by simp [D.shp] at h
  | 0, .lst _, h => by simp [D.shp] at h
  | 0, .tup _, h => by simp [D.shp] at h
  | n + 1, .lst xs, h => by
    simp only [D.eqv]
    exact eqvs_refl n xs (by simpa [D.shp] using h)
  | n + 1, .tup xs, h => by
    simp only [D.eqv]
    exact eqvs_refl n xs (by simpa [D.shp] using h)
theorem eqvs_refl : ∀ (n : Nat) (xs : List D), (∀ x ∈ xs, x.shp n = true) → D.eqvs xs xs = true
  | _, [], _ => rfl
  | n, x :: xs, h => by
    simp only [D.eqvs, Bool.and_eq_true]
    exact ⟨eqv_refl n x (h x (by simp)), eqvs_refl n xs fun y hy => h y (by simp [hy])⟩
end
/-- != of one and the same -/
theorem ok_neSame {x : D} {M : DSt} {P : Dv × DSt → Prop} (hx : x.shp 9 = true) : Ok (oNe (.d x) (.d x) M) P ↔ P (.d (.bl false), M) := by
  rw [ok_neD hx hx, eqv_refl 9 x hx]
  rfl
theorem ok_eqSame {x : D} {M : DSt} {P : Dv × DSt → Prop} (hx : x.shp 9 = true) : Ok (oEq (.d x) (.d x) M) P ↔ P (.d (.bl true), M) := by
  rw [ok_eqD hx hx, eqv_refl 9 x hx]
/-! ### bounds of sums -/
theorem sum_bd {A : Int} {xs : List Int} {n : Nat} (h : ∀ x ∈ xs, bd A x) (hn : xs.length ≤ n) (hA : 0 ≤ A) : bd (n * A) xs.sum := by
  induction xs generalizing n with
  | nil =>
    have := Int.mul_nonneg (show (0 : Int) ≤ n by omega) hA
    exact ⟨by simp; omega, by simp; omega⟩
  | cons x xs ih =>
    cases n with
    | zero => simp at hn
    | succ n =>
      have a := ih (n := n) (fun y hy => h y (by simp [hy])) (by simpa using hn)
      have b := h x (by simp)
      rw [List.sum_cons]
      exact bd_add b a (by
        have : ((n + 1 : Nat) : Int) * A = (n : Int) * A + A := by rw [Int.natCast_add, Int.add_mul]; simp
        omega)
theorem Bn.sum {k : Nat} {xs : List Int} (h : ∀ x ∈ xs, Bn k x) (hn : xs.length ≤ 100) : Bn (k + 2) xs.sum := by
  refine bd_mono (sum_bd h hn (Int.le_of_lt (ten_pos k))) ?_
  rw [Int.pow_add]
  have := ten_pos k
  show (100 : Int) * 10 ^ k ≤ 10 ^ k * 10 ^ 2
  omega
/-- a loop that gathers -/
theorem forL_fold {α β : Type} {chk : DSt → Prop} {step : D → DEnv → DSt → Option Out} {M : DSt} {P : Out → Prop} {f : α → D} (env : β → DEnv) (g : β → α → β) (Inv : β → Prop) (hc : chk M) : ∀ {l : List α} {b : β}, Inv b →
    (∀ b a, a ∈ l → Inv b → Inv (g b a) ∧ Ok (step (f a) (env b) M) (turnP (fun ρ M' => M' = M ∧ ρ = env (g b a)) P)) → (Inv (l.foldl g b) → P (.nx (env (l.foldl g b)) M)) → Ok (forL chk step (l.map f) (env b) M) P
  | [], b, hi, _, k => by
    simp only [List.map_nil, forL, ok_grd, ok_some]
    exact ⟨hc, k hi⟩
  | a :: l, b, hi, h, k => by
    obtain ⟨hi', h1⟩ := h b a (by simp) hi
    rw [List.map_cons, ok_forC]
    refine ⟨hc, h1.mono ?_⟩
    intro o ho
    have r := forL_fold (f := f) env g Inv hc (l := l) hi' (fun b a ha => h b a (by simp [ha])) k
    cases o with
    | nx ρ M' => obtain ⟨rfl, rfl⟩ := ho; exact r
    | ct ρ M' => obtain ⟨rfl, rfl⟩ := ho; exact r
    | bk ρ M' => exact ho
    | rt v M' => exact ho
end Rw
end PRwLib
section PRwFar
set_option autoImplicit false
set_option linter.all false
set_option maxRecDepth 100000
/-! RwFar: how far two lists are, in plain ints. -/
namespace Rw
open PySem (Str)
inductive Kd where
  | pl | mo | sh
def Kd.s : Kd → D
  | .pl => .str "plain"
  | .mo => .str "moved"
  | .sh => .str "shape"
def frD (p : Int × Int) : D := .tup [.int p.1, .int p.2]
def unevenZ (xs : List Int) : Int := (xs.length : Int) * (xs.map fun x => x * x).sum - xs.sum * xs.sum
def diffZ (xs ys : List Int) : List Int := (xs.zip ys).map fun p => p.1 - p.2
def dotZ (xs ys : List Int) : Int := ((xs.zip ys).map fun p => p.1 * p.2).sum
def signG (t b : Int) : Int := if b < 0 then -(Int.gcd t b : Int) else (Int.gcd t b : Int)
def madeZ (t b : Int) : Int × Int := (t.fdiv (signG t b), b.fdiv (signG t b))
def bothZ (xs ys : List Int) : Int := (xs.length : Int) * dotZ xs ys - xs.sum * ys.sum
def farZ : Kd → List Int → List Int → Int × Int
  | .pl, xs, ys => madeZ ((diffZ xs ys).map fun d => d * d).sum xs.length
  | .mo, xs, ys => madeZ (unevenZ (diffZ xs ys)) ((xs.length : Int) * xs.length)
  | .sh, xs, ys => if unevenZ xs = 0 ∨ unevenZ ys = 0 then (if unevenZ xs = unevenZ ys then (0, 1) else (1, 1))
    else madeZ (unevenZ xs * unevenZ ys - bothZ xs ys * (if bothZ xs ys < 0 then -bothZ xs ys else bothZ xs ys)) (unevenZ xs * unevenZ ys)
def lessZ (a b : Int × Int) : Bool := decide (a.1 * b.2 < b.1 * a.2)
/-- a row of ints within k figures, at most 100 -/
def Row (k : Nat) (xs : List Int) : Prop := (∀ x ∈ xs, Bn k x) ∧ xs.length ≤ 100
theorem Row.diff {k : Nat} {xs ys : List Int} (hx : Row k xs) (hy : Row k ys) : Row (k + 1) (diffZ xs ys) := by
  refine ⟨?_, ?_⟩
  · intro d hd
    simp only [diffZ, List.mem_map] at hd
    obtain ⟨⟨a, b⟩, hp, rfl⟩ := hd
    have := List.of_mem_zip hp
    exact (hx.1 a this.1).sub (hy.1 b this.2)
  · have := hx.2
    simp [diffZ]
    omega
theorem Bn.nat {n : Nat} (h : n ≤ 100) : Bn 2 (n : Int) := ⟨by show -(100 : Int) ≤ _; omega, by show _ ≤ (100 : Int); omega⟩
theorem Row.sum {k : Nat} {xs : List Int} (h : Row k xs) : Bn (k + 2) xs.sum := Bn.sum h.1 h.2
theorem Row.sqs {k : Nat} {xs : List Int} (h : Row k xs) : Bn (k + k + 2) (xs.map fun x => x * x).sum := by
  refine Bn.sum ?_ (by simpa using h.2)
  intro y hy
  obtain ⟨x, hx, rfl⟩ := List.mem_map.mp hy
  exact (h.1 x hx).mul (h.1 x hx)
theorem Row.uneven {k : Nat} {xs : List Int} (h : Row k xs) : Bn (k + k + 5) (unevenZ xs) := by
  unfold unevenZ
  exact (((Bn.nat h.2).mul h.sqs).mono (k := k + k + 4) (by omega)).sub ((h.sum.mul h.sum).mono (by omega))
theorem Row.dot {k : Nat} {xs ys : List Int} (hx : Row k xs) (hy : Row k ys) : Bn (k + k + 2) (dotZ xs ys) := by
  refine Bn.sum ?_ ?_
  · intro z hz
    obtain ⟨⟨a, b⟩, hp, rfl⟩ := List.mem_map.mp hz
    have := List.of_mem_zip hp
    exact (hx.1 a this.1).mul (hy.1 b this.2)
  · have := hx.2
    simp
    omega
theorem Row.both {k : Nat} {xs ys : List Int} (hx : Row k xs) (hy : Row k ys) : Bn (k + k + 5) (bothZ xs ys) :=
  (((Bn.nat hx.2).mul (hx.dot hy)).mono (k := k + k + 4) (by omega)).sub ((hx.sum.mul hy.sum).mono (by omega))
theorem Bn.abs {k : Nat} {x : Int} (h : Bn k x) : Bn k (if x < 0 then -x else x) := by
  split
  · exact h.neg
  · exact h
theorem signG_ne {t b : Int} (h : b ≠ 0) : signG t b ≠ 0 := by
  have := gcd_pos (t := t) h
  unfold signG
  split <;> omega
theorem signG_bn {t b : Int} {k : Nat} (h : b ≠ 0) (hb : Bn k b) : Bn k (signG t b) := by
  have := gcd_bd (t := t) h hb
  unfold signG
  split
  · exact bd_neg this
  · exact this
theorem Bn.fdiv {k : Nat} {x y : Int} (h : Bn k x) : Bn k (x.fdiv y) := bd_fdiv h
theorem madeZ_bn {k : Nat} {t b : Int} (ht : Bn k t) (hb : Bn k b) : Bn k (madeZ t b).1 ∧ Bn k (madeZ t b).2 := ⟨ht.fdiv, hb.fdiv⟩
theorem Row.shTop {k : Nat} {xs ys : List Int} (hx : Row k xs) (hy : Row k ys) : Bn (4 * k + 11) (unevenZ xs * unevenZ ys - bothZ xs ys * (if bothZ xs ys < 0 then -bothZ xs ys else bothZ xs ys)) :=
  ((hx.uneven.mul hy.uneven).mono (k := 4 * k + 10) (by omega)).sub (((hx.both hy).mul (hx.both hy).abs).mono (by omega))
theorem Row.shBot {k : Nat} {xs ys : List Int} (hx : Row k xs) (hy : Row k ys) : Bn (4 * k + 11) (unevenZ xs * unevenZ ys) := (hx.uneven.mul hy.uneven).mono (by omega)
theorem farZ_bn {k : Nat} {xs ys : List Int} (kd : Kd) (hx : Row k xs) (hy : Row k ys) : Bn (4 * k + 11) (farZ kd xs ys).1 ∧ Bn (4 * k + 11) (farZ kd xs ys).2 := by
  have o : ∀ {z : Int}, z = 0 ∨ z = 1 → Bn (4 * k + 11) z := by
    intro z hz
    have : Bn 1 z := by rcases hz with rfl | rfl <;> exact ⟨by decide, by decide⟩
    exact this.mono (by omega)
  cases kd with
  | pl => exact madeZ_bn ((hx.diff hy).sqs.mono (by omega)) ((Bn.nat hx.2).mono (by omega))
  | mo => exact madeZ_bn ((hx.diff hy).uneven.mono (by omega)) (((Bn.nat hx.2).mul (Bn.nat hx.2)).mono (by omega))
  | sh =>
    rw [show farZ .sh xs ys = if unevenZ xs = 0 ∨ unevenZ ys = 0 then (if unevenZ xs = unevenZ ys then (0, 1) else (1, 1)) else madeZ (unevenZ xs * unevenZ ys - bothZ xs ys * (if bothZ xs ys < 0 then -bothZ xs ys else bothZ xs ys)) (unevenZ xs * unevenZ ys) from rfl]
    by_cases h1 : unevenZ xs = 0 ∨ unevenZ ys = 0
    · rw [if_pos h1]
      by_cases h2 : unevenZ xs = unevenZ ys
      · rw [if_pos h2]
        exact ⟨o (.inl rfl), o (.inr rfl)⟩
      · rw [if_neg h2]
        exact ⟨o (.inr rfl), o (.inr rfl)⟩
    · rw [if_neg h1]
      exact madeZ_bn (hx.shTop hy) (hx.shBot hy)
theorem frD_shp {p : Int × Int} {n : Nat} : (frD p).shp (n + 1) = true := by simp [frD, D.shp]
/-! ### stretches -/
def cutZ (xs : List Int) (l p : Nat) : List Int := (xs.drop p).take l
def stretchesZ (xs : List Int) (l : Nat) : List (List Int) := (List.range (xs.length + 1 - l)).map fun p => cutZ xs l p
theorem cutD_map {xs : List Int} {l p : Nat} (h : p + l ≤ xs.length) : cutD (xs.map D.int) (some (p : Int)) (some ((p : Int) + (l : Int))) = (cutZ xs l p).map D.int := by
  unfold cutD cutZ sIxD
  have a : ¬ ((p : Int) < 0) := by omega
  have b : ¬ ((p : Int) + (l : Int) < 0) := by omega
  simp only [a, b, if_false, List.length_map]
  have c : min (p : Int).toNat xs.length = p := by omega
  have d : min ((p : Int) + (l : Int)).toNat xs.length = p + l := by omega
  rw [c, d, ← List.map_drop, ← List.map_take]
  congr 2
  omega
theorem cutZ_rw {k l p : Nat} {xs : List Int} (h : Row k xs) : Row k (cutZ xs l p) := by
  refine ⟨fun x hx => h.1 x (List.mem_of_mem_drop (List.mem_of_mem_take hx)), ?_⟩
  have := h.2
  simp [cutZ]
  omega
theorem cutZ_len {l p : Nat} {xs : List Int} (h : p + l ≤ xs.length) : (cutZ xs l p).length = l := by
  simp [cutZ]
  omega
/-! ### the nearest -/
/-- the nearest so far, with its place -/
def bestD : Option ((Int × Int) × Nat) → D
  | none => .non
  | some (f, q) => .tup [frD f, .int q]
def stepZ (b : Option ((Int × Int) × Nat)) (f : Int × Int) (q : Nat) : Option ((Int × Int) × Nat) := match b with
  | none => some (f, q)
  | some (g, r) => if lessZ f g then some (f, q) else some (g, r)
def nthZ (ss : List (List Int)) (p : Nat) : List Int := ss.getD p []
def farAt (kd : Kd) (ss : List (List Int)) (p q : Nat) : Int × Int := farZ kd (nthZ ss p) (nthZ ss q)
def nearTo (kd : Kd) (ss : List (List Int)) (gap p : Nat) : Nat → Option ((Int × Int) × Nat)
  | 0 => none
  | q + 1 => if gap ≤ (q - p) + (p - q) then stepZ (nearTo kd ss gap p q) (farAt kd ss p q) q else nearTo kd ss gap p q
def nearZ (kd : Kd) (ss : List (List Int)) (gap p : Nat) : Option ((Int × Int) × Nat) := nearTo kd ss gap p ss.length
def tableZ (kd : Kd) (xs : List Int) (gap l : Nat) : List (Option ((Int × Int) × Nat)) := (List.range (stretchesZ xs l).length).map fun p => nearZ kd (stretchesZ xs l) gap p
theorem bestD_shp {b : Option ((Int × Int) × Nat)} {n : Nat} : (bestD b).shp (n + 2) = true := by
  cases b with
  | none => rfl
  | some x => simp [bestD, D.shp, frD]
/-! ### rows as data -/
def rowD (s : List Int) : D := .lst (s.map D.int)
def rowsD (ss : List (List Int)) : List D := ss.map rowD
theorem enumD_at {xs : List D} {k i : Nat} {x : D} : (enumD k xs)[i]? = some x ↔ ∃ y, xs[i]? = some y ∧ x = .tup [.int ((k + i : Nat) : Int), y] := by
  induction xs generalizing k i with
  | nil => simp [enumD]
  | cons y ys ih =>
    cases i with
    | zero => simp [enumD, eq_comm]
    | succ i =>
      simp only [enumD, List.getElem?_cons_succ, ih]
      constructor
      · rintro ⟨z, h, rfl⟩
        exact ⟨z, h, by congr 3; omega⟩
      · rintro ⟨z, h, rfl⟩
        exact ⟨z, h, by congr 3; omega⟩
theorem enumD_len {xs : List D} {k : Nat} : (enumD k xs).length = xs.length := by
  induction xs generalizing k with
  | nil => rfl
  | cons y ys ih => simp [enumD, ih]
theorem ok_atN {xs : List D} {k : Nat} {z : D} {P : D → Prop} (h : xs[k]? = some z) : Ok (atD xs (k : Int)) P ↔ P z := by
  have hk := (List.getElem?_eq_some_iff.mp h).1
  simp [atD, ixD_nat hk, h]
theorem rowsD_at {ss : List (List Int)} {p : Nat} (h : p < ss.length) : (rowsD ss)[p]? = some (rowD (nthZ ss p)) := by
  simp [rowsD, nthZ, List.getElem?_map, List.getElem?_eq_getElem h, List.getD_eq_getElem?_getD]
theorem getD_mem {ss : List (List Int)} {p : Nat} (h : p < ss.length) : nthZ ss p ∈ ss := by
  rw [nthZ, List.getD_eq_getElem?_getD, List.getElem?_eq_getElem h]
  exact List.getElem_mem h
/-- stretches that can be compared -/
def Fine (k : Nat) (ss : List (List Int)) : Prop := (∀ s ∈ ss, Row k s ∧ 0 < s.length) ∧ ss.length ≤ 100
theorem farAt_bn {k : Nat} {ss : List (List Int)} {p q : Nat} (kd : Kd) (h : Fine k ss) (hp : p < ss.length) (hq : q < ss.length) : Bn (4 * k + 11) (farAt kd ss p q).1 ∧ Bn (4 * k + 11) (farAt kd ss p q).2 :=
  farZ_bn kd (h.1 _ (getD_mem hp)).1 (h.1 _ (getD_mem hq)).1
theorem nearTo_bn {k : Nat} {ss : List (List Int)} {p gap : Nat} (kd : Kd) (h : Fine k ss) (hp : p < ss.length) : ∀ {n : Nat}, n ≤ ss.length → ∀ {f : Int × Int} {r : Nat}, nearTo kd ss gap p n = some (f, r) → Bn (4 * k + 11) f.1 ∧ Bn (4 * k + 11) f.2
  | 0, _, _, _, e => by cases e
  | n + 1, hn, f, r, e => by
    have b := farAt_bn kd h hp (show n < ss.length by omega)
    unfold nearTo at e
    split at e
    · unfold stepZ at e
      split at e
      · cases e
        exact b
      · rename_i g r' e'
        split at e
        · cases e
          exact b
        · cases e
          exact nearTo_bn kd h hp (by omega) e'
    · exact nearTo_bn kd h hp (by omega) e
theorem stretches_fine {k l : Nat} {xs : List Int} (h : Row k xs) (hl : 0 < l) : Fine k (stretchesZ xs l) := by
  refine ⟨?_, ?_⟩
  · intro s hs
    obtain ⟨p, hp, rfl⟩ := List.mem_map.mp hs
    have := List.mem_range.mp hp
    exact ⟨cutZ_rw h, by rw [cutZ_len (by omega)]; exact hl⟩
  · have := h.2
    simp [stretchesZ]
    omega
theorem gap_int {q p gap : Nat} : ((gap : Int) ≤ (if (q : Int) - (p : Int) < 0 then -((q : Int) - (p : Int)) else (q : Int) - (p : Int))) ↔ gap ≤ (q - p) + (p - q) := by
  split <;> omega
theorem gap_int2 {q p gap : Nat} : ((gap : Int) ≤ (if (q : Int) - (p : Int) > (p : Int) - (q : Int) then (q : Int) - (p : Int) else (p : Int) - (q : Int))) ↔ gap ≤ (q - p) + (p - q) := by
  split <;> omega
theorem kind_in {M : DSt} {P : Dv × DSt → Prop} (kd : Kd) : Ok (oIn true (.d kd.s) (.d (.tup [.str "plain", .str "moved", .str "shape"])) M) P ↔ P (.d (.bl false), M) := by
  have t1 : (("moved" : Str) == "plain") = false := by decide +kernel
  have t2 : (("shape" : Str) == "plain") = false := by decide +kernel
  have t3 : (("shape" : Str) == "moved") = false := by decide +kernel
  have t4 : (("plain" : Str) == "moved") = false := by decide +kernel
  have t5 : (("plain" : Str) == "shape") = false := by decide +kernel
  have t6 : (("moved" : Str) == "shape") = false := by decide +kernel
  cases kd <;> simp [oIn, Kd.s, sv, D.flat, D.eqv, t1, t2, t3, t4, t5, t6]
theorem kd_shp {kd : Kd} {n : Nat} : kd.s.shp n = true := by
  cases kd <;> cases n <;> (unfold Kd.s D.shp; decide +kernel)
theorem table_shp {l : List (Option ((Int × Int) × Nat))} {n : Nat} : (D.lst (l.map bestD)).shp (n + 3) = true := by
  simp only [D.shp, List.all_map, List.all_eq_true]
  intro b _
  exact bestD_shp
theorem rowD_shp {xs : List Int} {n : Nat} : (rowD xs).shp (n + 1) = true := by
  simp only [rowD, D.shp, List.all_map, List.all_eq_true]
  intro b _
  cases n <;> rfl
/-! ### draws -/
/-- the purse: a cell with two ints -/
def Purse (n : Nat) (M : DSt) : Prop := ∃ a b, M[n]? = some (some [.int a, .int b])
/-- a store like M but for the purse -/
def Like (n : Nat) (M M' : DSt) : Prop := Purse n M' ∧ ∃ a b, M' = M.set n (some [.int a, .int b])
theorem Purse.like {n : Nat} {M : DSt} (h : Purse n M) : Like n M M := by
  refine ⟨h, ?_⟩
  obtain ⟨a, b, e⟩ := h
  refine ⟨a, b, ?_⟩
  obtain ⟨hn, e⟩ := List.getElem?_eq_some_iff.mp e
  rw [← e, List.set_getElem_self]
theorem Like.set {n : Nat} {M M' : DSt} (h : Like n M M') (a b : Int) : Like n M (M'.set n (some [.int a, .int b])) := by
  obtain ⟨⟨c, d, e⟩, x, y, rfl⟩ := h
  refine ⟨⟨a, b, ?_⟩, a, b, ?_⟩
  · rw [List.getElem?_set_self (List.getElem?_eq_some_iff.mp e).1]
  · rw [List.set_set]
theorem Like.len {n : Nat} {M M' : DSt} (h : Like n M M') : M'.length = M.length := by
  obtain ⟨_, a, b, rfl⟩ := h
  simp
theorem Like.trans {n : Nat} {M M' M'' : DSt} (h : Like n M M') (h' : Like n M' M'') : Like n M M'' := by
  obtain ⟨_, a, b, rfl⟩ := h
  obtain ⟨p, c, d, rfl⟩ := h'
  exact ⟨p, c, d, by rw [List.set_set]⟩
theorem ints_of {Q : Int → Prop} : ∀ {ys : List D}, (∀ y ∈ ys, ∃ z, y = .int z ∧ Q z) → ∃ zs : List Int, ys = zs.map D.int ∧ zs.length = ys.length ∧ ∀ z ∈ zs, Q z
  | [], _ => ⟨[], rfl, rfl, by simp⟩
  | y :: ys, h => by
    obtain ⟨z, rfl, hz⟩ := h y (by simp)
    obtain ⟨zs, rfl, hl, hq⟩ := ints_of (ys := ys) fun y hy => h y (by simp [hy])
    exact ⟨z :: zs, rfl, by simp, by simpa using ⟨hz, hq⟩⟩
/-- a drawn number: what the draw tells -/
def Drawn (n : Nat) (m : Int) (M : DSt) (p : Dv × DSt) : Prop := ∃ r : Nat, (r : Int) < m ∧ p.1 = .d (.int (r : Int)) ∧ Like n M p.2
theorem sIx_cut {xs : List D} : cutD xs none (some 63) = xs.take 63 := by
  unfold cutD sIxD
  simp only [List.drop_zero, Nat.sub_zero]
  rw [if_neg (by decide)]
  show List.take (min 63 xs.length) xs = _
  rw [Nat.min_def]
  split
  · rfl
  · rw [List.take_of_length_le (Nat.le_refl _), List.take_of_length_le (by omega)]
/-- a drawn int within k figures -/
def DrawnB (k n : Nat) (M : DSt) (p : Dv × DSt) : Prop := ∃ z : Int, Bn k z ∧ p.1 = .d (.int z) ∧ Like n M p.2
theorem Purse.lt {n : Nat} {M : DSt} (h : Purse n M) : n < M.length := by
  obtain ⟨a, b, e⟩ := h
  exact (List.getElem?_eq_some_iff.mp e).1
theorem Like.at {n c : Nat} {M M' : DSt} (h : Like n M M') (hc : c ≠ n) : M'[c]? = M[c]? := by
  obtain ⟨_, a, b, rfl⟩ := h
  rw [List.getElem?_set_ne (Ne.symm hc)]
/-- a store in which a def works: the purse drawn from, cells of its own behind -/
def Grown (n : Nat) (M M1 : DSt) : Prop := n < M.length ∧ M.length ≤ M1.length ∧ Purse n M1 ∧ Like n M (M1.take M.length)
theorem Purse.grown {n : Nat} {M : DSt} (h : Purse n M) : Grown n M M := ⟨h.lt, Nat.le_refl _, h, by rw [List.take_of_length_le (Nat.le_refl _)]; exact h.like⟩
theorem Grown.draw {n : Nat} {M M1 M2 : DSt} (h : Grown n M M1) (h' : Like n M1 M2) : Grown n M M2 := by
  obtain ⟨h0, h1, h2, h3⟩ := h
  obtain ⟨p, a, b, rfl⟩ := h'
  refine ⟨h0, by simpa using h1, p, ?_⟩
  rw [List.take_set]
  exact h3.set a b
theorem Grown.app {n : Nat} {M M1 : DSt} (h : Grown n M M1) (x : Option (List D)) : Grown n M (M1 ++ [x]) := by
  obtain ⟨h0, h1, h2, h3⟩ := h
  refine ⟨h0, by simp; omega, ?_, ?_⟩
  · obtain ⟨a, b, e⟩ := h2
    exact ⟨a, b, by rw [List.getElem?_append_left (by omega)]; exact e⟩
  · rw [List.take_append_of_le_length h1]
    exact h3
theorem Grown.put {n c : Nat} {M M1 : DSt} (h : Grown n M M1) (hc : M.length ≤ c) (x : Option (List D)) : Grown n M (M1.set c x) := by
  obtain ⟨h0, h1, h2, h3⟩ := h
  refine ⟨h0, by simpa using h1, ?_, ?_⟩
  · obtain ⟨a, b, e⟩ := h2
    exact ⟨a, b, by rw [List.getElem?_set_ne (by omega)]; exact e⟩
  · rw [List.take_set, List.set_eq_of_length_le (by simp; omega)]
    exact h3
theorem ok_finC {b c : Nat} {M : DSt} {xs : List D} {P : Dv × DSt → Prop} (h : b ≤ c) (e : M[c]? = some (some xs)) : Ok (fin b (.c c) M) P ↔ P (.c b, M.take b ++ [some xs]) := by
  have hn : ¬ c < b := by omega
  simp [fin, hn, e]
theorem atN {zs : List Int} {p : Nat} (hp : p < zs.length) : ∃ z, z ∈ zs ∧ (zs.map D.int)[p]? = some (.int z) :=
  ⟨zs[p], List.getElem_mem hp, by simp [List.getElem?_map, List.getElem?_eq_getElem hp]⟩
/-- an int item at an int place -/
theorem pickI {zs : List Int} {s : Int} {P : D → Prop} (h0 : 0 ≤ s) (h1 : s < zs.length) (h : ∀ z ∈ zs, P (.int z)) : Ok (atD (zs.map D.int) s) P :=
  pick h0 (by simpa using h1) fun d hd => by
    obtain ⟨z, hz, rfl⟩ := List.mem_map.mp hd
    exact h z hz
theorem cut_take {xs : List D} (r : Nat) : cutD xs none (some (r : Int)) = xs.take r := by
  unfold cutD sIxD
  simp only [List.drop_zero, Nat.sub_zero]
  rw [if_neg (by omega)]
  show List.take (min r xs.length) xs = _
  rw [Nat.min_def]
  split
  · rfl
  · rw [List.take_of_length_le (Nat.le_refl _), List.take_of_length_le (by omega)]
theorem cut_drop {xs : List D} (r : Nat) : cutD xs (some (r : Int)) none = xs.drop r := by
  unfold cutD sIxD
  simp only
  rw [if_neg (by omega)]
  show List.take (xs.length - min r xs.length) (List.drop (min r xs.length) xs) = _
  rw [List.take_of_length_le (by simp)]
  by_cases h : r ≤ xs.length
  · rw [Nat.min_eq_left h]
  · rw [Nat.min_eq_right (by omega), List.drop_of_length_le (Nat.le_refl _), List.drop_of_length_le (by omega)]
@[simp ↓] theorem ok_slC {M : DSt} {c : Bool} {n : Nat} {l h : Option Int} {P : Dv × DSt → Prop} : Ok (slU c (.c n) l h M) P ↔ Ok (cel M n) fun xs => Ok (mkL c (cutD xs l h) M) P := by
  simp only [slU, slL, lv_c, cel]
  cases (M[n]?).join <;> simp
@[simp ↓] theorem ok_rep {M : DSt} {c : Bool} {xs : List D} {k : Int} {P : Dv × DSt → Prop} : Ok (oMulU c (.d (.lst xs)) (.d (.int k)) M) P ↔ (-(2 ^ 62) ≤ k ∧ k < 2 ^ 62 ∧ xs.length * k.toNat ≤ big) ∧ Ok (mkL c (List.replicate k.toNat xs).flatten M) P := by
  simp only [oMulU, oRep, lw_lst, ok_grd]
theorem flat_one {α : Type} (n : Nat) (x : α) : (List.replicate n [x]).flatten = List.replicate n x := by
  induction n with
  | zero => rfl
  | succ n ih => simp [List.replicate_succ, ih]
theorem ok_frz {b : Nat} {M : DSt} {xs : List D} {P : Dv × DSt → Prop} (h : M.length = b) : Ok (frz b (.c b, M ++ [some xs])) P ↔ P (.d (.lst xs), M) := by
  subst h
  simp [frz]
/-- what is asked: a row, a kind, a gap, a length -/
def Asked (n m : Nat) (M : DSt) (p : Dv × DSt) : Prop := ∃ (zs : List Int) (kd : Kd) (gap l : Nat), Row 10 zs ∧ zs.length ≤ m ∧ 1 ≤ gap ∧ gap ≤ 200 ∧ 1 ≤ l ∧ l ≤ 40 ∧ p.1 = .d (.tup [rowD zs, kd.s, .int gap, .int l]) ∧ Like n M p.2
/-! ### order of fractions -/
theorem madeZ_pos {t b : Int} (h : b ≠ 0) : 0 < (madeZ t b).2 := by
  have hg := gcd_pos (t := t) h
  obtain ⟨c, hc⟩ := gcd_dvd_r t b
  unfold madeZ signG
  simp only
  generalize ((Int.gcd t b : Nat) : Int) = G at hg hc ⊢
  subst hc
  have hc0 : c ≠ 0 := by
    rintro rfl
    simp at h
  by_cases hn : G * c < 0
  · rw [if_pos hn]
    have hc : c < 0 := by
      by_cases q : c < 0
      · exact q
      · have := Int.mul_nonneg (Int.le_of_lt hg) (show 0 ≤ c by omega)
        omega
    rw [show G * c = -G * -c by rw [Int.neg_mul_neg], Int.mul_fdiv_cancel_left _ (by omega)]
    omega
  · rw [if_neg hn, Int.mul_fdiv_cancel_left _ (by omega)]
    by_cases q : 0 < c
    · exact q
    · have := Int.mul_neg_of_pos_of_neg hg (show c < 0 by omega)
      omega
theorem farZ_pos {xs ys : List Int} (kd : Kd) (h : 0 < xs.length) : 0 < (farZ kd xs ys).2 := by
  cases kd with
  | pl => exact madeZ_pos (by omega)
  | mo =>
    have := Int.mul_pos (show (0 : Int) < xs.length by omega) (show (0 : Int) < xs.length by omega)
    exact madeZ_pos (by omega)
  | sh =>
    rw [show farZ .sh xs ys = if unevenZ xs = 0 ∨ unevenZ ys = 0 then (if unevenZ xs = unevenZ ys then (0, 1) else (1, 1)) else madeZ (unevenZ xs * unevenZ ys - bothZ xs ys * (if bothZ xs ys < 0 then -bothZ xs ys else bothZ xs ys)) (unevenZ xs * unevenZ ys) from rfl]
    by_cases h1 : unevenZ xs = 0 ∨ unevenZ ys = 0
    · rw [if_pos h1]
      split <;> decide
    · rw [if_neg h1]
      exact madeZ_pos (Int.mul_ne_zero (fun e => h1 (.inl e)) (fun e => h1 (.inr e)))
theorem lessZ_iff {a b : Int × Int} : lessZ a b = true ↔ a.1 * b.2 < b.1 * a.2 := by simp [lessZ]
theorem lessZ_irr {a : Int × Int} : lessZ a a = false := by simp [lessZ]
theorem less_step {a f g : Int × Int} (ha : 0 < a.2) (hf : 0 < f.2) (hg : 0 < g.2) (h1 : lessZ f g = true) (h2 : lessZ a g = false) : lessZ a f = false := by
  rw [lessZ_iff] at h1
  have h2' : ¬ (a.1 * g.2 < g.1 * a.2) := by rw [← lessZ_iff, h2]; simp
  rw [← Bool.not_eq_true, lessZ_iff]
  intro h3
  have e1 : f.1 * g.2 * a.2 < g.1 * f.2 * a.2 := Int.mul_lt_mul_of_pos_right h1 ha
  have e2 : g.1 * a.2 * f.2 ≤ a.1 * g.2 * f.2 := Int.mul_le_mul_of_nonneg_right (by omega) (Int.le_of_lt hf)
  have e3 : a.1 * f.2 * g.2 < f.1 * a.2 * g.2 := Int.mul_lt_mul_of_pos_right h3 hg
  have x1 : g.1 * f.2 * a.2 = g.1 * a.2 * f.2 := by ac_rfl
  have x2 : a.1 * g.2 * f.2 = a.1 * f.2 * g.2 := by ac_rfl
  have x3 : f.1 * g.2 * a.2 = f.1 * a.2 * g.2 := by ac_rfl
  omega
/-- what the nearest is -/
def Apart (gap p q : Nat) : Prop := gap ≤ (q - p) + (p - q)
theorem nearTo_spec {kd : Kd} {ss : List (List Int)} {gap p : Nat} (hs : ∀ s ∈ ss, 0 < s.length) (hp : p < ss.length) : ∀ {n : Nat}, n ≤ ss.length →
    (nearTo kd ss gap p n = none → ∀ q, q < n → ¬ Apart gap p q) ∧ (∀ f r, nearTo kd ss gap p n = some (f, r) → (r < n ∧ Apart gap p r ∧ f = farAt kd ss p r) ∧ ∀ q, q < n → Apart gap p q → lessZ (farAt kd ss p q) f = false)
  | 0, _ => ⟨fun _ q h => by omega, fun f r h => by cases h⟩
  | n + 1, hn => by
    have pos : ∀ q, 0 < (farAt kd ss p q).2 := fun q => farZ_pos kd (hs _ (getD_mem hp))
    have ih := nearTo_spec (kd := kd) (gap := gap) hs hp (show n ≤ ss.length by omega)
    by_cases hg : gap ≤ (n - p) + (p - n)
    · rw [nearTo, if_pos hg]
      cases e : nearTo kd ss gap p n with
      | none =>
        have hno := ih.1 e
        refine ⟨fun h => by simp [stepZ] at h, fun f r h => ?_⟩
        simp only [stepZ] at h
        cases h
        refine ⟨⟨by omega, hg, rfl⟩, fun q hq ha => ?_⟩
        by_cases hqn : q = n
        · subst hqn
          exact lessZ_irr
        · exact absurd ha (hno q (by omega))
      | some gr =>
        obtain ⟨g, r0⟩ := gr
        obtain ⟨⟨a1, a2, a3⟩, a4⟩ := ih.2 g r0 e
        refine ⟨fun h => ?_, fun f r h => ?_⟩
        · simp only [stepZ] at h
          split at h <;> cases h
        · simp only [stepZ] at h
          by_cases hl : lessZ (farAt kd ss p n) g = true
          · rw [if_pos hl] at h
            cases h
            refine ⟨⟨by omega, hg, rfl⟩, fun q hq ha => ?_⟩
            by_cases hqn : q = n
            · subst hqn
              exact lessZ_irr
            · exact less_step (pos q) (pos n) (by rw [a3]; exact pos r0) hl (a4 q (by omega) ha)
          · rw [if_neg hl] at h
            cases h
            refine ⟨⟨by omega, a2, a3⟩, fun q hq ha => ?_⟩
            by_cases hqn : q = n
            · subst hqn
              simpa using hl
            · exact a4 q (by omega) ha
    · rw [nearTo, if_neg hg]
      refine ⟨fun h q hq ha => ?_, fun f r h => ?_⟩
      · by_cases hqn : q = n
        · subst hqn
          exact hg ha
        · exact ih.1 h q (by omega) ha
      · obtain ⟨⟨a1, a2, a3⟩, a4⟩ := ih.2 f r h
        refine ⟨⟨by omega, a2, a3⟩, fun q hq ha => ?_⟩
        by_cases hqn : q = n
        · subst hqn
          exact absurd ha hg
        · exact a4 q (by omega) ha
theorem stretches_len {xs : List Int} {l : Nat} : (stretchesZ xs l).length = xs.length + 1 - l := by simp [stretchesZ]
theorem nth_stretch {xs : List Int} {l p : Nat} (h : p < xs.length + 1 - l) : nthZ (stretchesZ xs l) p = cutZ xs l p := by
  simp [nthZ, stretchesZ, List.getD_eq_getElem?_getD, List.getElem?_map, List.getElem?_range h]
theorem cut_app {xs : List Int} {x : Int} {l p : Nat} (h : p + l ≤ xs.length) : cutZ (xs ++ [x]) l p = cutZ xs l p := by
  unfold cutZ
  rw [List.drop_append_of_le_length (by omega), List.take_append_of_le_length (by simp; omega)]
theorem nearTo_congr {kd : Kd} {ss ss' : List (List Int)} {gap p n : Nat} (hp : nthZ ss' p = nthZ ss p) (h : ∀ q, q < n → nthZ ss' q = nthZ ss q) : nearTo kd ss' gap p n = nearTo kd ss gap p n := by
  induction n with
  | zero => rfl
  | succ n ih =>
    have e := ih fun q hq => h q (by omega)
    rw [nearTo, nearTo, e]
    have : farAt kd ss' p n = farAt kd ss p n := by unfold farAt; rw [hp, h n (by omega)]
    rw [this]
/-- the nearest in a row that has grown by one -/
theorem near_grown {kd : Kd} {xs : List Int} {x : Int} {gap l p : Nat} (hl : 0 < l) (hp : p < xs.length + 1 - l) :
    nearZ kd (stretchesZ (xs ++ [x]) l) gap p = if gap ≤ (xs.length + 1 - l) - p then stepZ (nearZ kd (stretchesZ xs l) gap p) (farAt kd (stretchesZ (xs ++ [x]) l) p (xs.length + 1 - l)) (xs.length + 1 - l) else nearZ kd (stretchesZ xs l) gap p := by
  have e : ∀ q, q < xs.length + 1 - l → nthZ (stretchesZ (xs ++ [x]) l) q = nthZ (stretchesZ xs l) q := by
    intro q hq
    rw [nth_stretch (by simp; omega), nth_stretch hq, cut_app (by omega)]
  have en : (stretchesZ (xs ++ [x]) l).length = (xs.length + 1 - l) + 1 := by rw [stretches_len]; simp; omega
  unfold nearZ
  rw [en, stretches_len, nearTo, nearTo_congr (e p hp) e]
  have : (xs.length + 1 - l) - p + (p - (xs.length + 1 - l)) = (xs.length + 1 - l) - p := by omega
  rw [this]
theorem tableZ_len {kd : Kd} {xs : List Int} {gap l : Nat} : (tableZ kd xs gap l).length = xs.length + 1 - l := by simp [tableZ, stretches_len]
theorem tableZ_at {kd : Kd} {xs : List Int} {gap l p : Nat} (h : p < xs.length + 1 - l) : ((tableZ kd xs gap l).map bestD)[p]? = some (bestD (nearZ kd (stretchesZ xs l) gap p)) := by
  simp only [tableZ, List.map_map, List.getElem?_map, stretches_len, List.getElem?_range h]
  rfl
theorem rowD_app {xs : List Int} {x : Int} : D.lst (xs.map D.int ++ [D.int x]) = rowD (xs ++ [x]) := by simp [rowD]
theorem Row.app {k : Nat} {xs : List Int} {x : Int} (h : Row k xs) (hx : Bn k x) (hl : xs.length < 100) : Row k (xs ++ [x]) := by
  refine ⟨fun z hz => ?_, by simp; omega⟩
  rcases List.mem_append.mp hz with hz | hz
  · exact h.1 z hz
  · simp at hz
    subst hz
    exact hx
end Rw
end PRwFar
section PRwMin
set_option autoImplicit false
set_option linter.all false
set_option maxRecDepth 100000
/-! RwMin: the least of some fractions, the first such. -/
namespace Rw
section
variable {π : Type}
def minStep (b : Option ((Int × Int) × π)) (x : (Int × Int) × π) : Option ((Int × Int) × π) := match b with
  | none => some x
  | some g => if lessZ x.1 g.1 then some x else some g
def minOf (L : List ((Int × Int) × π)) : Option ((Int × Int) × π) := L.foldl minStep none
theorem less_trans {a b c : Int × Int} (ha : 0 < a.2) (hb : 0 < b.2) (hc : 0 < c.2) (h1 : lessZ a b = true) (h2 : lessZ b c = true) : lessZ a c = true := by
  rw [lessZ_iff] at *
  have e1 : a.1 * b.2 * c.2 < b.1 * a.2 * c.2 := Int.mul_lt_mul_of_pos_right h1 hc
  have e2 : b.1 * c.2 * a.2 < c.1 * b.2 * a.2 := Int.mul_lt_mul_of_pos_right h2 ha
  have x1 : b.1 * a.2 * c.2 = b.1 * c.2 * a.2 := by ac_rfl
  have x2 : a.1 * b.2 * c.2 = a.1 * c.2 * b.2 := by ac_rfl
  have x3 : c.1 * b.2 * a.2 = c.1 * a.2 * b.2 := by ac_rfl
  refine Int.lt_of_mul_lt_mul_right (a := b.2) ?_ (Int.le_of_lt hb)
  omega
/-- a below b, c not below b: a below c -/
theorem less_of_not {a b c : Int × Int} (ha : 0 < a.2) (hb : 0 < b.2) (hc : 0 < c.2) (h1 : lessZ a b = true) (h2 : lessZ c b = false) : lessZ a c = true := by
  rw [lessZ_iff] at *
  have h2' : ¬ (c.1 * b.2 < b.1 * c.2) := by rw [← lessZ_iff, h2]; simp
  have e1 : a.1 * b.2 * c.2 < b.1 * a.2 * c.2 := Int.mul_lt_mul_of_pos_right h1 hc
  have e2 : b.1 * c.2 * a.2 ≤ c.1 * b.2 * a.2 := Int.mul_le_mul_of_nonneg_right (by omega) (Int.le_of_lt ha)
  have x1 : b.1 * a.2 * c.2 = b.1 * c.2 * a.2 := by ac_rfl
  have x2 : a.1 * b.2 * c.2 = a.1 * c.2 * b.2 := by ac_rfl
  have x3 : c.1 * b.2 * a.2 = c.1 * a.2 * b.2 := by ac_rfl
  refine Int.lt_of_mul_lt_mul_right (a := b.2) ?_ (Int.le_of_lt hb)
  omega
theorem less_asymm {a b : Int × Int} (h : lessZ a b = true) : lessZ b a = false := by
  rw [lessZ_iff] at h
  rw [← Bool.not_eq_true, lessZ_iff]
  omega
/-- a not below b, b not below c: a not below c -/
theorem nless_trans {a b c : Int × Int} (ha : 0 < a.2) (hb : 0 < b.2) (hc : 0 < c.2) (h1 : lessZ a b = false) (h2 : lessZ b c = false) : lessZ a c = false := by
  cases h : lessZ a c with
  | false => rfl
  | true =>
    have := less_of_not ha hc hb h h2
    rw [this] at h1
    exact h1
/-- x is the first least of L -/
def IsMin (L : List ((Int × Int) × π)) (x : (Int × Int) × π) : Prop := ∃ L1 L2, L = L1 ++ x :: L2 ∧ (∀ y ∈ L1, lessZ x.1 y.1 = true) ∧ (∀ y ∈ L2, lessZ y.1 x.1 = false)
theorem minFrom {L : List ((Int × Int) × π)} : ∀ {g : (Int × Int) × π}, 0 < g.1.2 → (∀ y ∈ L, 0 < y.1.2) → ∃ x, L.foldl minStep (some g) = some x ∧ IsMin (g :: L) x := by
  induction L with
  | nil => intro g _ _; exact ⟨g, rfl, [], [], rfl, by simp, by simp⟩
  | cons y L ih =>
    intro g hg hp
    have hy := hp y (by simp)
    simp only [List.foldl_cons, minStep]
    by_cases hl : lessZ y.1 g.1 = true
    · rw [if_pos hl]
      obtain ⟨x, e, L1, L2, eL, h1, h2⟩ := ih hy fun z hz => hp z (by simp [hz])
      refine ⟨x, e, g :: L1, L2, by rw [eL]; rfl, ?_, h2⟩
      intro z hz
      rcases List.mem_cons.mp hz with rfl | hz
      · cases L1 with
        | nil =>
          simp only [List.nil_append, List.cons.injEq] at eL
          rw [← eL.1]
          exact hl
        | cons w L1 =>
          simp only [List.cons_append, List.cons.injEq] at eL
          have hx : 0 < x.1.2 := by
            have : x ∈ L := by rw [eL.2]; simp
            exact hp x (by simp [this])
          have := h1 w (by simp)
          rw [← eL.1] at this
          exact less_trans hx hy hg this hl
      · exact h1 z hz
    · rw [if_neg hl]
      have hl' : lessZ y.1 g.1 = false := by simpa using hl
      obtain ⟨x, e, L1, L2, eL, h1, h2⟩ := ih hg fun z hz => hp z (by simp [hz])
      refine ⟨x, e, ?_⟩
      cases L1 with
      | nil =>
        simp only [List.nil_append, List.cons.injEq] at eL
        refine ⟨[], y :: L, by rw [← eL.1]; rfl, by simp, ?_⟩
        intro z hz
        rcases List.mem_cons.mp hz with rfl | hz
        · rw [← eL.1]
          exact hl'
        · rw [eL.2] at hz
          exact h2 z hz
      | cons w L1 =>
        simp only [List.cons_append, List.cons.injEq] at eL
        refine ⟨g :: y :: L1, L2, by rw [eL.2]; rfl, ?_, h2⟩
        have hx : 0 < x.1.2 := by
          have : x ∈ L := by rw [eL.2]; simp
          exact hp x (by simp [this])
        have hxg := h1 w (by simp)
        rw [← eL.1] at hxg
        intro z hz
        rcases List.mem_cons.mp hz with rfl | hz
        · exact hxg
        · rcases List.mem_cons.mp hz with rfl | hz
          · exact less_of_not hx hg hy hxg hl'
          · exact h1 z (by simp [hz])
theorem minOf_none {L : List ((Int × Int) × π)} (hp : ∀ y ∈ L, 0 < y.1.2) : minOf L = none ↔ L = [] := by
  cases L with
  | nil => simp [minOf]
  | cons y L =>
    obtain ⟨x, e, _⟩ := minFrom (L := L) (hp y (by simp)) fun z hz => hp z (by simp [hz])
    have : minOf (y :: L) = some x := e
    simp [this]
theorem minOf_some {L : List ((Int × Int) × π)} {x : (Int × Int) × π} (hp : ∀ y ∈ L, 0 < y.1.2) (h : minOf L = some x) : IsMin L x := by
  cases L with
  | nil => cases h
  | cons y L =>
    obtain ⟨x', e, h'⟩ := minFrom (L := L) (hp y (by simp)) fun z hz => hp z (by simp [hz])
    have e' : minOf (y :: L) = some x' := e
    rw [e'] at h
    cases h
    exact h'
theorem IsMin.mem {L : List ((Int × Int) × π)} {x : (Int × Int) × π} (h : IsMin L x) : x ∈ L := by
  obtain ⟨L1, L2, rfl, _⟩ := h
  simp
theorem IsMin.le {L : List ((Int × Int) × π)} {x y : (Int × Int) × π} (h : IsMin L x) (hy : y ∈ L) : lessZ y.1 x.1 = false := by
  obtain ⟨L1, L2, rfl, h1, h2⟩ := h
  rcases List.mem_append.mp hy with hy | hy
  · exact less_asymm (h1 y hy)
  · rcases List.mem_cons.mp hy with rfl | hy
    · exact lessZ_irr
    · exact h2 y hy
end
/-! ### the nearest two -/
def bestP : Option ((Int × Int) × (Nat × Nat)) → D
  | none => .non
  | some (f, p, q) => .tup [frD f, .int p, .int q]
theorem bestP_shp {b : Option ((Int × Int) × (Nat × Nat))} {n : Nat} : (bestP b).shp (n + 2) = true := by
  cases b with
  | none => rfl
  | some x => simp [bestP, D.shp, frD]
/-- the twos that are apart, in order -/
def candP (kd : Kd) (ss : List (List Int)) (gap : Nat) (fr : List Nat) : List ((Int × Int) × (Nat × Nat)) := fr.flatMap fun p => fr.filterMap fun q => if p + gap ≤ q then some (farAt kd ss p q, p, q) else none
def pairZ (kd : Kd) (ss : List (List Int)) (gap : Nat) (fr : List Nat) : Option ((Int × Int) × (Nat × Nat)) := minOf (candP kd ss gap fr)
def stepP (kd : Kd) (ss : List (List Int)) (gap p : Nat) (b : Option ((Int × Int) × (Nat × Nat))) (q : Nat) : Option ((Int × Int) × (Nat × Nat)) := if p + gap ≤ q then minStep b (farAt kd ss p q, p, q) else b
theorem fold_in {kd : Kd} {ss : List (List Int)} {gap p : Nat} {fr : List Nat} {b : Option ((Int × Int) × (Nat × Nat))} : fr.foldl (stepP kd ss gap p) b = (fr.filterMap fun q => if p + gap ≤ q then some (farAt kd ss p q, p, q) else none).foldl minStep b := by
  induction fr generalizing b with
  | nil => rfl
  | cons q fr ih =>
    simp only [List.foldl_cons, List.filterMap_cons, stepP]
    by_cases h : p + gap ≤ q
    · simp only [h, if_true, List.foldl_cons]
      exact ih
    · simp only [h, if_false]
      exact ih
theorem pairZ_fold {kd : Kd} {ss : List (List Int)} {gap : Nat} {fr : List Nat} : pairZ kd ss gap fr = fr.foldl (fun b p => fr.foldl (stepP kd ss gap p) b) none := by
  unfold pairZ minOf candP
  have : ∀ (l : List Nat) (b : Option ((Int × Int) × (Nat × Nat))), (l.flatMap fun p => fr.filterMap fun q => if p + gap ≤ q then some (farAt kd ss p q, p, q) else none).foldl minStep b = l.foldl (fun b p => fr.foldl (stepP kd ss gap p) b) b := by
    intro l
    induction l with
    | nil => intro b; rfl
    | cons p l ih =>
      intro b
      rw [List.flatMap_cons, List.foldl_append, ih, List.foldl_cons, fold_in]
  exact this fr none
/-- what the best so far has -/
def BestOk (k : Nat) (b : Option ((Int × Int) × (Nat × Nat))) : Prop := ∀ x, b = some x → Bn (4 * k + 11) x.1.1 ∧ Bn (4 * k + 11) x.1.2
theorem stepP_ok {k : Nat} {kd : Kd} {ss : List (List Int)} {gap p q : Nat} {b : Option ((Int × Int) × (Nat × Nat))} (hs : Fine k ss) (hp : p < ss.length) (hq : q < ss.length) (h : BestOk k b) : BestOk k (stepP kd ss gap p b q) := by
  have f := farAt_bn kd hs hp hq
  intro x e
  unfold stepP at e
  split at e
  · unfold minStep at e
    split at e
    · cases e
      exact f
    · split at e
      · cases e
        exact f
      · cases e
        exact h _ rfl
  · exact h x e
theorem candP_mem {kd : Kd} {ss : List (List Int)} {gap : Nat} {fr : List Nat} {x : (Int × Int) × (Nat × Nat)} : x ∈ candP kd ss gap fr ↔ x.2.1 ∈ fr ∧ x.2.2 ∈ fr ∧ x.2.1 + gap ≤ x.2.2 ∧ x.1 = farAt kd ss x.2.1 x.2.2 := by
  unfold candP
  rw [List.mem_flatMap]
  constructor
  · rintro ⟨p, hp, h⟩
    obtain ⟨q, hq, e⟩ := List.mem_filterMap.mp h
    split at e
    · cases e
      exact ⟨hp, hq, by assumption, rfl⟩
    · cases e
  · rintro ⟨hp, hq, hg, e⟩
    refine ⟨x.2.1, hp, List.mem_filterMap.mpr ⟨x.2.2, hq, ?_⟩⟩
    rw [if_pos hg, ← e]
theorem candP_pos {kd : Kd} {ss : List (List Int)} {gap : Nat} {fr : List Nat} (hs : ∀ s ∈ ss, 0 < s.length) (hf : ∀ p ∈ fr, p < ss.length) : ∀ y ∈ candP kd ss gap fr, 0 < y.1.2 := by
  intro y hy
  obtain ⟨h1, h2, h3, h4⟩ := candP_mem.mp hy
  rw [h4]
  exact farZ_pos kd (hs _ (getD_mem (hf _ h1)))
/-- a row grown by one: the nearest two are no farther -/
theorem pair_grown {kd : Kd} {xs : List Int} {x : Int} {gap l : Nat} (hl : 0 < l) {f : Int × Int} {p q : Nat}
    (h : pairZ kd (stretchesZ xs l) gap (List.range (stretchesZ xs l).length) = some (f, p, q)) :
    ∃ f' p' q', pairZ kd (stretchesZ (xs ++ [x]) l) gap (List.range (stretchesZ (xs ++ [x]) l).length) = some (f', p', q') ∧ lessZ f f' = false := by
  have pos : ∀ xs : List Int, ∀ s ∈ stretchesZ xs l, 0 < s.length := by
    intro xs s hs
    obtain ⟨p, hp, rfl⟩ := List.mem_map.mp hs
    have := List.mem_range.mp hp
    rw [cutZ_len (by omega)]
    exact hl
  have rg : ∀ n : Nat, ∀ p ∈ List.range n, p < n := fun n p hp => List.mem_range.mp hp
  have m := minOf_some (candP_pos (pos xs) (rg _)) h
  obtain ⟨h1, h2, h3, h4⟩ := candP_mem.mp m.mem
  simp only [List.mem_range, stretches_len] at h1 h2
  have hm : (farAt kd (stretchesZ (xs ++ [x]) l) p q, p, q) ∈ candP kd (stretchesZ (xs ++ [x]) l) gap (List.range (stretchesZ (xs ++ [x]) l).length) := by
    refine candP_mem.mpr ⟨?_, ?_, h3, rfl⟩
    · simp [stretches_len]; omega
    · simp [stretches_len]; omega
  have ef : farAt kd (stretchesZ (xs ++ [x]) l) p q = f := by
    simp only at h4
    rw [h4]
    unfold farAt
    rw [nth_stretch (by simp; omega), nth_stretch (by simp; omega), nth_stretch h1, nth_stretch h2, cut_app (by omega), cut_app (by omega)]
  cases e : pairZ kd (stretchesZ (xs ++ [x]) l) gap (List.range (stretchesZ (xs ++ [x]) l).length) with
  | none =>
    have := (minOf_none (candP_pos (pos _) (rg _))).mp e
    rw [this] at hm
    cases hm
  | some y =>
    obtain ⟨f', p', q'⟩ := y
    refine ⟨f', p', q', rfl, ?_⟩
    have := (minOf_some (candP_pos (pos _) (rg _)) e).le hm
    rw [ef] at this
    exact this
/-- a row without its first: the nearest of a stretch is no nearer -/
theorem near_tail {kd : Kd} {xs : List Int} {gap l p r : Nat} {f : Int × Int} (hl : 0 < l) (hp : p + 1 < xs.length + 1 - l) (h : nearZ kd (stretchesZ (xs.drop 1) l) gap p = some (f, r)) :
    ∃ f' r', nearZ kd (stretchesZ xs l) gap (p + 1) = some (f', r') ∧ lessZ f f' = false := by
  have pos : ∀ xs : List Int, ∀ s ∈ stretchesZ xs l, 0 < s.length := by
    intro xs s hs
    obtain ⟨p, hp, rfl⟩ := List.mem_map.mp hs
    have := List.mem_range.mp hp
    rw [cutZ_len (by omega)]
    exact hl
  have en : ∀ q, q + 1 < xs.length + 1 - l → nthZ (stretchesZ (xs.drop 1) l) q = nthZ (stretchesZ xs l) (q + 1) := by
    intro q hq
    rw [nth_stretch (by simp; omega), nth_stretch hq]
    unfold cutZ
    rw [List.drop_drop, Nat.add_comm]
  have sp := nearTo_spec (kd := kd) (gap := gap) (p := p) (pos (xs.drop 1)) (by rw [stretches_len]; simp; omega) (Nat.le_refl _)
  obtain ⟨⟨a1, a2, a3⟩, _⟩ := sp.2 f r h
  rw [stretches_len] at a1
  simp only [List.length_drop] at a1
  have sp' := nearTo_spec (kd := kd) (gap := gap) (p := p + 1) (pos xs) (by rw [stretches_len]; omega) (Nat.le_refl _)
  have ap : Apart gap (p + 1) (r + 1) := by unfold Apart at a2 ⊢; omega
  have hr : r + 1 < (stretchesZ xs l).length := by rw [stretches_len]; omega
  cases e : nearZ kd (stretchesZ xs l) gap (p + 1) with
  | none => exact absurd ap (sp'.1 e _ hr)
  | some y =>
    obtain ⟨f', r'⟩ := y
    refine ⟨f', r', rfl, ?_⟩
    have := (sp'.2 f' r' e).2 (r + 1) hr ap
    rw [a3]
    unfold farAt at this ⊢
    rw [en p hp, en r (by omega)]
    exact this
theorem zipD_at {xs ys : List D} {i : Nat} {z : D} : (zipD xs ys)[i]? = some z ↔ ∃ a b, xs[i]? = some a ∧ ys[i]? = some b ∧ z = .tup [a, b] := by
  induction xs generalizing ys i with
  | nil => simp [zipD]
  | cons x xs ih =>
    cases ys with
    | nil => simp [zipD]
    | cons y ys =>
      cases i with
      | zero => simp [zipD, eq_comm]
      | succ i => simp [zipD, ih]
/-! ### places still free -/
def natsD (fr : List Nat) : List D := fr.map fun p : Nat => .int p
def apartB (gap p q : Nat) : Bool := decide (gap ≤ (q - p) + (p - q))
def freeZ (gap : Nat) (fr pl : List Nat) : List Nat := fr.filter fun p => pl.all fun q => apartB gap q p
theorem fm_filter {fr : List Nat} {c : Nat → Bool} : (fr.filterMap fun p : Nat => if c p = true then some (D.int p) else none) = natsD (fr.filter c) := by
  induction fr with
  | nil => rfl
  | cons p fr ih =>
    simp only [List.filterMap_cons, List.filter_cons]
    cases h : c p <;> simp [ih, natsD]
@[simp] theorem blsD_map {bs : List Bool} : blsD (bs.map D.bl) = some bs := by
  induction bs with
  | nil => rfl
  | cons n ns ih => simp [blsD, ih]
theorem blsD_mapf {α : Type} {l : List α} {g : α → Bool} : blsD (l.map fun a => D.bl (g a)) = some (l.map g) := by
  have : (l.map fun a => D.bl (g a)) = (l.map g).map D.bl := by simp
  rw [this, blsD_map]
theorem ok_allf {M : DSt} {P : Dv × DSt → Prop} {α : Type} {l : List α} {g : α → Bool} : Ok (oAll [.d (.lst (l.map fun a => D.bl (g a)))] M) P ↔ P (.d (.bl (l.all g)), M) := by
  simp only [oAll, lv_lst, blsD_mapf, ok_some]
  have : (l.map g).all id = l.all g := by simp [List.all_map, Function.comp_def]
  rw [this]
theorem freeZ_nil {gap : Nat} {fr : List Nat} : freeZ gap fr [] = fr := by simp [freeZ]
theorem freeZ_cons {gap q : Nat} {fr pl : List Nat} : freeZ gap fr (q :: pl) = freeZ gap (fr.filter fun p => apartB gap q p) pl := by
  simp [freeZ, List.filter_filter]
  congr 1
  funext p
  rw [Bool.and_comm]
theorem freeZ_sub {gap p : Nat} {fr pl : List Nat} (h : p ∈ freeZ gap fr pl) : p ∈ fr := (List.mem_filter.mp h).1
theorem freeZ_len {gap : Nat} {fr pl : List Nat} : (freeZ gap fr pl).length ≤ fr.length := List.length_filter_le ..
/-! ### the loneliest -/
section
variable {π : Type}
def maxStep (b : Option ((Int × Int) × π)) (x : (Int × Int) × π) : Option ((Int × Int) × π) := match b with
  | none => some x
  | some g => if lessZ g.1 x.1 then some x else some g
end
def rowAt (rows : List (Option ((Int × Int) × Nat))) (p : Nat) : Option ((Int × Int) × Nat) := rows.getD p none
def loneStep (rows : List (Option ((Int × Int) × Nat))) (b : Option ((Int × Int) × (Nat × Nat))) (p : Nat) : Option ((Int × Int) × (Nat × Nat)) := match rowAt rows p with
  | none => b
  | some (f, r) => maxStep b (f, p, r)
def loneZ (rows : List (Option ((Int × Int) × Nat))) (fr : List Nat) : Option ((Int × Int) × (Nat × Nat)) := fr.foldl (loneStep rows) none
def RowsOk (j : Nat) (rows : List (Option ((Int × Int) × Nat))) : Prop := ∀ p f r, rowAt rows p = some (f, r) → Bn j f.1 ∧ Bn j f.2
def BestJ (j : Nat) (b : Option ((Int × Int) × (Nat × Nat))) : Prop := ∀ x, b = some x → Bn j x.1.1 ∧ Bn j x.1.2
theorem loneStep_ok {j : Nat} {rows : List (Option ((Int × Int) × Nat))} {b : Option ((Int × Int) × (Nat × Nat))} {p : Nat} (hr : RowsOk j rows) (h : BestJ j b) : BestJ j (loneStep rows b p) := by
  intro x e
  unfold loneStep at e
  split at e
  · exact h x e
  · rename_i f r e'
    have hf := hr p f r e'
    unfold maxStep at e
    split at e
    · cases e
      exact hf
    · split at e
      · cases e
        exact hf
      · cases e
        exact h _ rfl
theorem rows_at {rows : List (Option ((Int × Int) × Nat))} {p : Nat} (h : p < rows.length) : (rows.map bestD)[p]? = some (bestD (rowAt rows p)) := by
  simp [rowAt, List.getElem?_map, List.getElem?_eq_getElem h, List.getD_eq_getElem?_getD]
/-! ### one after the other -/
def runZ {τ : Type} (pick : List Nat → Option τ) (cut : List Nat → τ → List Nat) : Nat → List Nat → List τ
  | 0, _ => []
  | n + 1, fr => match pick fr with
    | none => []
    | some x => x :: runZ pick cut n (cut fr x)
theorem runZ_len {τ : Type} {pick : List Nat → Option τ} {cut : List Nat → τ → List Nat} {n : Nat} {fr : List Nat} : (runZ pick cut n fr).length ≤ n := by
  induction n generalizing fr with
  | zero => simp [runZ]
  | succ n ih =>
    unfold runZ
    split
    · simp
    · simp
      exact ih
@[simp ↓] theorem ok_append {M : DSt} {n : Nat} {x : D} {P : Dv × DSt → Prop} : Ok (mAppend (.c n) [.d x] M) P ↔ Ok (cel M n) fun xs => xs.length < big ∧ P (.d .non, M.set n (some (xs ++ [x]))) := by
  simp only [mAppend, cel]
  cases (M[n]?).join <;> simp
@[simp ↓] theorem ok_clear {M : DSt} {n : Nat} {P : Dv × DSt → Prop} : Ok (mClear (.c n) [] M) P ↔ Ok (cel M n) fun _ => P (.d .non, M.set n (some [])) := by
  simp only [mClear, cel]
  cases (M[n]?).join <;> simp
/-! ### lowest terms -/
theorem madeZ_low {t b : Int} (h : b ≠ 0) : Int.gcd (madeZ t b).1 (madeZ t b).2 = 1 := by
  have hg := gcd_pos (t := t) h
  have e : Int.gcd (t.fdiv (Int.gcd t b)) (b.fdiv (Int.gcd t b)) = 1 := by
    rw [Int.fdiv_eq_ediv_of_nonneg _ (by omega), Int.fdiv_eq_ediv_of_nonneg _ (by omega)]
    exact Int.gcd_ediv_gcd_ediv_gcd (by omega)
  obtain ⟨c, hc⟩ := gcd_dvd_r t b
  obtain ⟨d, hd⟩ := gcd_dvd_l t b
  unfold madeZ signG
  simp only
  generalize ((Int.gcd t b : Nat) : Int) = G at *
  subst hc hd
  have e1 : (G * c).fdiv G = c := Int.mul_fdiv_cancel_left _ (by omega)
  have e2 : (G * d).fdiv G = d := Int.mul_fdiv_cancel_left _ (by omega)
  have e3 : (G * c).fdiv (-G) = -c := by rw [show G * c = -G * -c by rw [Int.neg_mul_neg], Int.mul_fdiv_cancel_left _ (by omega)]
  have e4 : (G * d).fdiv (-G) = -d := by rw [show G * d = -G * -d by rw [Int.neg_mul_neg], Int.mul_fdiv_cancel_left _ (by omega)]
  rw [e1, e2] at e
  split
  · rw [e3, e4, Int.gcd_neg, Int.neg_gcd]
    exact e
  · rw [e1, e2]
    exact e
theorem farZ_low {xs ys : List Int} (kd : Kd) (h : 0 < xs.length) : Int.gcd (farZ kd xs ys).1 (farZ kd xs ys).2 = 1 := by
  cases kd with
  | pl => exact madeZ_low (by omega)
  | mo =>
    have := Int.mul_pos (show (0 : Int) < xs.length by omega) (show (0 : Int) < xs.length by omega)
    exact madeZ_low (by omega)
  | sh =>
    rw [show farZ .sh xs ys = if unevenZ xs = 0 ∨ unevenZ ys = 0 then (if unevenZ xs = unevenZ ys then (0, 1) else (1, 1)) else madeZ (unevenZ xs * unevenZ ys - bothZ xs ys * (if bothZ xs ys < 0 then -bothZ xs ys else bothZ xs ys)) (unevenZ xs * unevenZ ys) from rfl]
    by_cases h1 : unevenZ xs = 0 ∨ unevenZ ys = 0
    · rw [if_pos h1]
      split <;> decide
    · rw [if_neg h1]
      exact madeZ_low (Int.mul_ne_zero (fun e => h1 (.inl e)) (fun e => h1 (.inr e)))
/-- a fraction that is told as it should be -/
def Low (f : Int × Int) : Prop := 0 < f.2 ∧ Int.gcd f.1 f.2 = 1
theorem farAt_low {kd : Kd} {ss : List (List Int)} {p q : Nat} (hs : ∀ s ∈ ss, 0 < s.length) (hp : p < ss.length) : Low (farAt kd ss p q) := ⟨farZ_pos kd (hs _ (getD_mem hp)), farZ_low kd (hs _ (getD_mem hp))⟩
theorem tab_at {kd : Kd} {xs : List Int} {gap l p : Nat} {y : (Int × Int) × Nat} (h : rowAt (tableZ kd xs gap l) p = some y) : p < xs.length + 1 - l ∧ nearZ kd (stretchesZ xs l) gap p = some y := by
  unfold rowAt at h
  rw [List.getD_eq_getElem?_getD] at h
  by_cases hp : p < xs.length + 1 - l
  · refine ⟨hp, ?_⟩
    simp only [tableZ, List.getElem?_map, stretches_len, List.getElem?_range hp] at h
    exact h
  · rw [List.getElem?_eq_none (by rw [tableZ_len]; omega)] at h
    cases h
theorem tab_ok {k : Nat} {kd : Kd} {xs : List Int} {gap l : Nat} (hx : Row k xs) (hl : 0 < l) : RowsOk (4 * k + 11) (tableZ kd xs gap l) := by
  intro p f r h
  obtain ⟨hp, e⟩ := tab_at h
  exact nearTo_bn kd (stretches_fine hx hl) (by rw [stretches_len]; exact hp) (Nat.le_refl _) e
theorem tab_low {k : Nat} {kd : Kd} {xs : List Int} {gap l p : Nat} {f : Int × Int} {r : Nat} (hx : Row k xs) (hl : 0 < l) (h : rowAt (tableZ kd xs gap l) p = some (f, r)) : Low f := by
  obtain ⟨hp, e⟩ := tab_at h
  have hs := stretches_fine hx hl
  have pos : ∀ s ∈ stretchesZ xs l, 0 < s.length := fun s h => (hs.1 s h).2
  obtain ⟨⟨a1, a2, a3⟩, _⟩ := (nearTo_spec (kd := kd) (gap := gap) (p := p) pos (by rw [stretches_len]; exact hp) (Nat.le_refl _)).2 f r e
  rw [a3]
  exact farAt_low pos (by rw [stretches_len]; exact hp)
theorem lone_low {rows : List (Option ((Int × Int) × Nat))} (hr : ∀ p f r, rowAt rows p = some (f, r) → Low f) : ∀ (fr : List Nat) (b : Option ((Int × Int) × (Nat × Nat))), (∀ x, b = some x → Low x.1) → ∀ x, fr.foldl (loneStep rows) b = some x → Low x.1
  | [], b, h, x, e => h x e
  | p :: fr, b, h, x, e => by
    refine lone_low hr fr (loneStep rows b p) ?_ x e
    intro y ey
    unfold loneStep at ey
    split at ey
    · exact h y ey
    · rename_i f r e'
      unfold maxStep at ey
      split at ey
      · cases ey
        exact hr p f r e'
      · split at ey
        · cases ey
          exact hr p f r e'
        · cases ey
          exact h _ rfl
theorem runZ_all {τ : Type} {pick : List Nat → Option τ} {cut : List Nat → τ → List Nat} {Q : τ → Prop} (h : ∀ fr x, pick fr = some x → Q x) : ∀ {n : Nat} {fr : List Nat}, ∀ x ∈ runZ pick cut n fr, Q x
  | 0, fr, x, hx => by cases hx
  | n + 1, fr, x, hx => by
    unfold runZ at hx
    split at hx
    · cases hx
    · rename_i y e
      rcases List.mem_cons.mp hx with rfl | hx
      · exact h fr x e
      · exact runZ_all h x hx
theorem ok_isiC {T : String} {M : DSt} {n : Nat} {xs : List D} {P : Dv × DSt → Prop} (h : M[n]? = some (some xs)) : Ok (oIsi T [.c n, .d (.ty T)] M) P ↔ P (.d (.bl (subTy "list" T)), M) := by
  simp [oIsi, dv, h, D.tyN]
theorem ok_neCSame {M : DSt} {n : Nat} {xs : List D} {P : Dv × DSt → Prop} (h : M[n]? = some (some xs)) (hx : (D.lst xs).shp 9 = true) : Ok (oNe (.c n) (.d (.lst xs)) M) P ↔ P (.d (.bl false), M) := by
  have := eqv_refl 9 _ hx
  simp [oNe, dv, h, hx, this]
theorem ok_eqCSame {M : DSt} {n : Nat} {xs : List D} {P : Dv × DSt → Prop} (h : M[n]? = some (some xs)) (hx : (D.lst xs).shp 9 = true) : Ok (oEq (.c n) (.d (.lst xs)) M) P ↔ P (.d (.bl true), M) := by
  have := eqv_refl 9 _ hx
  simp [oEq, dv, h, hx, this]
theorem svOk {M : DSt} {n : Nat} {xs : List D} (h : M[n]? = some (some xs)) (P : List D → Prop) : Ok (sv M (.c n)) P ↔ P xs := by
  simp [h]
theorem ok_frz' {b : Nat} {M : DSt} {v : Dv} {xs : List D} {P : Dv × DSt → Prop} (hv : v = .c b) (h : M.length = b) : Ok (frz b (v, M ++ [some xs])) P ↔ P (.d (.lst xs), M) := by
  subst hv
  exact ok_frz h
theorem fm_none {α β : Type} {l : List α} : l.filterMap (fun _ => (none : Option β)) = [] := by
  induction l with
  | nil => rfl
  | cons a l ih => simp
end Rw
end PRwMin
section PRwSym
set_option autoImplicit false
set_option linter.all false
set_option maxRecDepth 100000
/-! RwSym: far is alike both ways; the first greatest; runs. -/
namespace Rw
theorem diff_neg {xs ys : List Int} : diffZ ys xs = (diffZ xs ys).map fun d => -d := by
  induction xs generalizing ys with
  | nil => cases ys <;> rfl
  | cons x xs ih =>
    cases ys with
    | nil => rfl
    | cons y ys =>
      have := ih (ys := ys)
      simp only [diffZ, List.zip_cons_cons, List.map_cons] at this ⊢
      rw [this]
      congr 1
      omega
theorem sqs_neg {xs : List Int} : ((xs.map fun d => -d).map fun d => d * d) = xs.map fun d => d * d := by
  rw [List.map_map]
  congr 1
  funext d
  exact Int.neg_mul_neg d d
theorem sum_neg {xs : List Int} : (xs.map fun d => -d).sum = -xs.sum := by
  induction xs with
  | nil => rfl
  | cons x xs ih => simp only [List.map_cons, List.sum_cons, ih]; omega
theorem uneven_neg {xs : List Int} : unevenZ (xs.map fun d => -d) = unevenZ xs := by
  unfold unevenZ
  rw [sqs_neg, sum_neg, List.length_map, Int.neg_mul_neg]
theorem dot_comm {xs ys : List Int} : dotZ ys xs = dotZ xs ys := by
  unfold dotZ
  congr 1
  induction xs generalizing ys with
  | nil => cases ys <;> rfl
  | cons x xs ih =>
    cases ys with
    | nil => rfl
    | cons y ys =>
      simp only [List.zip_cons_cons, List.map_cons, ih]
      rw [Int.mul_comm]
theorem both_comm {xs ys : List Int} (h : xs.length = ys.length) : bothZ ys xs = bothZ xs ys := by
  unfold bothZ
  rw [dot_comm, h, Int.mul_comm ys.sum]
theorem far_comm {xs ys : List Int} (kd : Kd) (h : xs.length = ys.length) : farZ kd ys xs = farZ kd xs ys := by
  cases kd with
  | pl =>
    show madeZ ((diffZ ys xs).map fun d => d * d).sum ys.length = madeZ ((diffZ xs ys).map fun d => d * d).sum xs.length
    rw [diff_neg, sqs_neg, h]
  | mo =>
    show madeZ (unevenZ (diffZ ys xs)) ((ys.length : Int) * ys.length) = madeZ (unevenZ (diffZ xs ys)) ((xs.length : Int) * xs.length)
    rw [diff_neg, uneven_neg, h]
  | sh =>
    show (if unevenZ ys = 0 ∨ unevenZ xs = 0 then (if unevenZ ys = unevenZ xs then (0, 1) else (1, 1)) else madeZ (unevenZ ys * unevenZ xs - bothZ ys xs * (if bothZ ys xs < 0 then -bothZ ys xs else bothZ ys xs)) (unevenZ ys * unevenZ xs))
      = (if unevenZ xs = 0 ∨ unevenZ ys = 0 then (if unevenZ xs = unevenZ ys then (0, 1) else (1, 1)) else madeZ (unevenZ xs * unevenZ ys - bothZ xs ys * (if bothZ xs ys < 0 then -bothZ xs ys else bothZ xs ys)) (unevenZ xs * unevenZ ys))
    rw [both_comm h, Int.mul_comm (unevenZ ys)]
    by_cases h1 : unevenZ xs = 0 ∨ unevenZ ys = 0
    · rw [if_pos h1, if_pos h1.symm]
      by_cases h2 : unevenZ xs = unevenZ ys
      · rw [if_pos h2, if_pos h2.symm]
      · rw [if_neg h2, if_neg (Ne.symm h2)]
    · rw [if_neg h1, if_neg fun h => h1 h.symm]
/-- all stretches are of one length -/
def Even (ss : List (List Int)) : Prop := ∃ l, ∀ s ∈ ss, s.length = l
theorem stretches_even {xs : List Int} {l : Nat} : Even (stretchesZ xs l) := by
  refine ⟨l, fun s hs => ?_⟩
  obtain ⟨p, hp, rfl⟩ := List.mem_map.mp hs
  have := List.mem_range.mp hp
  exact cutZ_len (by omega)
theorem farAt_comm {kd : Kd} {ss : List (List Int)} {p q : Nat} (he : Even ss) (hp : p < ss.length) (hq : q < ss.length) : farAt kd ss q p = farAt kd ss p q := by
  obtain ⟨l, hl⟩ := he
  unfold farAt
  exact far_comm kd (by rw [hl _ (getD_mem hp), hl _ (getD_mem hq)])
/-- neither below the other, both in lowest terms: one and the same -/
theorem low_same {a b : Int × Int} (ha : Low a) (hb : Low b) (h1 : lessZ a b = false) (h2 : lessZ b a = false) : a = b := by
  have h1' : ¬ (a.1 * b.2 < b.1 * a.2) := by rw [← lessZ_iff, h1]; simp
  have h2' : ¬ (b.1 * a.2 < a.1 * b.2) := by rw [← lessZ_iff, h2]; simp
  have e : a.1 * b.2 = b.1 * a.2 := by omega
  have cop : ∀ {x y z : Int}, Int.gcd x y = 1 → x ∣ y * z → x ∣ z := by
    intro x y z h hd
    rw [← Int.natAbs_dvd_natAbs] at hd ⊢
    rw [Int.natAbs_mul] at hd
    exact Nat.Coprime.dvd_of_dvd_mul_left h hd
  have d1 : a.2 ∣ b.2 := cop (y := a.1) (by rw [Int.gcd_comm]; exact ha.2) ⟨b.1, by rw [e, Int.mul_comm]⟩
  have d2 : b.2 ∣ a.2 := cop (y := b.1) (by rw [Int.gcd_comm]; exact hb.2) ⟨a.1, by rw [← e, Int.mul_comm]⟩
  have hq : a.2 = b.2 := Int.dvd_antisymm (Int.le_of_lt ha.1) (Int.le_of_lt hb.1) d1 d2
  have hp : a.1 = b.1 := by
    rw [hq] at e
    exact Int.eq_of_mul_eq_mul_right (by have := hb.1; omega) e
  exact Prod.ext hp hq
theorem runZ_take {τ : Type} {pick : List Nat → Option τ} {cut : List Nat → τ → List Nat} : ∀ {n m : Nat} {fr : List Nat}, n ≤ m → (runZ pick cut m fr).take n = runZ pick cut n fr
  | 0, m, fr, _ => by simp [runZ]
  | n + 1, 0, fr, h => by omega
  | n + 1, m + 1, fr, h => by
    unfold runZ
    cases pick fr with
    | none => simp
    | some x => simp [runZ_take (show n ≤ m by omega)]
/-! ### the first greatest -/
def candL (rows : List (Option ((Int × Int) × Nat))) (fr : List Nat) : List ((Int × Int) × (Nat × Nat)) := fr.filterMap fun p => (rowAt rows p).map fun x => (x.1, p, x.2)
theorem loneZ_fold {rows : List (Option ((Int × Int) × Nat))} {fr : List Nat} : loneZ rows fr = (candL rows fr).foldl maxStep none := by
  unfold loneZ candL
  have : ∀ (l : List Nat) (b : Option ((Int × Int) × (Nat × Nat))), l.foldl (loneStep rows) b = (l.filterMap fun p => (rowAt rows p).map fun x => (x.1, p, x.2)).foldl maxStep b := by
    intro l
    induction l with
    | nil => intro b; rfl
    | cons p l ih =>
      intro b
      rw [List.foldl_cons, ih, List.filterMap_cons]
      unfold loneStep
      cases h : rowAt rows p with
      | none => rfl
      | some x => obtain ⟨f, r⟩ := x; rfl
  exact this fr none
end Rw
end PRwSym
section PRwMore
set_option autoImplicit false
set_option linter.all false
set_option maxRecDepth 100000
/-! RwMore: further small things. -/
namespace Rw
theorem enumD_range {xs : List D} {g : Nat → D} (h : ∀ i, i < xs.length → xs[i]? = some (g i)) : enumD 0 xs = (List.range xs.length).map fun i => .tup [.int (i : Nat), g i] := by
  apply List.ext_getElem?
  intro i
  by_cases hi : i < xs.length
  · rw [List.getElem?_map, List.getElem?_range hi]
    exact enumD_at.mpr ⟨g i, h i hi, by simp⟩
  · rw [List.getElem?_eq_none (by rw [enumD_len]; omega), List.getElem?_eq_none (by simp; omega)]
/-- the three kinds -/
theorem kinds_at {i : Nat} {x : D} (hx : ([.str "plain", .str "moved", .str "shape"] : List D)[i]? = some x) : ∃ kd : Kd, x = kd.s := by
  have hm := List.mem_of_getElem? hx
  simp at hm
  rcases hm with rfl | rfl | rfl
  · exact ⟨.pl, rfl⟩
  · exact ⟨.mo, rfl⟩
  · exact ⟨.sh, rfl⟩
theorem kinds_mem {x : D} (hm : x ∈ ([.str "plain", .str "moved", .str "shape"] : List D)) : ∃ kd : Kd, x = kd.s := by
  simp at hm
  rcases hm with rfl | rfl | rfl
  · exact ⟨.pl, rfl⟩
  · exact ⟨.mo, rfl⟩
  · exact ⟨.sh, rfl⟩
section
variable {M : DSt} {c : Bool} {P : Dv × DSt → Prop}
@[simp ↓] theorem ok_oAdd_t {xs ys : List D} : Ok (oAdd c (.d (.tup xs)) (.d (.tup ys)) M) P ↔ (xs ≠ [] ∧ ys ≠ [] ∧ xs.length + ys.length ≤ big) ∧ P (.d (.tup (xs ++ ys)), M) := by
  rw [show oAdd c (.d (.tup xs)) (.d (.tup ys)) M = grd (xs ≠ [] ∧ ys ≠ [] ∧ xs.length + ys.length ≤ big) (some (.d (.tup (xs ++ ys)), M)) from rfl, ok_grd, ok_some]
@[simp ↓] theorem ok_oRev {xs : List D} : Ok (oRev c (.d (.lst xs)) M) P ↔ Ok (mkL c xs.reverse M) P := Iff.rfl
@[simp ↓] theorem ok_oList {xs : List D} : Ok (oList c [.d (.lst xs)] M) P ↔ Ok (mkL c xs M) P := Iff.rfl
end
theorem fdiv_s {x y : Int} (h : 0 ≤ y) : x.fdiv y = x / y := Int.fdiv_eq_ediv_of_nonneg _ h
theorem divOk_s {y : Int} (h : 0 < y) (h1 : y ≤ 1000000) : divOk y := divOk_bd 64 (A := 1000000) ⟨by omega, h1⟩ (by omega) (by decide) (by decide) (by decide)
theorem rowD_len {xs : List Int} : (xs.map D.int).length = xs.length := by simp
theorem row_rev {k : Nat} {xs : List Int} (h : Row k xs) : Row k xs.reverse := ⟨fun x hx => h.1 x (by simpa using hx), by simpa using h.2⟩
theorem row_cut {k : Nat} {xs : List Int} (h : Row k xs) (r : Nat) : Row k (xs.drop r ++ xs.take r) := by
  refine ⟨fun x hx => ?_, ?_⟩
  · rcases List.mem_append.mp hx with hx | hx
    · exact h.1 x (List.mem_of_mem_drop hx)
    · exact h.1 x (List.mem_of_mem_take hx)
  · have := h.2
    simp
    omega
theorem diff_range {xs ys : List Int} (h : xs.length = ys.length) : (List.range xs.length).map (fun i => D.int (xs.getD i 0 - ys.getD i 0)) = (diffZ xs ys).map D.int := by
  apply List.ext_getElem?
  intro i
  by_cases hi : i < xs.length
  · have hj : i < ys.length := by omega
    have hz : (xs.zip ys)[i]? = some (xs[i], ys[i]) := by rw [List.getElem?_zip_eq_some]; exact ⟨List.getElem?_eq_getElem hi, List.getElem?_eq_getElem hj⟩
    simp [diffZ, List.getElem?_range hi, List.getElem?_eq_getElem hi, List.getElem?_eq_getElem hj, hz]
  · rw [List.getElem?_eq_none (by simp; omega), List.getElem?_eq_none (by simp [diffZ]; omega)]
theorem dot_range {xs ys : List Int} (h : xs.length = ys.length) : (List.range xs.length).map (fun i => xs.getD i 0 * ys.getD i 0) = (xs.zip ys).map fun p => p.1 * p.2 := by
  apply List.ext_getElem?
  intro i
  by_cases hi : i < xs.length
  · have hj : i < ys.length := by omega
    have hz : (xs.zip ys)[i]? = some (xs[i], ys[i]) := by rw [List.getElem?_zip_eq_some]; exact ⟨List.getElem?_eq_getElem hi, List.getElem?_eq_getElem hj⟩
    simp [List.getElem?_range hi, List.getElem?_eq_getElem hi, List.getElem?_eq_getElem hj, hz]
  · rw [List.getElem?_eq_none (by simp; omega), List.getElem?_eq_none (by simp; omega)]
theorem ints_at {xs : List Int} {i : Nat} (h : i < xs.length) : (xs.map D.int)[i]? = some (.int (xs.getD i 0)) := by
  simp [List.getElem?_eq_getElem h]
theorem ints_mem {xs : List Int} {i : Nat} (h : i < xs.length) : xs.getD i 0 ∈ xs := by
  rw [List.getD_eq_getElem?_getD, List.getElem?_eq_getElem h]
  exact List.getElem_mem h
@[simp] theorem mulOk_litL {n : Nat} {y : Int} (h : n < 18446744073709551616) : mulOk (no_index (@OfNat.ofNat Int n _)) y := by
  have : (@OfNat.ofNat Int n _) = (n : Int) := rfl
  exact mulOk_l (by rw [this]; omega) (by rw [this]; omega)
@[simp] theorem mulOk_litR {n : Nat} {y : Int} (h : n < 18446744073709551616) : mulOk y (no_index (@OfNat.ofNat Int n _)) := by
  have : (@OfNat.ofNat Int n _) = (n : Int) := rfl
  exact mulOk_r (by rw [this]; omega) (by rw [this]; omega)
@[simp] theorem mulOk_litN {n : Nat} {y : Int} (h : n < 18446744073709551616) : mulOk y (-(no_index (@OfNat.ofNat Int n _))) := by
  have : (@OfNat.ofNat Int n _) = (n : Int) := rfl
  exact mulOk_r (by rw [this]; omega) (by rw [this]; omega)
@[simp] theorem divOk_lit {n : Nat} (h : 0 < n) (h1 : n < 18446744073709551616) : divOk (no_index (@OfNat.ofNat Int n _)) := by
  have e : (@OfNat.ofNat Int n _) = (n : Int) := rfl
  exact divOk_bd 64 (A := 18446744073709551615) (by rw [e]; exact ⟨by omega, by omega⟩) (by rw [e]; omega) (by decide) (by decide) (by decide)
@[simp] theorem powOk_lit {n k : Nat} (h : n < 18446744073709551616) (h1 : k ≤ 1000000) : powOk (no_index (@OfNat.ofNat Int n _)) (no_index (@OfNat.ofNat Int k _)) := by
  have e : (@OfNat.ofNat Int n _) = (n : Int) := rfl
  have e2 : (@OfNat.ofNat Int k _) = (k : Int) := rfl
  refine ⟨by rw [e2]; omega, by rw [e2]; omega, ?_⟩
  rw [e]
  simpa using h
end Rw
namespace Rw
theorem uneven_cons (x : Int) (xs : List Int) : unevenZ (x :: xs) = unevenZ xs + (xs.map fun y => (x - y) * (x - y)).sum := by
  have h : (xs.map fun y => (x - y) * (x - y)).sum = (xs.length : Int) * (x * x) - 2 * x * xs.sum + (xs.map fun y => y * y).sum := by
    induction xs with
    | nil => simp
    | cons y ys ih =>
      simp only [List.map_cons, List.sum_cons, List.length_cons, ih]
      push_cast
      grind
  unfold unevenZ
  simp only [List.map_cons, List.sum_cons, List.length_cons, h]
  push_cast
  grind
theorem sq_nn (x : Int) : 0 ≤ x * x := by
  by_cases h : 0 ≤ x
  · exact Int.mul_nonneg h h
  · have := Int.mul_nonneg (show 0 ≤ -x by omega) (show 0 ≤ -x by omega)
    rwa [Int.neg_mul_neg] at this
theorem sum_nn {xs : List Int} (h : ∀ x ∈ xs, 0 ≤ x) : 0 ≤ xs.sum := by
  induction xs with
  | nil => simp
  | cons x xs ih =>
    have a := h x (by simp)
    have b := ih fun y hy => h y (by simp [hy])
    rw [List.sum_cons]
    omega
theorem uneven_nn (xs : List Int) : 0 ≤ unevenZ xs := by
  induction xs with
  | nil => decide
  | cons x xs ih =>
    rw [uneven_cons]
    have : 0 ≤ (xs.map fun y => (x - y) * (x - y)).sum := sum_nn (by
      intro z hz
      obtain ⟨y, _, rfl⟩ := List.mem_map.mp hz
      exact sq_nn _)
    omega
theorem uneven_pos {xs : List Int} (h : ¬ unevenZ xs = 0) : 0 < unevenZ xs := by
  have := uneven_nn xs
  omega
/-- the nearest of some places, by a measure -/
def minBy (g : Nat → Int × Int) (fr : List Nat) : Option ((Int × Int) × Nat) := minOf (fr.map fun q => (g q, q))
theorem minBy_fold {g : Nat → Int × Int} {fr : List Nat} : minBy g fr = fr.foldl (fun b q => minStep b (g q, q)) none := by
  unfold minBy minOf
  rw [List.foldl_map]
def BestI (j : Nat) (b : Option ((Int × Int) × Nat)) : Prop := ∀ x, b = some x → Bn j x.1.1 ∧ Bn j x.1.2
theorem minStep_ok {j : Nat} {b : Option ((Int × Int) × Nat)} {f : Int × Int} {q : Nat} (hf : Bn j f.1 ∧ Bn j f.2) (h : BestI j b) : BestI j (minStep b (f, q)) := by
  intro x e
  unfold minStep at e
  split at e
  · cases e
    exact hf
  · split at e
    · cases e
      exact hf
    · cases e
      exact h _ rfl
theorem rowsD_enum {ss : List (List Int)} : enumD 0 (rowsD ss) = (List.range ss.length).map fun q => .tup [.int (q : Nat), rowD (nthZ ss q)] := by
  have := enumD_range (xs := rowsD ss) (g := fun q => rowD (nthZ ss q)) fun i hi => rowsD_at (by simpa [rowsD] using hi)
  rw [this]
  simp [rowsD]
theorem rowsD_len {ss : List (List Int)} : (rowsD ss).length = ss.length := by simp [rowsD]
end Rw
end PRwMore
section PRwPurse
set_option autoImplicit false
set_option linter.all false
set_option maxRecDepth 100000
/-! RwPurse: a purse of three ints: what is drawn by digits, the cell, how many draws there were (bounded by b). -/
namespace Rw
section
variable {b b' n : Nat} {M M' M'' M1 M2 : DSt}
def Pu (b n : Nat) (M : DSt) : Prop := ∃ a c k : Int, M[n]? = some (some [.int a, .int c, .int k]) ∧ 0 ≤ k ∧ k ≤ b
def Lu (b n : Nat) (M M' : DSt) : Prop := Pu b n M' ∧ ∃ x, M' = M.set n (some x)
theorem Pu.mono (h : Pu b n M) (l : b ≤ b') : Pu b' n M := by
  obtain ⟨a, c, k, e, h0, h1⟩ := h
  exact ⟨a, c, k, e, h0, by omega⟩
theorem Pu.lt (h : Pu b n M) : n < M.length := by
  obtain ⟨a, c, k, e, _⟩ := h
  exact (List.getElem?_eq_some_iff.mp e).1
theorem Lu.mono (h : Lu b n M M') (l : b ≤ b') : Lu b' n M M' := ⟨h.1.mono l, h.2⟩
theorem Pu.like (h : Pu b n M) : Lu b n M M := by
  refine ⟨h, ?_⟩
  obtain ⟨a, c, k, e, _⟩ := h
  obtain ⟨hn, e⟩ := List.getElem?_eq_some_iff.mp e
  exact ⟨_, by rw [← e, List.set_getElem_self]⟩
theorem Lu.len (h : Lu b n M M') : M'.length = M.length := by
  obtain ⟨_, x, rfl⟩ := h
  simp
theorem Lu.trans (h : Lu b n M M') (h' : Lu b' n M' M'') : Lu b' n M M'' := by
  obtain ⟨_, x, rfl⟩ := h
  obtain ⟨p, y, rfl⟩ := h'
  exact ⟨p, y, by rw [List.set_set]⟩
theorem Lu.at {c : Nat} (h : Lu b n M M') (hc : c ≠ n) : M'[c]? = M[c]? := by
  obtain ⟨_, x, rfl⟩ := h
  rw [List.getElem?_set_ne (Ne.symm hc)]
theorem Lu.take (h : Lu b n M M') : M'.take M.length = M' := List.take_of_length_le (by rw [h.len]; exact Nat.le_refl _)
/-- a store in which a def works -/
def Gu (b n : Nat) (M M1 : DSt) : Prop := n < M.length ∧ M.length ≤ M1.length ∧ Pu b n M1 ∧ ∃ x, M1.take M.length = M.set n (some x)
theorem Pu.grown (h : Pu b n M) : Gu b n M M := ⟨h.lt, Nat.le_refl _, h, by rw [List.take_of_length_le (Nat.le_refl _)]; exact h.like.2⟩
theorem Gu.mono (h : Gu b n M M1) (l : b ≤ b') : Gu b' n M M1 := ⟨h.1, h.2.1, h.2.2.1.mono l, h.2.2.2⟩
theorem Gu.draw (h : Gu b n M M1) (h' : Lu b' n M1 M2) : Gu b' n M M2 := by
  obtain ⟨h0, h1, h2, x, h3⟩ := h
  obtain ⟨p, y, rfl⟩ := h'
  refine ⟨h0, by simpa using h1, p, y, ?_⟩
  rw [List.take_set, h3, List.set_set]
theorem Gu.app (h : Gu b n M M1) (x : Option (List D)) : Gu b n M (M1 ++ [x]) := by
  obtain ⟨h0, h1, ⟨a, c, k, e, hk⟩, y, h3⟩ := h
  refine ⟨h0, by simp; omega, ⟨a, c, k, by rw [List.getElem?_append_left (by omega)]; exact e, hk⟩, y, ?_⟩
  rw [List.take_append_of_le_length h1]
  exact h3
theorem Gu.put {c : Nat} (h : Gu b n M M1) (hc : M.length ≤ c) (x : Option (List D)) : Gu b n M (M1.set c x) := by
  obtain ⟨h0, h1, ⟨a, d, k, e, hk⟩, y, h3⟩ := h
  refine ⟨h0, by simpa using h1, ⟨a, d, k, by rw [List.getElem?_set_ne (by omega)]; exact e, hk⟩, y, ?_⟩
  rw [List.take_set, List.set_eq_of_length_le (by simp; omega)]
  exact h3
theorem Gu.take (h : Gu b n M M1) : Lu b n M (M1.take M.length) := by
  obtain ⟨h0, h1, ⟨a, d, k, e, hk⟩, y, h3⟩ := h
  exact ⟨⟨a, d, k, by rw [List.getElem?_take, if_pos h0]; exact e, hk⟩, y, h3⟩
theorem Gu.pu (h : Gu b n M M1) : Pu b n M1 := h.2.2.1
def DrawnU (b n : Nat) (m : Int) (M : DSt) (p : Dv × DSt) : Prop := ∃ r : Nat, (r : Int) < m ∧ p.1 = .d (.int (r : Int)) ∧ Lu b n M p.2
/-- a drawn int within k figures -/
def DrawnV (k b n : Nat) (M : DSt) (p : Dv × DSt) : Prop := ∃ z : Int, Bn k z ∧ p.1 = .d (.int z) ∧ Lu b n M p.2
/-- a drawn row in a new cell -/
def RowU (k b n m : Nat) (M : DSt) (p : Dv × DSt) : Prop := ∃ (zs : List Int) (M' : DSt), Row k zs ∧ zs.length ≤ m ∧ Lu b n M M' ∧ p = (.c M.length, M' ++ [some (zs.map D.int)])
theorem RowU_fin {k m c : Nat} {zs : List Int} (hz : Row k zs) (hl : zs.length ≤ m) (hg : Gu b n M M1) (hc : M.length ≤ c) (e : M1[c]? = some (some (zs.map D.int))) : Ok (fin M.length (.c c) M1) (RowU k b n m M) :=
  (ok_finC hc e).mpr ⟨zs, _, hz, hl, hg.take, rfl⟩
end
/-- a comprehension that draws, turn by turn -/
theorem comp_turn {chk : DSt → Prop} {step : D → DSt → Option (Option D × DSt)} {P : List D × DSt → Prop} (R : D → Prop) : ∀ {xs : List D} {M : DSt} (I : Nat → DSt → Prop) (hc : ∀ i M, I i M → chk M), I 0 M →
    (∀ i x M, xs[i]? = some x → I i M → Ok (step x M) fun p => I (i + 1) p.2 ∧ ∃ y, p.1 = some y ∧ R y) → (∀ ys M, I xs.length M → ys.length = xs.length → (∀ y ∈ ys, R y) → P (ys, M)) → Ok (compL chk step xs M) P := by
  intro xs
  induction xs generalizing P with
  | nil =>
    intro M I hc hM h k
    simp only [compL, ok_grd, ok_some]
    exact ⟨hc 0 M hM, k [] M hM rfl (by simp)⟩
  | cons x xs ih =>
    intro M I hc hM h k
    obtain ⟨⟨o, M1⟩, e, hM1, y, rfl, hy⟩ := h 0 x M rfl hM
    have r := ih (P := fun q => P (y :: q.1, q.2)) (fun i => I (i + 1)) (fun i => hc (i + 1)) hM1 (fun i z M hz => h (i + 1) z M (by simpa using hz)) fun ys M2 h2 l a => k _ _ h2 (by simp [l]) (by
      intro z hz
      rcases List.mem_cons.mp hz with rfl | hz
      · exact hy
      · exact a z hz)
    simp only [compL, ok_grd]
    refine ⟨hc 0 M hM, ?_⟩
    obtain ⟨⟨ys, M2⟩, e2, hP⟩ := r
    simp only [e, e2, ok_some]
    exact hP
end Rw
end PRwPurse
section PRwGrp
set_option autoImplicit false
set_option linter.all false
set_option maxRecDepth 100000
/-! RwGrp: the least of groups is the least of their leasts. -/
namespace Rw
section
variable {π κ : Type}
theorem minStep_assoc {s : Option ((Int × Int) × π)} {y z : (Int × Int) × π} (hs : ∀ g, s = some g → 0 < g.1.2) (hy : 0 < y.1.2) (hz : 0 < z.1.2) :
    minStep (minStep s y) z = (match minStep (some y) z with | some w => minStep s w | none => s) := by
  cases s with
  | none =>
    simp only [minStep]
    split <;> rfl
  | some g =>
    have hg := hs g rfl
    simp only [minStep]
    cases h1 : lessZ y.1 g.1 with
    | true =>
      cases h2 : lessZ z.1 y.1 with
      | true => simp [h2, less_trans hz hy hg h2 h1]
      | false => simp [h2, h1]
    | false =>
      cases h2 : lessZ z.1 y.1 with
      | true => simp [h2]
      | false =>
        have := nless_trans hz hy hg h2 h1
        simp [h1, h2, this]
/-- a group's least, put to what there is -/
def joinB (s m : Option ((Int × Int) × π)) : Option ((Int × Int) × π) := match m with
  | none => s
  | some y => minStep s y
theorem minStep_pos {s : Option ((Int × Int) × π)} {y : (Int × Int) × π} (hs : ∀ g, s = some g → 0 < g.1.2) (hy : 0 < y.1.2) : ∀ g, minStep s y = some g → 0 < g.1.2 := by
  intro g e
  unfold minStep at e
  split at e
  · cases e
    exact hy
  · split at e
    · cases e
      exact hy
    · cases e
      exact hs _ rfl
theorem fold_pos {L : List ((Int × Int) × π)} {s : Option ((Int × Int) × π)} (hs : ∀ g, s = some g → 0 < g.1.2) (hL : ∀ y ∈ L, 0 < y.1.2) : ∀ g, L.foldl minStep s = some g → 0 < g.1.2 := by
  induction L generalizing s with
  | nil => exact hs
  | cons y L ih => exact ih (minStep_pos hs (hL y (by simp))) fun z hz => hL z (by simp [hz])
theorem fold_join {L : List ((Int × Int) × π)} {s : Option ((Int × Int) × π)} (hs : ∀ g, s = some g → 0 < g.1.2) (hL : ∀ y ∈ L, 0 < y.1.2) : L.foldl minStep s = joinB s (minOf L) := by
  have key : ∀ (R : List ((Int × Int) × π)) (L : List ((Int × Int) × π)), R = L.reverse → (∀ y ∈ L, 0 < y.1.2) → L.foldl minStep s = joinB s (minOf L) := by
    intro R
    induction R with
    | nil =>
      intro L e _
      have : L = [] := by simpa using e.symm
      subst this
      rfl
    | cons z R ih =>
      intro L e hL
      have eL : L = R.reverse ++ [z] := by
        have := congrArg List.reverse e
        simpa using this.symm
      subst eL
      have hR : ∀ y ∈ R.reverse, 0 < y.1.2 := fun y hy => hL y (List.mem_append_left _ hy)
      have hz : 0 < z.1.2 := hL z (by simp)
      have i := ih R.reverse (by simp) hR
      have fp := fold_pos (s := none) (by intro g e; cases e) hR
      unfold minOf at i ⊢
      rw [List.foldl_append, List.foldl_append, i]
      simp only [List.foldl_cons, List.foldl_nil]
      cases hm : R.reverse.foldl minStep (none : Option ((Int × Int) × π)) with
      | none => rfl
      | some y =>
        simp only [joinB]
        rw [minStep_assoc hs (fp y hm) hz]
        cases minStep (some y) z <;> rfl
  exact key _ L rfl hL
theorem minOf_append {A B : List ((Int × Int) × π)} (hA : ∀ y ∈ A, 0 < y.1.2) (hB : ∀ y ∈ B, 0 < y.1.2) : minOf (A ++ B) = joinB (minOf A) (minOf B) := by
  rw [show minOf (A ++ B) = B.foldl minStep (A.foldl minStep none) from by unfold minOf; rw [List.foldl_append]]
  exact fold_join (fold_pos (s := none) (by intro g e; cases e) hA) hB
theorem minOf_flat {L : List κ} {g : κ → List ((Int × Int) × π)} (h : ∀ p ∈ L, ∀ y ∈ g p, 0 < y.1.2) : minOf (L.flatMap g) = minOf (L.filterMap fun p => minOf (g p)) := by
  have key : ∀ (L : List κ) (s : Option ((Int × Int) × π)), (∀ g, s = some g → 0 < g.1.2) → (∀ p ∈ L, ∀ y ∈ g p, 0 < y.1.2) → (L.flatMap g).foldl minStep s = (L.filterMap fun p => minOf (g p)).foldl minStep s := by
    intro L
    induction L with
    | nil => intro s _ _; rfl
    | cons p L ih =>
      intro s hs h
      have hp := h p (by simp)
      rw [List.flatMap_cons, List.foldl_append, ih _ (fold_pos hs hp) fun q hq => h q (by simp [hq]), List.filterMap_cons, fold_join hs hp]
      cases hm : minOf (g p) <;> rfl
  exact key L none (by intro g e; cases e) h
theorem minOf_map {L : List ((Int × Int) × π)} {h : π → κ} : minOf (L.map fun x => (x.1, h x.2)) = (minOf L).map fun x => (x.1, h x.2) := by
  have key : ∀ (L : List ((Int × Int) × π)) (s : Option ((Int × Int) × π)), (L.map fun x => (x.1, h x.2)).foldl minStep (s.map fun x => (x.1, h x.2)) = (L.foldl minStep s).map fun x => (x.1, h x.2) := by
    intro L
    induction L with
    | nil => intro s; rfl
    | cons y L ih =>
      intro s
      rw [List.map_cons, List.foldl_cons, List.foldl_cons, ← ih]
      congr 1
      cases s with
      | none => rfl
      | some g =>
        simp only [minStep, Option.map_some]
        split <;> rfl
  exact key L none
end
end Rw
namespace Rw
/-- a loop that puts one thing at the end of a new list each turn -/
theorem forL_app {α : Type} {chk : DSt → Prop} {step : D → DEnv → DSt → Option Out} {M : DSt} {P : Out → Prop} {f : α → D} (env : DEnv) (g : α → D) (hc : ∀ xs, chk (M ++ [some xs])) : ∀ {l : List α} {xs0 : List D},
    (∀ a ∈ l, ∀ xs, xs.length < xs0.length + l.length → Ok (step (f a) env (M ++ [some xs])) (turnP (fun ρ M' => ρ = env ∧ M' = M ++ [some (xs ++ [g a])]) P)) → P (.nx env (M ++ [some (xs0 ++ l.map g)])) → Ok (forL chk step (l.map f) env (M ++ [some xs0])) P
  | [], xs0, _, k => by
    simp only [List.map_nil, forL, ok_grd, ok_some]
    simp at k
    exact ⟨hc _, k⟩
  | a :: l, xs0, h, k => by
    have h1 := h a (by simp) xs0 (by simp)
    rw [List.map_cons, ok_forC]
    refine ⟨hc _, h1.mono ?_⟩
    intro o ho
    have r := forL_app (f := f) env g hc (l := l) (xs0 := xs0 ++ [g a]) (fun b hb xs hx => h b (by simp [hb]) xs (by simp at hx ⊢; omega)) (by simpa using k)
    cases o with
    | nx ρ M' => obtain ⟨rfl, rfl⟩ := ho; exact r
    | ct ρ M' => obtain ⟨rfl, rfl⟩ := ho; exact r
    | bk ρ M' => exact ho
    | rt v M' => exact ho
@[simp] theorem app_at {M : DSt} {x : Option (List D)} : (M ++ [x])[M.length]? = some x := by simp
@[simp] theorem app_set {M : DSt} {x y : Option (List D)} : (M ++ [x]).set M.length y = M ++ [y] := by simp
theorem range_ge {n s : Nat} : (List.range n).filter (fun q => decide (s ≤ q)) = (List.range (n - s)).map fun k => s + k := by
  induction n with
  | zero => simp
  | succ n ih =>
    rw [List.range_succ, List.filter_append, ih]
    by_cases h : s ≤ n
    · have : n + 1 - s = (n - s) + 1 := by omega
      rw [this, List.range_succ, List.map_append]
      simp [h]
    · have : n + 1 - s = n - s := by omega
      rw [this]
      simp [h]
theorem range_lt {n m : Nat} (h : m ≤ n) : (List.range n).filter (fun q => decide (q < m)) = List.range m := by
  induction n with
  | zero =>
    have : m = 0 := by omega
    subst this
    rfl
  | succ n ih =>
    rw [List.range_succ, List.filter_append]
    by_cases hm : m ≤ n
    · rw [ih hm]
      have : ¬ n < m := by omega
      simp [this]
    · have : m = n + 1 := by omega
      subst this
      rw [List.range_succ]
      have : (List.range n).filter (fun q => decide (q < n + 1)) = List.range n := by
        rw [List.filter_eq_self]
        intro q hq
        have := List.mem_range.mp hq
        simp
        omega
      rw [this]
      simp
theorem rng_nats {a n : Nat} : rng (a : Int) n = natsD ((List.range n).map fun k => a + k) := by
  simp [rng, natsD]
theorem rng0_nats {n : Nat} : rng 0 n = natsD (List.range n) := by
  simp [rng, natsD]
/-- a place or None -/
def plD : Option Nat → D
  | none => .non
  | some q => .int (q : Nat)
/-- the place of the nearest of some -/
def placeZ (kd : Kd) (ss : List (List Int)) (x : List Int) (fr : List Nat) : Option Nat := (minBy (fun q => farZ kd x (nthZ ss q)) fr).map (·.2)
end Rw
end PRwGrp
section PRwTab
set_option autoImplicit false
set_option linter.all false
set_option maxRecDepth 100000
/-! RwTab: the nearest two by the table; defs that call themselves; further Ok rules. -/
namespace Rw
section
variable {π : Type}
theorem minOf_uniq {L : List ((Int × Int) × π)} {x : (Int × Int) × π} (hp : ∀ y ∈ L, 0 < y.1.2) (h : IsMin L x) : minOf L = some x := by
  obtain ⟨L1, L2, rfl, h1, h2⟩ := h
  have hx : 0 < x.1.2 := hp x (by simp)
  have p1 : ∀ y ∈ L1, 0 < y.1.2 := fun y hy => hp y (by simp [hy])
  have e1 : L1.foldl minStep none = minOf L1 := rfl
  unfold minOf
  rw [List.foldl_append, List.foldl_cons]
  have s1 : minStep (L1.foldl minStep none) x = some x := by
    rw [e1]
    cases e : minOf L1 with
    | none => rfl
    | some y =>
      have hy := (minOf_some p1 e).mem
      simp only [minStep, h1 y hy, if_true]
  rw [s1]
  clear s1 e1 h1 p1
  induction L2 with
  | nil => rfl
  | cons z L2 ih =>
    rw [List.foldl_cons]
    have : minStep (some x) z = some x := by
      simp only [minStep, h2 z (by simp)]
      simp
    rw [this]
    exact ih (fun y hy => hp y (by
      rcases List.mem_append.mp hy with hy | hy
      · simp [hy]
      · rcases List.mem_cons.mp hy with rfl | hy
        · simp
        · simp [hy])) fun y hy => h2 y (by simp [hy])
theorem minOf_filter {L : List ((Int × Int) × π)} {x : (Int × Int) × π} {c : (Int × Int) × π → Bool} (hp : ∀ y ∈ L, 0 < y.1.2) (h : minOf L = some x) (hc : c x = true) : minOf (L.filter c) = some x := by
  obtain ⟨L1, L2, rfl, h1, h2⟩ := minOf_some hp h
  refine minOf_uniq (fun y hy => hp y (List.mem_filter.mp hy).1) ⟨L1.filter c, L2.filter c, by simp [hc], fun y hy => h1 y (List.mem_filter.mp hy).1, fun y hy => h2 y (List.mem_filter.mp hy).1⟩
end
/-- those apart from a place, with how far -/
def candN (kd : Kd) (ss : List (List Int)) (gap p n : Nat) : List ((Int × Int) × Nat) := (List.range n).filterMap fun q => if gap ≤ (q - p) + (p - q) then some (farAt kd ss p q, q) else none
theorem nearTo_min {kd : Kd} {ss : List (List Int)} {gap p n : Nat} : nearTo kd ss gap p n = minOf (candN kd ss gap p n) := by
  induction n with
  | zero => rfl
  | succ n ih =>
    unfold candN minOf at ih ⊢
    rw [List.range_succ, List.filterMap_append, List.foldl_append, ← ih, nearTo]
    by_cases h : gap ≤ (n - p) + (p - n)
    · simp only [h, if_true, List.filterMap_cons, List.filterMap_nil, List.foldl_cons, List.foldl_nil]
      cases nearTo kd ss gap p n with
      | none => rfl
      | some g => rfl
    · simp only [h, if_false, List.filterMap_cons, List.filterMap_nil, List.foldl_nil]
/-- all twos apart, both ways -/
def candW (kd : Kd) (ss : List (List Int)) (gap : Nat) : List ((Int × Int) × (Nat × Nat)) := (List.range ss.length).flatMap fun p => (candN kd ss gap p ss.length).map fun x => (x.1, p, x.2)
theorem candW_mem {kd : Kd} {ss : List (List Int)} {gap : Nat} {x : (Int × Int) × (Nat × Nat)} : x ∈ candW kd ss gap ↔ x.2.1 < ss.length ∧ x.2.2 < ss.length ∧ gap ≤ (x.2.2 - x.2.1) + (x.2.1 - x.2.2) ∧ x.1 = farAt kd ss x.2.1 x.2.2 := by
  unfold candW candN
  simp only [List.mem_flatMap, List.mem_map, List.mem_filterMap, List.mem_range]
  constructor
  · rintro ⟨p, hp, y, ⟨q, hq, e⟩, rfl⟩
    split at e
    · cases e
      exact ⟨hp, hq, by assumption, rfl⟩
    · cases e
  · rintro ⟨hp, hq, hg, e⟩
    refine ⟨x.2.1, hp, (x.1, x.2.2), ⟨x.2.2, hq, ?_⟩, rfl⟩
    rw [if_pos hg, e]
theorem candW_pos {kd : Kd} {ss : List (List Int)} {gap : Nat} (hs : ∀ s ∈ ss, 0 < s.length) : ∀ y ∈ candW kd ss gap, 0 < y.1.2 := by
  intro y hy
  obtain ⟨h1, h2, h3, h4⟩ := candW_mem.mp hy
  rw [h4]
  exact farZ_pos kd (hs _ (getD_mem h1))
theorem candP_filter {kd : Kd} {ss : List (List Int)} {gap : Nat} (g0 : 1 ≤ gap) : candP kd ss gap (List.range ss.length) = (candW kd ss gap).filter fun x => decide (x.2.1 < x.2.2) := by
  unfold candP candW
  rw [List.filter_flatMap]
  congr 1
  funext p
  unfold candN
  generalize List.range ss.length = L
  induction L with
  | nil => rfl
  | cons q L ih =>
    simp only [List.filterMap_cons]
    by_cases h : p + gap ≤ q
    · have h1 : gap ≤ (q - p) + (p - q) := by omega
      have h2 : p < q := by omega
      simp only [h, h1, if_true, List.map_cons, List.filter_cons, h2, decide_true, ih]
    · by_cases h1 : gap ≤ (q - p) + (p - q)
      · have h2 : ¬ p < q := by omega
        simp only [h, h1, if_true, if_false, List.map_cons, List.filter_cons, h2, decide_false, ih]
        simp
      · simp only [h, h1, if_false, ih]
theorem flat_split {α β : Type} {f : α → List β} : ∀ {L : List α} {A B : List β} {x : β}, L.flatMap f = A ++ x :: B → ∃ L1 p L2 A' B', L = L1 ++ p :: L2 ∧ f p = A' ++ x :: B' ∧ A = L1.flatMap f ++ A' ∧ B = B' ++ L2.flatMap f
  | [], A, B, x, h => by simp at h
  | p :: L, A, B, x, h => by
    rw [List.flatMap_cons] at h
    rcases List.append_eq_append_iff.mp h with ⟨a', e1, e2⟩ | ⟨c', e1, e2⟩
    · obtain ⟨L1, q, L2, A', B', e3, e4, e5, e6⟩ := flat_split (f := f) e2
      exact ⟨p :: L1, q, L2, A', B', by rw [e3]; rfl, e4, by rw [e1, e5, List.flatMap_cons, List.append_assoc], e6⟩
    · cases c' with
      | nil =>
        simp only [List.nil_append] at e2
        obtain ⟨L1, q, L2, A', B', e3, e4, e5, e6⟩ := flat_split (f := f) (L := L) (A := []) (B := B) (x := x) (by simpa using e2.symm)
        exact ⟨p :: L1, q, L2, A', B', by rw [e3]; rfl, e4, by rw [List.flatMap_cons, List.append_assoc, ← e5, List.append_nil, e1, List.append_nil], e6⟩
      | cons y c =>
        simp only [List.cons_append, List.cons.injEq] at e2
        obtain ⟨rfl, e2⟩ := e2
        exact ⟨[], p, L, A, c, rfl, e1, rfl, e2⟩
/-- the first least of the table is the nearest two -/
theorem pair_table {kd : Kd} {ss : List (List Int)} {gap : Nat} (hs : ∀ s ∈ ss, 0 < s.length) (he : Even ss) (g0 : 1 ≤ gap) :
    minOf ((List.range ss.length).filterMap fun p => (nearZ kd ss gap p).map fun x => (x.1, p, x.2)) = pairZ kd ss gap (List.range ss.length) := by
  have pos := candW_pos (kd := kd) (gap := gap) hs
  have e1 : minOf (candW kd ss gap) = minOf ((List.range ss.length).filterMap fun p => (nearZ kd ss gap p).map fun x => (x.1, p, x.2)) := by
    unfold candW
    rw [minOf_flat (fun p hp y hy => pos y (List.mem_flatMap.mpr ⟨p, hp, hy⟩))]
    congr 1
    congr 1
    funext p
    rw [minOf_map (h := fun q => (p, q)), nearZ, nearTo_min]
  rw [← e1]
  unfold pairZ
  rw [candP_filter g0]
  cases e : minOf (candW kd ss gap) with
  | none =>
    rw [minOf_none pos] at e
    rw [e]
    rfl
  | some x =>
    symm
    refine minOf_filter pos e ?_
    have hm := minOf_some pos e
    obtain ⟨h1, h2, h3, h4⟩ := candW_mem.mp hm.mem
    by_cases hlt : x.2.1 < x.2.2
    · simp [hlt]
    exfalso
    have hgt : x.2.2 < x.2.1 := by omega
    -- the two the other way round stand ahead
    obtain ⟨A, B, eL, hA, hB⟩ := hm
    have hy : ((x.1, x.2.2, x.2.1) : (Int × Int) × (Nat × Nat)) ∈ candW kd ss gap := by
      refine candW_mem.mpr ⟨h2, h1, by simp only; omega, ?_⟩
      simp only
      rw [h4, farAt_comm he h1 h2]
    unfold candW at eL
    obtain ⟨L1, p, L2, A', B', e3, e4, e5, e6⟩ := flat_split eL
    have hp : x.2.1 = p := by
      have : x ∈ (candN kd ss gap p ss.length).map fun x => (x.1, p, x.2) := by rw [e4]; simp
      obtain ⟨y, _, rfl⟩ := List.mem_map.mp this
      rfl
    have hin : x.2.2 ∈ L1 := by
      have hr : x.2.2 ∈ L1 ++ p :: L2 := by rw [← e3]; exact List.mem_range.mpr h2
      rcases List.mem_append.mp hr with hr | hr
      · exact hr
      · exfalso
        have hsort : (L1 ++ p :: L2).Pairwise (· < ·) := by rw [← e3]; exact List.pairwise_lt_range
        rcases List.mem_cons.mp hr with hr | hr
        · omega
        · have := (List.pairwise_append.mp hsort).2.1
          have := (List.pairwise_cons.mp this).1 _ hr
          omega
    have hmA : ((x.1, x.2.2, x.2.1) : (Int × Int) × (Nat × Nat)) ∈ A := by
      rw [e5]
      refine List.mem_append_left _ (List.mem_flatMap.mpr ⟨x.2.2, hin, ?_⟩)
      obtain ⟨q, hq, hy'⟩ := List.mem_flatMap.mp hy
      have : q = x.2.2 := by
        obtain ⟨y, _, e'⟩ := List.mem_map.mp hy'
        simp only [Prod.mk.injEq] at e'
        exact e'.2.1
      rw [this] at hy'
      exact hy'
    have := hA _ hmA
    simp only [lessZ_irr] at this
    cases this
theorem candL_table {kd : Kd} {xs : List Int} {gap l : Nat} : candL (tableZ kd xs gap l) (List.range (stretchesZ xs l).length) = (List.range (stretchesZ xs l).length).filterMap fun p => (nearZ kd (stretchesZ xs l) gap p).map fun x => (x.1, p, x.2) := by
  unfold candL
  have : ∀ L : List Nat, (∀ p ∈ L, p < (stretchesZ xs l).length) → (L.filterMap fun p => (rowAt (tableZ kd xs gap l) p).map fun x => (x.1, p, x.2)) = L.filterMap fun p => (nearZ kd (stretchesZ xs l) gap p).map fun x => (x.1, p, x.2) := by
    intro L
    induction L with
    | nil => intro _; rfl
    | cons p L ih =>
    intro hL
    have hp := hL p (by simp)
    have e : rowAt (tableZ kd xs gap l) p = nearZ kd (stretchesZ xs l) gap p := by
      rw [rowAt, List.getD_eq_getElem?_getD]
      simp [tableZ, List.getElem?_range hp]
    rw [List.filterMap_cons, List.filterMap_cons, e, ih fun q hq => hL q (by simp [hq])]
  exact this _ fun p hp => List.mem_range.mp hp
/-! ### defs that call themselves: what is plain -/
def plainB : Nat → D → Bool
  | _, .non => true
  | _, .int _ => true
  | 0, _ => false
  | n + 1, .lst xs => decide (xs.length ≤ 1000) && xs.all (plainB n)
  | n + 1, .tup xs => decide (xs.length ≤ 1000) && xs.all (plainB n)
  | _ + 1, _ => false
/-! ### further Ok rules -/
section
variable {ρ : DEnv} {M : DSt}
noncomputable def wR3 (vs : List Dv) (M : DSt) : Option (List D × List Nat × DSt) := match vs with
  | [.d (.int i), .d (.int j), .d (.int c)] => grd (c ≠ 0 ∧ -1000000 ≤ c ∧ c ≤ 1000000 ∧ -1000000000 ≤ i ∧ i ≤ 1000000000 ∧ -1000000000 ≤ j ∧ j ≤ 1000000000) (some (rngC i c (szC i j c), [], M))
  | _ => none
@[simp ↓] theorem ok_iR3 {a : DA} {P : List D × List Nat × DSt → Prop} : Ok (iR3 a ρ M) P ↔ Ok (a ρ M) fun p => Ok (wR3 p.1 p.2) P := by
  unfold iR3 wR3
  cases a ρ M with
  | none => simp
  | some p =>
    obtain ⟨x, M1⟩ := p
    simp only [ok_some]
    split
    · rename_i i j c M2 e
      cases e
      exact Iff.rfl
    · rename_i h
      split
      · rename_i i j c
        exact absurd rfl (h i j c M1)
      · exact Iff.rfl
@[simp ↓] theorem ok_wR3 {i j c : Int} {P : List D × List Nat × DSt → Prop} : Ok (wR3 [.d (.int i), .d (.int j), .d (.int c)] M) P ↔ (c ≠ 0 ∧ -1000000 ≤ c ∧ c ≤ 1000000 ∧ -1000000000 ≤ i ∧ i ≤ 1000000000 ∧ -1000000000 ≤ j ∧ j ≤ 1000000000) ∧ P (rngC i c (szC i j c), [], M) := by simp only [wR3, ok_grd, ok_some]
@[simp ↓] theorem ok_augS {f : O2} {o i e : DE} {P : Out → Prop} : Ok (dAugS f o i e ρ M) P ↔ Ok (o ρ M) fun p => Ok (asC p.1) fun n => Ok (i ρ p.2) fun q => Ok (asI q.1) fun k => Ok (cel q.2 n) fun xs => Ok (ixD xs.length k) fun j => Ok (xs[j]?) fun x => Ok (e ρ q.2) fun r => Ok (f (.d x) r.1 r.2) fun s => Ok (asD s.1) fun z => Ok (cel s.2 n) fun ys => ys.length = xs.length ∧ P (.nx ρ (setC s.2 n (ys.set j z))) := by
  unfold dAugS
  cases o ρ M with
  | none => simp
  | some p =>
    obtain ⟨x, M1⟩ := p
    simp only [ok_some]
    cases x with
    | d x => simp [asC]
    | r x => simp [asC]
    | c n =>
      simp only [ok_asC]
      cases i ρ M1 with
      | none => simp
      | some q =>
        obtain ⟨y, M2⟩ := q
        simp only [ok_some]
        cases y with
        | c m => simp [asI]
        | r m => simp [asI]
        | d y =>
          cases y with
          | int k =>
            simp only [ok_asI]
            unfold cel
            cases e1 : (M2[n]?).join with
            | none => simp
            | some xs =>
              simp only [ok_some]
              cases e2 : ixD xs.length k with
              | none => simp
              | some j =>
                simp only [ok_some]
                cases e3 : xs[j]? with
                | none => simp
                | some x =>
                  simp only [ok_some]
                  cases e ρ M2 with
                  | none => simp
                  | some r =>
                    obtain ⟨y, M3⟩ := r
                    simp only [ok_some]
                    cases f (.d x) y M3 with
                    | none => simp
                    | some s =>
                      obtain ⟨z, M4⟩ := s
                      simp only [ok_some]
                      cases z with
                      | c m => simp [asD]
                      | r m => simp [asD]
                      | d z =>
                        simp only [ok_asD]
                        cases e4 : (M4[n]?).join with
                        | none => simp
                        | some ys =>
                          simp only [ok_some]
                          by_cases hl : ys.length = xs.length <;> simp [hl]
          | _ => simp [asI]
@[simp ↓] theorem ok_reverse {n : Nat} {P : Dv × DSt → Prop} : Ok (mReverse (.c n) [] M) P ↔ Ok (cel M n) fun xs => P (.d .non, M.set n (some xs.reverse)) := by
  simp only [mReverse, cel]
  cases (M[n]?).join <;> simp
@[simp ↓] theorem ok_max1 {ns : List Int} {P : Dv × DSt → Prop} : Ok (oMax1 [.d (.lst (ns.map D.int))] M) P ↔ 0 < ns.length ∧ P (.d (.int (maxZ ns)), M) := by simp [oMax1]
@[simp ↓] theorem ok_min1 {ns : List Int} {P : Dv × DSt → Prop} : Ok (oMin1 [.d (.lst (ns.map D.int))] M) P ↔ 0 < ns.length ∧ P (.d (.int (minZ ns)), M) := by simp [oMin1]
end
end Rw
namespace Rw
theorem ok_neCC {M : DSt} {n m : Nat} {xs : List D} {P : Dv × DSt → Prop} (h : M[n]? = some (some xs)) (h' : M[m]? = some (some xs)) (hx : (D.lst xs).shp 9 = true) : Ok (oNe (.c n) (.c m) M) P ↔ P (.d (.bl false), M) := by
  have := eqv_refl 9 _ hx
  simp [oNe, dv, h, h', hx, this]
theorem ok_eqDC {M : DSt} {m : Nat} {xs : List D} {P : Dv × DSt → Prop} (h' : M[m]? = some (some xs)) (hx : (D.lst xs).shp 9 = true) : Ok (oEq (.d (.lst xs)) (.c m) M) P ↔ P (.d (.bl true), M) := by
  have := eqv_refl 9 _ hx
  simp [oEq, dv, h', hx, this]
theorem ok_neDC {M : DSt} {m : Nat} {xs : List D} {P : Dv × DSt → Prop} (h' : M[m]? = some (some xs)) (hx : (D.lst xs).shp 9 = true) : Ok (oNe (.d (.lst xs)) (.c m) M) P ↔ P (.d (.bl false), M) := by
  have := eqv_refl 9 _ hx
  simp [oNe, dv, h', hx, this]
@[simp ↓] theorem ok_neB {a b : Bool} {M : DSt} {P : Dv × DSt → Prop} : Ok (oNe (.d (.bl a)) (.d (.bl b)) M) P ↔ P (.d (.bl (!(a == b))), M) := by
  rw [ok_neD (by rfl) (by rfl)]
  simp [D.eqv]
@[simp ↓] theorem ok_eqB {a b : Bool} {M : DSt} {P : Dv × DSt → Prop} : Ok (oEq (.d (.bl a)) (.d (.bl b)) M) P ↔ P (.d (.bl (a == b)), M) := by
  rw [ok_eqD (by rfl) (by rfl)]
  simp [D.eqv]
theorem set_map_range {m j : Nat} {g : Nat → D} {x : D} (hj : j < m) : ((List.range m).map g).set j x = (List.range m).map fun c => if c = j then x else g c := by
  apply List.ext_getElem?
  intro i
  by_cases hi : i < m
  · by_cases e : j = i
    · subst e
      rw [List.getElem?_set_self (by simpa using hi), List.getElem?_map, List.getElem?_range hi]
      simp
    · rw [List.getElem?_set_ne e, List.getElem?_map, List.getElem?_map, List.getElem?_range hi]
      simp [Ne.symm e]
  · rw [List.getElem?_eq_none (by simp; omega), List.getElem?_eq_none (by simp; omega)]
theorem at_map_range {m j : Nat} {g : Nat → D} (hj : j < m) : ((List.range m).map g)[j]? = some (g j) := by
  rw [List.getElem?_map, List.getElem?_range hj]
  rfl
end Rw
namespace Rw
/-- a loop that puts something at the end of a new list, or nothing -/
theorem forL_appO {α : Type} {chk : DSt → Prop} {step : D → DEnv → DSt → Option Out} {M : DSt} {P : Out → Prop} {f : α → D} (env : DEnv) (g : α → Option D) (hc : ∀ xs, chk (M ++ [some xs])) : ∀ {l : List α} {xs0 : List D},
    (∀ a ∈ l, ∀ xs, xs.length < xs0.length + l.length → Ok (step (f a) env (M ++ [some xs])) (turnP (fun ρ M' => ρ = env ∧ M' = M ++ [some (xs ++ (g a).toList)]) P)) → P (.nx env (M ++ [some (xs0 ++ l.filterMap g)])) → Ok (forL chk step (l.map f) env (M ++ [some xs0])) P
  | [], xs0, _, k => by
    simp only [List.map_nil, forL, ok_grd, ok_some]
    simp at k
    exact ⟨hc _, k⟩
  | a :: l, xs0, h, k => by
    have h1 := h a (by simp) xs0 (by simp)
    rw [List.map_cons, ok_forC]
    refine ⟨hc _, h1.mono ?_⟩
    intro o ho
    have hl : (xs0 ++ (g a).toList).length ≤ xs0.length + 1 := by cases g a <;> simp
    have r := forL_appO (f := f) env g hc (l := l) (xs0 := xs0 ++ (g a).toList) (fun b hb xs hx => h b (by simp [hb]) xs (by simp only [List.length_cons]; omega)) (by
      have : xs0 ++ (g a).toList ++ l.filterMap g = xs0 ++ (a :: l).filterMap g := by
        rw [List.filterMap_cons]
        cases g a <;> simp
      rw [this]
      exact k)
    cases o with
    | nx ρ M' => obtain ⟨rfl, rfl⟩ := ho; exact r
    | ct ρ M' => obtain ⟨rfl, rfl⟩ := ho; exact r
    | bk ρ M' => exact ho
    | rt v M' => exact ho
theorem range1 {n : Nat} : rng 1 n = (List.range n).map fun i => D.int ((i + 1 : Nat) : Int) := by
  simp [rng]
  intro a _
  omega
theorem Bn.lit {k : Nat} {x : Int} (h : -(10 ^ k) ≤ x) (h' : x ≤ 10 ^ k) : Bn k x := ⟨h, h'⟩
end Rw
namespace Rw
/-- behind a loop that hands something back at the first that has it -/
def outF (env : DEnv) (M : DSt) : Option Dv → Out
  | none => .nx env M
  | some v => .rt v M
theorem forL_first {α : Type} {chk : DSt → Prop} {step : D → DEnv → DSt → Option Out} {M : DSt} {P : Out → Prop} {f : α → D} (env : DEnv) (g : α → Option Dv) (hc : chk M) : ∀ {l : List α},
    (∀ a ∈ l, Ok (step (f a) env M) (turnP (fun ρ M' => g a = none ∧ ρ = env ∧ M' = M) fun o => ∃ v, g a = some v ∧ o = .rt v M)) → P (outF env M (l.findSome? g)) → Ok (forL chk step (l.map f) env M) P
  | [], _, k => by
    simp only [List.map_nil, forL, ok_grd, ok_some]
    exact ⟨hc, k⟩
  | a :: l, h, k => by
    have h1 := h a (by simp)
    rw [List.map_cons, ok_forC]
    refine ⟨hc, h1.mono ?_⟩
    intro o ho
    cases o with
    | nx ρ M' =>
      obtain ⟨e, rfl, rfl⟩ := ho
      exact forL_first (f := f) _ g hc (fun b hb => h b (by simp [hb])) (by simpa [List.findSome?_cons, e] using k)
    | ct ρ M' =>
      obtain ⟨e, rfl, rfl⟩ := ho
      exact forL_first (f := f) _ g hc (fun b hb => h b (by simp [hb])) (by simpa [List.findSome?_cons, e] using k)
    | bk ρ M' =>
      obtain ⟨v, e, h⟩ := ho
      cases h
    | rt v M' =>
      obtain ⟨w, e, h⟩ := ho
      cases h
      simpa [List.findSome?_cons, e, outF] using k
theorem findSome_map {α β γ : Type} {g : α → Option β} {h : β → γ} : ∀ {l : List α}, (l.findSome? g).map h = l.findSome? fun a => (g a).map h
  | [] => rfl
  | a :: l => by
    rw [List.findSome?_cons, List.findSome?_cons]
    cases g a with
    | none => exact findSome_map
    | some b => rfl
theorem findSome_none {α β : Type} {g : α → Option β} : ∀ {l : List α}, (∀ a ∈ l, g a = none) → l.findSome? g = none
  | [], _ => rfl
  | a :: l, h => by
    rw [List.findSome?_cons, h a (by simp)]
    exact findSome_none fun b hb => h b (by simp [hb])
theorem findSome_congr {α β : Type} {g h : α → Option β} : ∀ {l : List α}, (∀ a ∈ l, g a = h a) → l.findSome? g = l.findSome? h
  | [], _ => rfl
  | a :: l, e => by
    rw [List.findSome?_cons, List.findSome?_cons, e a (by simp), findSome_congr fun b hb => e b (by simp [hb])]
/-- the first two apart that are no farther than a fraction -/
def rowF (kd : Kd) (ss : List (List Int)) (gap : Nat) (fr : Int × Int) (p : Nat) : Option (Nat × Nat) := (List.range (ss.length - (p + gap))).findSome? fun k => if lessZ fr (farAt kd ss p (p + gap + k)) then none else some (p, p + gap + k)
theorem rowF_map {γ : Type} {kd : Kd} {ss : List (List Int)} {gap : Nat} {fr : Int × Int} {p : Nat} {h : Nat × Nat → γ} : (rowF kd ss gap fr p).map h = (List.range (ss.length - (p + gap))).findSome? fun k => if lessZ fr (farAt kd ss p (p + gap + k)) then none else some (h (p, p + gap + k)) := by
  unfold rowF
  rw [findSome_map]
  apply findSome_congr
  intro k _
  split <;> rfl
def fwZ (kd : Kd) (ss : List (List Int)) (gap : Nat) (fr : Int × Int) : Option (Nat × Nat) := (List.range ss.length).findSome? (rowF kd ss gap fr)
def fwD (x : Nat × Nat) : D := .tup [.int x.1, .int x.2]
def longZ (kd : Kd) (xs : List Int) (gap : Nat) (fr : Int × Int) : Option (Nat × Nat × Nat) := (List.range 40).findSome? fun i => (fwZ kd (stretchesZ xs (40 - i)) gap fr).map fun x => (40 - i, x.1, x.2)
def longD : Option (Nat × Nat × Nat) → D
  | none => .non
  | some x => .tup [.int x.1, .int x.2.1, .int x.2.2]
theorem rngC_down {n : Nat} : rngC (n : Int) (-1) (szC n 0 (-1)) = (List.range n).map fun i => D.int ((n - i : Nat) : Int) := by
  have : szC (n : Int) 0 (-1) = n := by
    unfold szC
    simp
    split <;> omega
  rw [this]
  simp [rngC]
  intro a ha
  omega
end Rw
namespace Rw
theorem ok_lenV {M : DSt} {v : Dv} {xs : List D} {P : Dv × DSt → Prop} (h : lv M v = some xs) : Ok (oLen [v] M) P ↔ P (.d (.int xs.length), M) := by
  cases v with
  | d x =>
    cases x <;> simp only [lv] at h <;> try (cases h)
    simp
  | c n =>
    have h' : (M[n]?).join = some xs := h
    simp [cel, h']
  | r ys =>
    cases h
    simp
theorem ok_slV {M : DSt} {v : Dv} {xs : List D} {c : Bool} {l r : Option Int} {P : Dv × DSt → Prop} (h : lv M v = some xs) : Ok (slU c v l r M) P ↔ Ok (mkL c (cutD xs l r) M) P := by
  cases v with
  | d x =>
    cases x <;> simp only [lv] at h <;> try (cases h)
    exact Iff.rfl
  | c n =>
    have h' : (M[n]?).join = some xs := h
    simp [cel, h']
  | r ys =>
    cases h
    exact Iff.rfl
theorem lv_cel {M : DSt} {n : Nat} {xs : List D} (h : M[n]? = some (some xs)) : lv M (.c n) = some xs := by simp [h]
end Rw
end PRwTab
section PRwMax
set_option autoImplicit false
set_option linter.all false
set_option maxRecDepth 100000
/-! RwMax: the first greatest; runs that stay apart; == of fractions. -/
namespace Rw
section
variable {π : Type}
def negX (x : (Int × Int) × π) : (Int × Int) × π := ((-x.1.1, x.1.2), x.2)
theorem less_neg {a b : Int × Int} : lessZ (-a.1, a.2) (-b.1, b.2) = lessZ b a := by
  unfold lessZ
  simp only [Int.neg_mul]
  congr 1
  apply propext
  omega
theorem maxOf_neg {L : List ((Int × Int) × π)} : ∀ {s : Option ((Int × Int) × π)}, (L.map negX).foldl minStep (s.map negX) = (L.foldl maxStep s).map negX := by
  induction L with
  | nil => intro s; rfl
  | cons y L ih =>
    intro s
    rw [List.map_cons, List.foldl_cons, List.foldl_cons, ← ih]
    congr 1
    cases s with
    | none => rfl
    | some g =>
      simp only [minStep, maxStep, Option.map_some, negX, less_neg]
      split <;> rfl
/-- x is the first greatest of L -/
def IsMax (L : List ((Int × Int) × π)) (x : (Int × Int) × π) : Prop := ∃ L1 L2, L = L1 ++ x :: L2 ∧ (∀ y ∈ L1, lessZ y.1 x.1 = true) ∧ (∀ y ∈ L2, lessZ x.1 y.1 = false)
theorem negX_inj {x y : (Int × Int) × π} (h : negX x = negX y) : x = y := by
  obtain ⟨⟨a, b⟩, c⟩ := x
  obtain ⟨⟨a', b'⟩, c'⟩ := y
  simp only [negX, Prod.mk.injEq] at h
  obtain ⟨⟨h1, h2⟩, h3⟩ := h
  simp only [Prod.mk.injEq]
  exact ⟨⟨by omega, h2⟩, h3⟩
theorem maxOf_some {L : List ((Int × Int) × π)} {x : (Int × Int) × π} (hp : ∀ y ∈ L, 0 < y.1.2) (h : L.foldl maxStep none = some x) : IsMax L x := by
  have e := maxOf_neg (L := L) (s := none)
  rw [h] at e
  have e' : minOf (L.map negX) = some (negX x) := e
  obtain ⟨A, B, eL, h1, h2⟩ := minOf_some (by
    intro y hy
    obtain ⟨z, hz, rfl⟩ := List.mem_map.mp hy
    exact hp z hz) e'
  obtain ⟨L1, L2', e1, e2, e3⟩ := List.map_eq_append_iff.mp eL
  obtain ⟨y, L2, e4, e5, e6⟩ := List.map_eq_cons_iff.mp e3
  have := negX_inj e5
  subst this
  subst e4
  refine ⟨L1, L2, e1, ?_, ?_⟩
  · intro z hz
    have := h1 (negX z) (by rw [← e2]; exact List.mem_map_of_mem hz)
    simp only [negX, less_neg] at this
    exact this
  · intro z hz
    have := h2 (negX z) (by rw [← e6]; exact List.mem_map_of_mem hz)
    simp only [negX, less_neg] at this
    exact this
theorem maxOf_none {L : List ((Int × Int) × π)} (h : L.foldl maxStep none = none) : L = [] := by
  have : ∀ (L : List ((Int × Int) × π)) (g : (Int × Int) × π), L.foldl maxStep (some g) ≠ none := by
    intro L
    induction L with
    | nil => intro g e; cases e
    | cons y L ih =>
      intro g
      rw [List.foldl_cons]
      simp only [maxStep]
      split
      · exact ih _
      · exact ih _
  cases L with
  | nil => rfl
  | cons y L => exact absurd h (this L y)
end
theorem candL_mem {rows : List (Option ((Int × Int) × Nat))} {fr : List Nat} {x : (Int × Int) × (Nat × Nat)} : x ∈ candL rows fr ↔ x.2.1 ∈ fr ∧ rowAt rows x.2.1 = some (x.1, x.2.2) := by
  unfold candL
  rw [List.mem_filterMap]
  constructor
  · rintro ⟨p, hp, e⟩
    cases h : rowAt rows p with
    | none => rw [h] at e; cases e
    | some y =>
      rw [h] at e
      cases e
      exact ⟨hp, h⟩
  · rintro ⟨hp, e⟩
    exact ⟨x.2.1, hp, by rw [e]; rfl⟩
theorem candL_sorted {rows : List (Option ((Int × Int) × Nat))} {n : Nat} : (candL rows (List.range n)).Pairwise fun x y => x.2.1 < y.2.1 := by
  unfold candL
  rw [List.pairwise_filterMap]
  refine List.Pairwise.imp ?_ List.pairwise_lt_range
  intro a b hab x hx y hy
  cases h : rowAt rows a with
  | none => rw [h] at hx; cases hx
  | some u =>
    rw [h] at hx
    cases h' : rowAt rows b with
    | none => rw [h'] at hy; cases hy
    | some v =>
      rw [h'] at hy
      cases hx
      cases hy
      exact hab
theorem eqv_fr {f g : Int × Int} : D.eqv (frD f) (frD g) = decide (f = g) := by
  obtain ⟨a, b⟩ := f
  obtain ⟨c, d⟩ := g
  by_cases h1 : a = c
  · by_cases h2 : b = d
    · simp [frD, D.eqv, D.eqvs, h1, h2]
    · simp [frD, D.eqv, D.eqvs, h1, h2]
  · simp [frD, D.eqv, D.eqvs, h1]
theorem ok_eqF {f g : Int × Int} {M : DSt} {P : Dv × DSt → Prop} : Ok (oEq (.d (frD f)) (.d (frD g)) M) P ↔ P (.d (.bl (decide (f = g))), M) := by
  rw [ok_eqD frD_shp frD_shp, eqv_fr]
theorem ok_neF {f g : Int × Int} {M : DSt} {P : Dv × DSt → Prop} : Ok (oNe (.d (frD f)) (.d (frD g)) M) P ↔ P (.d (.bl (!decide (f = g))), M) := by
  rw [ok_neD frD_shp frD_shp, eqv_fr]
/-! ### runs of twos that stay apart -/
theorem free_apart {gap p q : Nat} {fr pl : List Nat} (h : p ∈ freeZ gap fr pl) (hq : q ∈ pl) : Apart gap q p := by
  have := (List.mem_filter.mp h).2
  rw [List.all_eq_true] at this
  have := this q hq
  unfold apartB at this
  unfold Apart
  simpa using this
def ApartX (gap : Nat) (x y : (Int × Int) × (Nat × Nat)) : Prop := Apart gap x.2.1 y.2.1 ∧ Apart gap x.2.1 y.2.2 ∧ Apart gap x.2.2 y.2.1 ∧ Apart gap x.2.2 y.2.2
theorem run_apart {kd : Kd} {ss : List (List Int)} {gap : Nat} (hs : ∀ s ∈ ss, 0 < s.length) : ∀ {n : Nat} {fr : List Nat}, (∀ p ∈ fr, p < ss.length) →
    (∀ x ∈ runZ (pairZ kd ss gap) (fun fr x => freeZ gap fr [x.2.1, x.2.2]) n fr, x.2.1 ∈ fr ∧ x.2.2 ∈ fr) ∧ (runZ (pairZ kd ss gap) (fun fr x => freeZ gap fr [x.2.1, x.2.2]) n fr).Pairwise (ApartX gap)
  | 0, fr, _ => ⟨(by intro x hx; cases hx), List.Pairwise.nil⟩
  | n + 1, fr, hf => by
    unfold runZ
    cases e : pairZ kd ss gap fr with
    | none => exact ⟨(by intro x hx; cases hx), List.Pairwise.nil⟩
    | some x =>
      obtain ⟨h1, h2, h3, h4⟩ := candP_mem.mp (minOf_some (candP_pos hs hf) e).mem
      have ih := run_apart (kd := kd) (gap := gap) hs (n := n) (fr := freeZ gap fr [x.2.1, x.2.2]) fun p hp => hf p (freeZ_sub hp)
      refine ⟨?_, ?_⟩
      · intro y hy
        rcases List.mem_cons.mp hy with rfl | hy
        · exact ⟨h1, h2⟩
        · obtain ⟨a, b⟩ := ih.1 y hy
          exact ⟨freeZ_sub a, freeZ_sub b⟩
      · refine List.Pairwise.cons ?_ ih.2
        intro y hy
        obtain ⟨a, b⟩ := ih.1 y hy
        exact ⟨free_apart a (by simp), free_apart b (by simp), free_apart a (by simp), free_apart b (by simp)⟩
end Rw
end PRwMax
section PRwCau
set_option autoImplicit false
set_option linter.all false
set_option maxRecDepth 100000
/-! RwCau: Cauchy and Schwarz; fractions by their ratio; far of itself. -/
namespace Rw
def combZ (s t : Int) (xs ys : List Int) : List Int := (xs.zip ys).map fun p => s * p.1 + t * p.2
theorem comb_sum (s t : Int) : ∀ {xs ys : List Int}, xs.length = ys.length → (combZ s t xs ys).sum = s * xs.sum + t * ys.sum
  | [], [], _ => by simp [combZ]
  | x :: xs, y :: ys, h => by
    have ih := comb_sum s t (xs := xs) (ys := ys) (by simpa using h)
    unfold combZ at ih ⊢
    simp only [List.zip_cons_cons, List.map_cons, List.sum_cons, ih]
    grind
theorem comb_sq (s t : Int) : ∀ {xs ys : List Int}, xs.length = ys.length → ((combZ s t xs ys).map fun x => x * x).sum = s * s * (xs.map fun x => x * x).sum + 2 * s * t * dotZ xs ys + t * t * (ys.map fun x => x * x).sum
  | [], [], _ => by simp [combZ, dotZ]
  | x :: xs, y :: ys, h => by
    have ih := comb_sq s t (xs := xs) (ys := ys) (by simpa using h)
    unfold combZ dotZ at ih ⊢
    simp only [List.zip_cons_cons, List.map_cons, List.sum_cons, ih]
    grind
theorem comb_len (s t : Int) {xs ys : List Int} (h : xs.length = ys.length) : (combZ s t xs ys).length = xs.length := by
  simp [combZ, h]
theorem uneven_comb (s t : Int) {xs ys : List Int} (h : xs.length = ys.length) : unevenZ (combZ s t xs ys) = s * s * unevenZ xs + 2 * s * t * bothZ xs ys + t * t * unevenZ ys := by
  unfold unevenZ bothZ
  rw [comb_len s t h, comb_sum s t h, comb_sq s t h, ← h]
  generalize (xs.length : Int) = n
  generalize (xs.map fun x => x * x).sum = a
  generalize (ys.map fun x => x * x).sum = b
  generalize dotZ xs ys = d
  grind
theorem pos_of_mul {a b : Int} (ha : 0 < a) (h : 0 ≤ a * b) : 0 ≤ b := by
  by_cases hb : 0 ≤ b
  · exact hb
  · have := Int.mul_pos ha (show 0 < -b by omega)
    rw [Int.mul_neg] at this
    omega
theorem both_cs {xs ys : List Int} (h : xs.length = ys.length) : bothZ xs ys * bothZ xs ys ≤ unevenZ xs * unevenZ ys := by
  have hU := uneven_nn xs
  have hV := uneven_nn ys
  have c := fun s t => uneven_comb s t h
  have n := fun s t => uneven_nn (combZ s t xs ys)
  generalize unevenZ xs = U at *
  generalize unevenZ ys = V at *
  generalize bothZ xs ys = B at *
  by_cases hv : V = 0
  · subst hv
    have a := n 1 (-(B * (U + 1)))
    rw [c] at a
    have e : (1 : Int) * 1 * U + 2 * 1 * (-(B * (U + 1))) * B + (-(B * (U + 1))) * (-(B * (U + 1))) * 0 = U - 2 * (U + 1) * (B * B) := by grind
    rw [e] at a
    rw [Int.mul_zero]
    by_cases hb : B * B ≤ 0
    · exact hb
    · have h1 : (U + 1) * 1 ≤ (U + 1) * (B * B) := Int.mul_le_mul_of_nonneg_left (by omega) (by omega)
      have h2 : 2 * (U + 1) * (B * B) = 2 * ((U + 1) * (B * B)) := by rw [Int.mul_assoc]
      omega
  · have a := n V (-B)
    rw [c] at a
    have e : V * V * U + 2 * V * (-B) * B + (-B) * (-B) * V = V * (U * V - B * B) := by grind
    rw [e] at a
    have := pos_of_mul (show 0 < V by omega) a
    omega
theorem made_spec {t b : Int} (h : 0 < b) : ∃ g, 0 < g ∧ t = g * (madeZ t b).1 ∧ b = g * (madeZ t b).2 := by
  have g0 : 0 < Int.gcd t b := Int.gcd_pos_of_ne_zero_right _ (by omega)
  have es : signG t b = (Int.gcd t b : Int) := by rw [signG, if_neg (by omega)]
  refine ⟨(Int.gcd t b : Int), by omega, ?_, ?_⟩
  · simp only [madeZ, es]
    rw [Int.fdiv_eq_ediv_of_nonneg _ (by omega), Int.mul_ediv_cancel' (Int.gcd_dvd_left ..)]
  · simp only [madeZ, es]
    rw [Int.fdiv_eq_ediv_of_nonneg _ (by omega), Int.mul_ediv_cancel' (Int.gcd_dvd_right ..)]
theorem made_pos {t b : Int} (h : 0 < b) : 0 < (madeZ t b).2 := by
  obtain ⟨g, g0, _, e⟩ := made_spec (t := t) h
  have h' := h
  rw [e, Int.mul_comm] at h'
  exact Int.pos_of_mul_pos_left h' g0
theorem made_low {t b : Int} (h : 0 < b) : Low (madeZ t b) := ⟨made_pos h, madeZ_low (by omega)⟩
theorem less_made_r {a : Int × Int} {t b : Int} (h : 0 < b) : lessZ a (madeZ t b) = decide (a.1 * b < t * a.2) := by
  obtain ⟨g, g0, e1, e2⟩ := made_spec (t := t) h
  generalize madeZ t b = m at *
  unfold lessZ
  subst e1
  subst e2
  have u : a.1 * (g * m.2) = g * (a.1 * m.2) := by grind
  have v : g * m.1 * a.2 = g * (m.1 * a.2) := by grind
  rw [u, v]
  congr 1
  apply propext
  exact (Int.mul_lt_mul_left g0).symm
theorem less_made_l {a : Int × Int} {t b : Int} (h : 0 < b) : lessZ (madeZ t b) a = decide (t * a.2 < a.1 * b) := by
  obtain ⟨g, g0, e1, e2⟩ := made_spec (t := t) h
  generalize madeZ t b = m at *
  unfold lessZ
  subst e1
  subst e2
  have u : a.1 * (g * m.2) = g * (a.1 * m.2) := by grind
  have v : g * m.1 * a.2 = g * (m.1 * a.2) := by grind
  rw [u, v]
  congr 1
  apply propext
  exact (Int.mul_lt_mul_left g0).symm
theorem made_eq_of {t b t' b' : Int} (h : 0 < b) (h' : 0 < b') (e : t * b' = t' * b) : madeZ t b = madeZ t' b' := by
  obtain ⟨g, g0, e1, e2⟩ := made_spec (t := t') h'
  refine low_same (made_low h) (made_low h') ?_ ?_
  · rw [less_made_l h]
    generalize madeZ t' b' = m at *
    subst e1
    subst e2
    have : g * (t * m.2) = g * (m.1 * b) := by grind
    have := Int.eq_of_mul_eq_mul_left (show g ≠ 0 by omega) this
    simp [this]
  · rw [less_made_r h]
    generalize madeZ t' b' = m at *
    subst e1
    subst e2
    have : g * (t * m.2) = g * (m.1 * b) := by grind
    have := Int.eq_of_mul_eq_mul_left (show g ≠ 0 by omega) this
    simp [this]
theorem made_zero {b : Int} (h : 0 < b) : madeZ 0 b = (0, 1) := by
  rw [made_eq_of (t' := 0) (b' := 1) h (by omega) (by simp)]
  decide
theorem diff_self {xs : List Int} : diffZ xs xs = List.replicate xs.length 0 := by
  unfold diffZ
  induction xs with
  | nil => rfl
  | cons x xs ih => simp [List.replicate_succ, ih]
theorem sum_rep0 {n : Nat} : (List.replicate n (0 : Int)).sum = 0 := by
  induction n with
  | zero => rfl
  | succ n ih => simp [List.replicate_succ, ih]
theorem both_self {xs : List Int} : bothZ xs xs = unevenZ xs := by
  unfold bothZ unevenZ dotZ
  have : (xs.zip xs).map (fun p : Int × Int => p.1 * p.2) = xs.map fun x => x * x := by
    induction xs with
    | nil => rfl
    | cons x xs ih => simp [ih]
  rw [this]
theorem far_self {kd : Kd} {xs : List Int} (h : 0 < xs.length) : farZ kd xs xs = (0, 1) := by
  have hl : (0 : Int) < (xs.length : Int) := by omega
  cases kd with
  | pl =>
    show madeZ ((diffZ xs xs).map fun d => d * d).sum xs.length = _
    rw [diff_self]
    have : ((List.replicate xs.length (0 : Int)).map fun d => d * d).sum = 0 := by
      rw [List.map_replicate]
      exact sum_rep0
    rw [this, made_zero hl]
  | mo =>
    show madeZ (unevenZ (diffZ xs xs)) ((xs.length : Int) * xs.length) = _
    have : unevenZ (diffZ xs xs) = 0 := by
      rw [diff_self]
      unfold unevenZ
      rw [List.map_replicate, sum_rep0]
      have : (List.replicate xs.length ((0 : Int) * 0)).sum = 0 := sum_rep0
      rw [this]
      simp
    rw [this, made_zero (Int.mul_pos hl hl)]
  | sh =>
    show (if unevenZ xs = 0 ∨ unevenZ xs = 0 then (if unevenZ xs = unevenZ xs then (0, 1) else (1, 1)) else madeZ (unevenZ xs * unevenZ xs - bothZ xs xs * (if bothZ xs xs < 0 then -bothZ xs xs else bothZ xs xs)) (unevenZ xs * unevenZ xs)) = _
    by_cases hz : unevenZ xs = 0
    · simp [hz]
    · have hp := uneven_pos hz
      rw [if_neg (by simp [hz]), both_self, if_neg (by omega), Int.sub_self, made_zero (Int.mul_pos hp hp)]
theorem abs_sq {B C : Int} (h : B * B ≤ C) : -C ≤ B * (if B < 0 then -B else B) ∧ B * (if B < 0 then -B else B) ≤ C := by
  split
  · rw [Int.mul_neg]
    have := sq_nn B
    omega
  · have := sq_nn B
    omega
/-- far as a ratio: top and bottom before it is made low -/
theorem far_ratio {kd : Kd} {xs ys : List Int} (h : xs.length = ys.length) (h0 : 0 < xs.length) : ∃ t b, 0 < b ∧ farZ kd xs ys = madeZ t b ∧ 0 ≤ t ∧ (kd = .pl → t = ((diffZ xs ys).map fun d => d * d).sum) ∧ (kd = .mo → t = unevenZ (diffZ xs ys)) ∧ (kd = .sh → t ≤ 2 * b) := by
  have hl : (0 : Int) < (xs.length : Int) := by omega
  cases kd with
  | pl =>
    refine ⟨((diffZ xs ys).map fun d => d * d).sum, xs.length, hl, rfl, sum_nn ?_, fun _ => rfl, by simp, by simp⟩
    intro z hz
    obtain ⟨y, _, rfl⟩ := List.mem_map.mp hz
    exact sq_nn _
  | mo => exact ⟨unevenZ (diffZ xs ys), (xs.length : Int) * xs.length, Int.mul_pos hl hl, rfl, uneven_nn _, by simp, fun _ => rfl, by simp⟩
  | sh =>
    by_cases hz : unevenZ xs = 0 ∨ unevenZ ys = 0
    · by_cases he : unevenZ xs = unevenZ ys
      · refine ⟨0, 1, by omega, ?_, by omega, by simp, by simp, by simp⟩
        show (if unevenZ xs = 0 ∨ unevenZ ys = 0 then (if unevenZ xs = unevenZ ys then (0, 1) else (1, 1)) else _) = _
        rw [if_pos hz, if_pos he]
        decide
      · refine ⟨1, 1, by omega, ?_, by omega, by simp, by simp, by simp⟩
        show (if unevenZ xs = 0 ∨ unevenZ ys = 0 then (if unevenZ xs = unevenZ ys then (0, 1) else (1, 1)) else _) = _
        rw [if_pos hz, if_neg he]
        decide
    · have hp := Int.mul_pos (uneven_pos fun h => hz (.inl h)) (uneven_pos fun h => hz (.inr h))
      have := abs_sq (both_cs h)
      refine ⟨unevenZ xs * unevenZ ys - bothZ xs ys * (if bothZ xs ys < 0 then -bothZ xs ys else bothZ xs ys), unevenZ xs * unevenZ ys, hp, ?_, ?_, by simp, by simp, fun _ => ?_⟩
      · show (if unevenZ xs = 0 ∨ unevenZ ys = 0 then _ else _) = _
        rw [if_neg hz]
      · omega
      · omega
theorem far_nn {kd : Kd} {xs ys : List Int} (h : xs.length = ys.length) (h0 : 0 < xs.length) : lessZ (farZ kd xs ys) (0, 1) = false := by
  obtain ⟨t, b, hb, e, ht, _⟩ := far_ratio (kd := kd) h h0
  rw [e, less_made_l hb]
  simp
  omega
/-- far is below 10 to the 40, for rows within ten figures -/
theorem far_top {kd : Kd} {xs ys : List Int} (h : xs.length = ys.length) (h0 : 0 < xs.length) (hx : Row 10 xs) (hy : Row 10 ys) : lessZ (10 ^ 40, 1) (farZ kd xs ys) = false := by
  obtain ⟨t, b, hb, e, ht, hp, hm, hs⟩ := far_ratio (kd := kd) h h0
  rw [e, less_made_r hb]
  have hd := hx.diff hy
  have sq : Bn (2 * (10 + 1) + 2) ((diffZ xs ys).map fun d => d * d).sum := by
    refine Bn.sum ?_ (by simpa using hd.2)
    intro z hz
    obtain ⟨y, h, rfl⟩ := List.mem_map.mp hz
    have := (hd.1 y h).mul (hd.1 y h)
    exact this
  have h10 : (10 : Int) ^ 39 ≤ 10 ^ 40 := by decide
  have h11 : (2 : Int) ≤ 10 ^ 40 := by decide
  have ht : t ≤ 10 ^ 40 * b := by
    have one : (10 : Int) ^ 40 * 1 ≤ 10 ^ 40 * b := Int.mul_le_mul_of_nonneg_left (by omega) (by omega)
    cases kd with
    | pl =>
      rw [hp rfl]
      have := (sq.mono (show _ ≤ 40 by decide)).2
      omega
    | mo =>
      rw [hm rfl]
      unfold unevenZ
      have a := (Bn.nat hd.2).mul sq
      have b := sq_nn (diffZ xs ys).sum
      have c := (a.mono (show _ ≤ 39 by decide)).2
      omega
    | sh =>
      have := hs rfl
      have : (2 : Int) * b ≤ 10 ^ 40 * b := Int.mul_le_mul_of_nonneg_right h11 (by omega)
      omega
  generalize (10 : Int) ^ 40 = T at *
  simp
  omega
end Rw
end PRwCau
section PRwTurn
set_option autoImplicit false
set_option linter.all false
set_option maxRecDepth 100000
/-! RwTurn: far of rows that are turned about, shifted, scaled. -/
namespace Rw
theorem sum_rev {xs : List Int} : xs.reverse.sum = xs.sum := by
  induction xs with
  | nil => rfl
  | cons x xs ih => rw [List.reverse_cons, List.sum_append, ih, List.sum_cons]; simp; omega
theorem uneven_rev {xs : List Int} : unevenZ xs.reverse = unevenZ xs := by
  unfold unevenZ
  rw [List.length_reverse, sum_rev, List.map_reverse, sum_rev]
theorem zip_rev : ∀ {xs ys : List Int}, xs.length = ys.length → xs.reverse.zip ys.reverse = (xs.zip ys).reverse
  | [], [], _ => rfl
  | x :: xs, y :: ys, h => by
    have h : xs.length = ys.length := by simpa using h
    rw [List.reverse_cons, List.reverse_cons, List.zip_append (by simpa using h), zip_rev h]
    simp
theorem far_rev {kd : Kd} {xs ys : List Int} (h : xs.length = ys.length) : farZ kd xs.reverse ys.reverse = farZ kd xs ys := by
  have hd : diffZ xs.reverse ys.reverse = (diffZ xs ys).reverse := by
    unfold diffZ
    rw [zip_rev h, List.map_reverse]
  have hb : bothZ xs.reverse ys.reverse = bothZ xs ys := by
    unfold bothZ dotZ
    rw [zip_rev h, List.map_reverse, sum_rev, sum_rev, sum_rev, List.length_reverse]
  cases kd with
  | pl =>
    show madeZ ((diffZ xs.reverse ys.reverse).map fun d => d * d).sum xs.reverse.length = madeZ ((diffZ xs ys).map fun d => d * d).sum xs.length
    rw [hd, List.map_reverse, sum_rev, List.length_reverse]
  | mo =>
    show madeZ (unevenZ (diffZ xs.reverse ys.reverse)) ((xs.reverse.length : Int) * xs.reverse.length) = madeZ (unevenZ (diffZ xs ys)) ((xs.length : Int) * xs.length)
    rw [hd, uneven_rev, List.length_reverse]
  | sh => simp only [farZ, uneven_rev, hb]
theorem sum_shift (c : Int) {xs : List Int} : (xs.map (· + c)).sum = xs.sum + xs.length * c := by
  induction xs with
  | nil => simp
  | cons x xs ih => simp only [List.map_cons, List.sum_cons, List.length_cons, ih]; push_cast; grind
theorem sqs_shift (c : Int) {xs : List Int} : ((xs.map (· + c)).map fun x => x * x).sum = (xs.map fun x => x * x).sum + 2 * c * xs.sum + xs.length * (c * c) := by
  induction xs with
  | nil => simp
  | cons x xs ih =>
    simp only [List.map_cons, List.sum_cons, List.length_cons, ih]
    push_cast
    grind
theorem uneven_shift (c : Int) {xs : List Int} : unevenZ (xs.map (· + c)) = unevenZ xs := by
  unfold unevenZ
  rw [sqs_shift, sum_shift, List.length_map]
  generalize (xs.length : Int) = n
  generalize (xs.map fun x => x * x).sum = a
  grind
theorem dot_shift (c : Int) : ∀ {xs ys : List Int}, xs.length = ys.length → dotZ (xs.map (· + c)) (ys.map (· + c)) = dotZ xs ys + c * xs.sum + c * ys.sum + xs.length * (c * c)
  | [], [], _ => by simp [dotZ]
  | x :: xs, y :: ys, h => by
    have ih := dot_shift c (xs := xs) (ys := ys) (by simpa using h)
    unfold dotZ at *
    simp only [List.map_cons, List.zip_cons_cons, List.sum_cons, List.length_cons, ih]
    push_cast
    grind
theorem both_shift (c : Int) {xs ys : List Int} (h : xs.length = ys.length) : bothZ (xs.map (· + c)) (ys.map (· + c)) = bothZ xs ys := by
  unfold bothZ
  rw [dot_shift c h, sum_shift, sum_shift, List.length_map, ← h]
  generalize (xs.length : Int) = n
  grind
theorem diff_shift (c : Int) : ∀ {xs ys : List Int}, diffZ (xs.map (· + c)) (ys.map (· + c)) = diffZ xs ys
  | [], _ => by simp [diffZ]
  | _ :: _, [] => by simp [diffZ]
  | x :: xs, y :: ys => by
    have ih := diff_shift c (xs := xs) (ys := ys)
    unfold diffZ at *
    simp only [List.map_cons, List.zip_cons_cons, ih]
    congr 1
    omega
theorem far_shift (c : Int) {kd : Kd} {xs ys : List Int} (h : xs.length = ys.length) : farZ kd (xs.map (· + c)) (ys.map (· + c)) = farZ kd xs ys := by
  cases kd with
  | pl => simp only [farZ, diff_shift, List.length_map]
  | mo => simp only [farZ, diff_shift, List.length_map]
  | sh => simp only [farZ, uneven_shift, both_shift c h]
theorem sum_scale (c : Int) {xs : List Int} : (xs.map (c * ·)).sum = c * xs.sum := by
  induction xs with
  | nil => simp
  | cons x xs ih => simp only [List.map_cons, List.sum_cons, ih]; grind
theorem sqs_scale (c : Int) {xs : List Int} : ((xs.map (c * ·)).map fun x => x * x).sum = c * c * (xs.map fun x => x * x).sum := by
  induction xs with
  | nil => simp
  | cons x xs ih => simp only [List.map_cons, List.sum_cons, ih]; grind
theorem uneven_scale (c : Int) {xs : List Int} : unevenZ (xs.map (c * ·)) = c * c * unevenZ xs := by
  unfold unevenZ
  rw [sqs_scale, sum_scale, List.length_map]
  generalize (xs.map fun x => x * x).sum = a
  grind
theorem dot_scale (c : Int) : ∀ {xs ys : List Int}, dotZ (xs.map (c * ·)) (ys.map (c * ·)) = c * c * dotZ xs ys
  | [], _ => by simp [dotZ]
  | _ :: _, [] => by simp [dotZ]
  | x :: xs, y :: ys => by
    have ih := dot_scale c (xs := xs) (ys := ys)
    unfold dotZ at *
    simp only [List.map_cons, List.zip_cons_cons, List.sum_cons, ih]
    grind
theorem both_scale (c : Int) {xs ys : List Int} : bothZ (xs.map (c * ·)) (ys.map (c * ·)) = c * c * bothZ xs ys := by
  unfold bothZ
  rw [dot_scale, sum_scale, sum_scale, List.length_map]
  grind
theorem diff_scale (c : Int) : ∀ {xs ys : List Int}, diffZ (xs.map (c * ·)) (ys.map (c * ·)) = (diffZ xs ys).map (c * ·)
  | [], _ => by simp [diffZ]
  | _ :: _, [] => by simp [diffZ]
  | x :: xs, y :: ys => by
    have ih := diff_scale c (xs := xs) (ys := ys)
    unfold diffZ at *
    simp only [List.map_cons, List.zip_cons_cons, ih]
    congr 1
    grind
/-- a far of rows that are c times as great -/
def grow (kd : Kd) (c : Int) (f : Int × Int) : Int × Int := match kd with
  | .sh => f
  | _ => madeZ (c * c * f.1) f.2
theorem grow_made {c t b : Int} (h : 0 < b) : madeZ (c * c * t) b = madeZ (c * c * (madeZ t b).1) (madeZ t b).2 := by
  obtain ⟨g, g0, e1, e2⟩ := made_spec (t := t) h
  have hp := made_pos (t := t) h
  generalize madeZ t b = m at *
  refine made_eq_of h hp ?_
  subst e1
  subst e2
  grind
theorem far_scale {c : Int} (hc : c ≠ 0) {kd : Kd} {xs ys : List Int} (h0 : 0 < xs.length) : farZ kd (xs.map (c * ·)) (ys.map (c * ·)) = grow kd c (farZ kd xs ys) := by
  have hl : (0 : Int) < (xs.length : Int) := by omega
  have hc2 : 0 < c * c := by
    have := sq_nn c
    have : c * c ≠ 0 := Int.mul_ne_zero hc hc
    omega
  cases kd with
  | pl =>
    show madeZ ((diffZ (xs.map (c * ·)) (ys.map (c * ·))).map fun d => d * d).sum (xs.map (c * ·)).length = madeZ (c * c * (madeZ ((diffZ xs ys).map fun d => d * d).sum xs.length).1) (madeZ ((diffZ xs ys).map fun d => d * d).sum xs.length).2
    rw [← grow_made hl, diff_scale, sqs_scale, List.length_map]
  | mo =>
    show madeZ (unevenZ (diffZ (xs.map (c * ·)) (ys.map (c * ·)))) (((xs.map (c * ·)).length : Int) * (xs.map (c * ·)).length) = madeZ (c * c * (madeZ (unevenZ (diffZ xs ys)) ((xs.length : Int) * xs.length)).1) (madeZ (unevenZ (diffZ xs ys)) ((xs.length : Int) * xs.length)).2
    rw [← grow_made (Int.mul_pos hl hl), diff_scale, uneven_scale, List.length_map]
  | sh =>
    have z : ∀ U : Int, c * c * U = 0 ↔ U = 0 := by
      intro U
      constructor
      · intro h
        rcases Int.mul_eq_zero.mp h with h | h
        · omega
        · exact h
      · intro h; rw [h, Int.mul_zero]
    show (if unevenZ (xs.map (c * ·)) = 0 ∨ unevenZ (ys.map (c * ·)) = 0 then (if unevenZ (xs.map (c * ·)) = unevenZ (ys.map (c * ·)) then (0, 1) else (1, 1)) else madeZ (unevenZ (xs.map (c * ·)) * unevenZ (ys.map (c * ·)) - bothZ (xs.map (c * ·)) (ys.map (c * ·)) * (if bothZ (xs.map (c * ·)) (ys.map (c * ·)) < 0 then -bothZ (xs.map (c * ·)) (ys.map (c * ·)) else bothZ (xs.map (c * ·)) (ys.map (c * ·)))) (unevenZ (xs.map (c * ·)) * unevenZ (ys.map (c * ·))))
      = (if unevenZ xs = 0 ∨ unevenZ ys = 0 then (if unevenZ xs = unevenZ ys then (0, 1) else (1, 1)) else madeZ (unevenZ xs * unevenZ ys - bothZ xs ys * (if bothZ xs ys < 0 then -bothZ xs ys else bothZ xs ys)) (unevenZ xs * unevenZ ys))
    rw [uneven_scale, uneven_scale, both_scale]
    simp only [z]
    by_cases h1 : unevenZ xs = 0 ∨ unevenZ ys = 0
    · rw [if_pos h1, if_pos h1]
      have : (c * c * unevenZ xs = c * c * unevenZ ys) ↔ unevenZ xs = unevenZ ys := ⟨fun h => Int.eq_of_mul_eq_mul_left (by omega) h, fun h => by rw [h]⟩
      simp only [this]
    · rw [if_neg h1, if_neg h1]
      have hu := uneven_pos fun h => h1 (.inl h)
      have hv := uneven_pos fun h => h1 (.inr h)
      have hs : (c * c * bothZ xs ys < 0) ↔ bothZ xs ys < 0 := by
        constructor
        · intro h
          by_cases hb : bothZ xs ys < 0
          · exact hb
          · have := Int.mul_nonneg (Int.le_of_lt hc2) (show 0 ≤ bothZ xs ys by omega)
            omega
        · intro h
          exact Int.mul_neg_of_pos_of_neg hc2 h
      simp only [hs]
      refine made_eq_of (Int.mul_pos (Int.mul_pos hc2 hu) (Int.mul_pos hc2 hv)) (Int.mul_pos hu hv) ?_
      generalize unevenZ xs = U
      generalize unevenZ ys = V
      generalize bothZ xs ys = B
      split <;> grind
theorem grow_less {kd : Kd} {c : Int} (hc : c ≠ 0) {f g : Int × Int} (hf : 0 < f.2) (hg : 0 < g.2) : lessZ (grow kd c f) (grow kd c g) = lessZ f g := by
  have hc2 : 0 < c * c := by
    have := sq_nn c
    have : c * c ≠ 0 := Int.mul_ne_zero hc hc
    omega
  have key : lessZ (madeZ (c * c * f.1) f.2) (madeZ (c * c * g.1) g.2) = lessZ f g := by
    rw [less_made_r hg]
    have e : decide ((madeZ (c * c * f.1) f.2).1 * g.2 < c * c * g.1 * (madeZ (c * c * f.1) f.2).2) = lessZ (madeZ (c * c * f.1) f.2) (c * c * g.1, g.2) := rfl
    rw [e, less_made_l hf]
    unfold lessZ
    congr 1
    apply propext
    simp only
    rw [Int.mul_assoc (c * c), Int.mul_assoc (c * c)]
    exact Int.mul_lt_mul_left hc2
  cases kd with
  | sh => rfl
  | pl => exact key
  | mo => exact key
/-! ### stretches of rows that are changed -/
theorem stretches_map {f : Int → Int} {xs : List Int} {l : Nat} : stretchesZ (xs.map f) l = (stretchesZ xs l).map (List.map f) := by
  simp [stretchesZ, cutZ, List.map_drop, List.map_take, Function.comp_def]
theorem nth_map {f : Int → Int} {ss : List (List Int)} {p : Nat} : nthZ (ss.map (List.map f)) p = (nthZ ss p).map f := by
  unfold nthZ
  rw [List.getD_eq_getElem?_getD, List.getD_eq_getElem?_getD, List.getElem?_map]
  cases ss[p]? <;> rfl
theorem nth_rev {xs : List Int} {l p : Nat} (h : p < xs.length + 1 - l) (hl : 0 < l) : nthZ (stretchesZ xs.reverse l) p = (nthZ (stretchesZ xs l) (xs.length + 1 - l - 1 - p)).reverse := by
  rw [nth_stretch (by simpa using h), nth_stretch (by omega)]
  unfold cutZ
  rw [List.drop_reverse, List.take_reverse, List.drop_take]
  congr 2
  · simp; omega
  · simp; congr 1; omega
theorem nearTo_map {kd : Kd} {ss ss' : List (List Int)} {gap p : Nat} {φ : Int × Int → Int × Int} (hp : ∀ q, q < ss.length → 0 < (farAt kd ss p q).2) (he : ∀ q, q < ss.length → farAt kd ss' p q = φ (farAt kd ss p q)) (hl : ∀ f g : Int × Int, 0 < f.2 → 0 < g.2 → lessZ (φ f) (φ g) = lessZ f g) :
    ∀ n, n ≤ ss.length → nearTo kd ss' gap p n = (nearTo kd ss gap p n).map (fun x => (φ x.1, x.2)) ∧ ∀ x, nearTo kd ss gap p n = some x → 0 < x.1.2
  | 0, _ => ⟨rfl, by intro x h; cases h⟩
  | n + 1, hn => by
    obtain ⟨ih, ip⟩ := nearTo_map (gap := gap) hp he hl n (by omega)
    have hq := hp n (by omega)
    simp only [nearTo]
    rw [ih, he n (by omega)]
    split
    · cases e : nearTo kd ss gap p n with
      | none =>
        refine ⟨rfl, ?_⟩
        intro x hx
        simp only [stepZ, Option.some.injEq] at hx
        subst hx
        exact hq
      | some y =>
        have hy := ip y e
        simp only [Option.map_some, stepZ, hl _ _ hq hy]
        constructor
        · split <;> rfl
        · intro x hx
          split at hx
          · cases hx; exact hq
          · cases hx; exact hy
    · exact ⟨rfl, ip⟩
theorem min_set {π : Type} {L L' : List ((Int × Int) × π)} (hL : ∀ x ∈ L, Low x.1) (hL' : ∀ x ∈ L', Low x.1) (h : ∀ x ∈ L, ∃ y ∈ L', y.1 = x.1) (h' : ∀ y ∈ L', ∃ x ∈ L, x.1 = y.1) : (minOf L).map (·.1) = (minOf L').map (·.1) := by
  have p := fun x hx => (hL x hx).1
  have p' := fun x hx => (hL' x hx).1
  cases e : minOf L with
  | none =>
    have := (minOf_none p).mp e
    subst this
    cases e' : minOf L' with
    | none => rfl
    | some y =>
      obtain ⟨x, hx, _⟩ := h' y (minOf_some p' e').mem
      cases hx
  | some x =>
    have m := minOf_some p e
    cases e' : minOf L' with
    | none =>
      have := (minOf_none p').mp e'
      subst this
      obtain ⟨y, hy, _⟩ := h x m.mem
      cases hy
    | some y =>
      have m' := minOf_some p' e'
      obtain ⟨y1, hy1, ey⟩ := h x m.mem
      obtain ⟨x1, hx1, ex⟩ := h' y m'.mem
      have a := m'.le hy1
      have b := m.le hx1
      rw [ey] at a
      rw [ex] at b
      simp only [Option.map_some]
      rw [low_same (hL x m.mem) (hL' y m'.mem) a b]
theorem candN_mem {kd : Kd} {ss : List (List Int)} {gap p n : Nat} {x : (Int × Int) × Nat} : x ∈ candN kd ss gap p n ↔ x.2 < n ∧ gap ≤ (x.2 - p) + (p - x.2) ∧ x.1 = farAt kd ss p x.2 := by
  unfold candN
  rw [List.mem_filterMap]
  constructor
  · rintro ⟨q, hq, e⟩
    split at e
    · next hg => cases e; exact ⟨List.mem_range.mp hq, hg, rfl⟩
    · cases e
  · rintro ⟨h1, h2, h3⟩
    refine ⟨x.2, List.mem_range.mpr h1, ?_⟩
    rw [if_pos h2, ← h3]
theorem near_cand {kd : Kd} {ss : List (List Int)} {gap p : Nat} : nearZ kd ss gap p = minOf (candN kd ss gap p ss.length) := nearTo_min
theorem candN_low {kd : Kd} {ss : List (List Int)} {gap p n : Nat} (hs : ∀ s ∈ ss, 0 < s.length) (hp : p < ss.length) : ∀ x ∈ candN kd ss gap p n, Low x.1 := by
  intro x hx
  rw [(candN_mem.mp hx).2.2]
  exact farAt_low hs hp
/-- the far of a row of the table, without the place -/
def farO : Option ((Int × Int) × Nat) → D
  | none => .non
  | some x => frD x.1
def farP : Option (Int × Int) → D
  | none => .non
  | some x => frD x
theorem farO_map {b : Option ((Int × Int) × Nat)} : farO b = farP (b.map (·.1)) := by cases b <;> rfl
theorem near_rev {k : Nat} {kd : Kd} {xs : List Int} {gap l p : Nat} (hx : Row k xs) (hl : 0 < l) (hp : p < xs.length + 1 - l) : farO (nearZ kd (stretchesZ xs.reverse l) gap p) = farO (nearZ kd (stretchesZ xs l) gap (xs.length + 1 - l - 1 - p)) := by
  have hs := stretches_fine hx hl
  have hs' := stretches_fine (row_rev hx) hl
  have n1 : (stretchesZ xs l).length = xs.length + 1 - l := stretches_len
  have n2 : (stretchesZ xs.reverse l).length = xs.length + 1 - l := by rw [stretches_len, List.length_reverse]
  have hf : ∀ q, q < xs.length + 1 - l → farAt kd (stretchesZ xs.reverse l) p q = farAt kd (stretchesZ xs l) (xs.length + 1 - l - 1 - p) (xs.length + 1 - l - 1 - q) := by
    intro q hq
    unfold farAt
    rw [nth_rev hp hl, nth_rev hq hl]
    obtain ⟨w, hw⟩ := stretches_even (xs := xs) (l := l)
    exact far_rev (by rw [hw _ (getD_mem (by omega)), hw _ (getD_mem (by omega))])
  rw [farO_map, farO_map, near_cand, near_cand, n1, n2]
  congr 1
  refine min_set (candN_low (fun s h => (hs'.1 s h).2) (by omega)) (candN_low (fun s h => (hs.1 s h).2) (by omega)) ?_ ?_
  · intro x hx
    obtain ⟨h1, h2, h3⟩ := candN_mem.mp hx
    refine ⟨(x.1, xs.length + 1 - l - 1 - x.2), candN_mem.mpr ⟨by simp only; omega, by simp only; omega, ?_⟩, rfl⟩
    rw [h3, hf _ h1]
  · intro x hx
    obtain ⟨h1, h2, h3⟩ := candN_mem.mp hx
    refine ⟨(x.1, xs.length + 1 - l - 1 - x.2), candN_mem.mpr ⟨by simp only; omega, by simp only; omega, ?_⟩, rfl⟩
    simp only
    rw [hf _ (by omega), h3]
    congr 1
    omega
theorem table_rev {k : Nat} {kd : Kd} {xs : List Int} {gap l : Nat} (hx : Row k xs) (hl : 0 < l) : (tableZ kd xs.reverse gap l).map farO = ((tableZ kd xs gap l).map farO).reverse := by
  have n1 : (stretchesZ xs l).length = xs.length + 1 - l := stretches_len
  have n2 : (stretchesZ xs.reverse l).length = xs.length + 1 - l := by rw [stretches_len, List.length_reverse]
  apply List.ext_getElem
  · simp [tableZ_len]
  · intro i h1 h2
    have hi : i < xs.length + 1 - l := by simpa [tableZ_len] using h1
    simp only [tableZ, n1, n2, List.getElem_map, List.getElem_reverse, List.getElem_range, List.length_map, List.length_range]
    exact near_rev hx hl hi
theorem near_wide {kd : Kd} {ss : List (List Int)} {gap gap' p : Nat} (hs : ∀ s ∈ ss, 0 < s.length) (hp : p < ss.length) (hg : gap ≤ gap') : (nearZ kd ss gap p = none → nearZ kd ss gap' p = none) ∧ ∀ x y, nearZ kd ss gap p = some x → nearZ kd ss gap' p = some y → lessZ y.1 x.1 = false := by
  have p1 := fun x hx => (candN_low (kd := kd) (gap := gap) (n := ss.length) hs hp x hx).1
  have p2 := fun x hx => (candN_low (kd := kd) (gap := gap') (n := ss.length) hs hp x hx).1
  have sub : ∀ x ∈ candN kd ss gap' p ss.length, x ∈ candN kd ss gap p ss.length := by
    intro x hx
    obtain ⟨h1, h2, h3⟩ := candN_mem.mp hx
    exact candN_mem.mpr ⟨h1, by omega, h3⟩
  rw [near_cand, near_cand]
  constructor
  · intro h
    have e := (minOf_none p1).mp h
    refine (minOf_none p2).mpr ?_
    cases e2 : candN kd ss gap' p ss.length with
    | nil => rfl
    | cons x L =>
      have := sub x (by rw [e2]; simp)
      rw [e] at this
      cases this
  · intro x y h1 h2
    exact (minOf_some p1 h1).le (sub y (minOf_some p2 h2).mem)
theorem table_map {k : Nat} {kd : Kd} {f : Int → Int} {φ : Int × Int → Int × Int} {xs : List Int} {gap l : Nat} (hx : Row k xs) (hl : 0 < l) (he : ∀ as bs : List Int, as.length = bs.length → 0 < as.length → farZ kd (as.map f) (bs.map f) = φ (farZ kd as bs))
    (hle : ∀ a b : Int × Int, 0 < a.2 → 0 < b.2 → lessZ (φ a) (φ b) = lessZ a b) : tableZ kd (xs.map f) gap l = (tableZ kd xs gap l).map (Option.map fun x => (φ x.1, x.2)) := by
  have hs := stretches_fine hx hl
  unfold tableZ
  rw [List.map_map, stretches_map, List.length_map]
  apply List.map_congr_left
  intro p hp
  have hp := List.mem_range.mp hp
  obtain ⟨w, hw⟩ := stretches_even (xs := xs) (l := l)
  simp only [Function.comp_apply, nearZ, List.length_map]
  refine (nearTo_map (φ := φ) (fun q hq => (farAt_low (fun s h => (hs.1 s h).2) hp).1) ?_ hle _ (Nat.le_refl _)).1
  intro q hq
  unfold farAt
  rw [nth_map, nth_map]
  exact he _ _ (by rw [hw _ (getD_mem hp), hw _ (getD_mem hq)]) (hs.1 _ (getD_mem hp)).2
theorem table_shift {k : Nat} {kd : Kd} {xs : List Int} {gap l : Nat} (c : Int) (hx : Row k xs) (hl : 0 < l) : tableZ kd (xs.map (· + c)) gap l = tableZ kd xs gap l := by
  rw [table_map (φ := id) hx hl (fun as bs h _ => far_shift c h) (fun _ _ _ _ => rfl)]
  simp
theorem table_scale {k : Nat} {kd : Kd} {xs : List Int} {gap l : Nat} {c : Int} (hc : c ≠ 0) (hx : Row k xs) (hl : 0 < l) : tableZ kd (xs.map (c * ·)) gap l = (tableZ kd xs gap l).map (Option.map fun x => (grow kd c x.1, x.2)) :=
  table_map hx hl (fun as bs h h0 => far_scale hc h0) (fun a b ha hb => grow_less hc ha hb)
end Rw
end PRwTurn
section PRwSpan
set_option autoImplicit false
set_option linter.all false
set_option maxRecDepth 100000
/-! RwSpan: the nearest two and the loneliest of rows that are turned about, shifted, scaled. -/
namespace Rw
abbrev Bst := (Int × Int) × (Nat × Nat)
def fo (b : Option Bst) : Option (Int × Int) := b.map (·.1)
/-- both, from the table alone -/
def pairT (T : List (Option ((Int × Int) × Nat))) : Option Bst := minOf (candL T (List.range T.length))
def loneT (T : List (Option ((Int × Int) × Nat))) : Option Bst := loneZ T (List.range T.length)
theorem pair_T {k : Nat} {kd : Kd} {xs : List Int} {gap l : Nat} (hx : Row k xs) (hl : 0 < l) (g0 : 1 ≤ gap) : pairZ kd (stretchesZ xs l) gap (List.range (stretchesZ xs l).length) = pairT (tableZ kd xs gap l) := by
  have hs := stretches_fine hx hl
  have hn : (tableZ kd xs gap l).length = (stretchesZ xs l).length := by rw [tableZ_len, stretches_len]
  unfold pairT
  rw [hn, candL_table, pair_table (fun s h => (hs.1 s h).2) stretches_even g0]
theorem max_set {π : Type} {L L' : List ((Int × Int) × π)} (hL : ∀ x ∈ L, Low x.1) (hL' : ∀ x ∈ L', Low x.1) (h : ∀ x ∈ L, ∃ y ∈ L', y.1 = x.1) (h' : ∀ y ∈ L', ∃ x ∈ L, x.1 = y.1) : (L.foldl maxStep none).map (·.1) = (L'.foldl maxStep none).map (·.1) := by
  have e1 : minOf (L.map negX) = (L.foldl maxStep none).map negX := maxOf_neg (s := none)
  have e2 : minOf (L'.map negX) = (L'.foldl maxStep none).map negX := maxOf_neg (s := none)
  have lo : ∀ f : Int × Int, Low f → Low (-f.1, f.2) := fun f hf => ⟨hf.1, by show Int.gcd (-f.1) f.2 = 1; rw [Int.neg_gcd]; exact hf.2⟩
  have key := min_set (L := L.map negX) (L' := L'.map negX) (by
    intro x hx
    obtain ⟨y, hy, rfl⟩ := List.mem_map.mp hx
    exact lo _ (hL y hy)) (by
    intro x hx
    obtain ⟨y, hy, rfl⟩ := List.mem_map.mp hx
    exact lo _ (hL' y hy)) (by
    intro x hx
    obtain ⟨y, hy, rfl⟩ := List.mem_map.mp hx
    obtain ⟨z, hz, e⟩ := h y hy
    exact ⟨negX z, List.mem_map_of_mem hz, by simp [negX, e]⟩) (by
    intro x hx
    obtain ⟨y, hy, rfl⟩ := List.mem_map.mp hx
    obtain ⟨z, hz, e⟩ := h' y hy
    exact ⟨negX z, List.mem_map_of_mem hz, by simp [negX, e]⟩)
  rw [e1, e2] at key
  cases a : L.foldl maxStep none with
  | none =>
    cases b : L'.foldl maxStep none with
    | none => rfl
    | some y => rw [a, b] at key; cases key
  | some x =>
    cases b : L'.foldl maxStep none with
    | none => rw [a, b] at key; cases key
    | some y =>
      rw [a, b] at key
      simp only [Option.map_some, negX, Option.some.injEq, Prod.mk.injEq] at key ⊢
      exact Prod.ext (by omega) key.2
def LowT (T : List (Option ((Int × Int) × Nat))) : Prop := ∀ p f r, rowAt T p = some (f, r) → Low f
theorem low_T {k : Nat} {kd : Kd} {xs : List Int} {gap l : Nat} (hx : Row k xs) (hl : 0 < l) : LowT (tableZ kd xs gap l) := fun p f r h => tab_low hx hl h
theorem candT_low {T : List (Option ((Int × Int) × Nat))} (h : LowT T) {fr : List Nat} : ∀ x ∈ candL T fr, Low x.1 := fun x hx => h _ _ _ (candL_mem.mp hx).2
theorem farO_inj {a b : Option ((Int × Int) × Nat)} {f : Int × Int} {r : Nat} (h : farO a = farO b) (ha : a = some (f, r)) : ∃ r', b = some (f, r') := by
  subst ha
  cases b with
  | none => simp [farO, frD] at h
  | some y =>
    obtain ⟨⟨c, d⟩, r'⟩ := y
    simp [farO, frD] at h
    exact ⟨r', by rw [← h.1, ← h.2]⟩
/-- tables whose fars are turned about hold the same fars -/
theorem cand_rev {T T' : List (Option ((Int × Int) × Nat))} (h : T'.map farO = (T.map farO).reverse) : ∀ x ∈ candL T' (List.range T'.length), ∃ y ∈ candL T (List.range T.length), y.1 = x.1 := by
  intro x hx
  have hl : T'.length = T.length := by
    have := congrArg List.length h
    simpa using this
  obtain ⟨h1, h2⟩ := candL_mem.mp hx
  have h1 := List.mem_range.mp h1
  have e : farO (rowAt T' x.2.1) = farO (rowAt T (T.length - 1 - x.2.1)) := by
    have := congrArg (fun l => l[x.2.1]?) h
    simp only [List.getElem?_map] at this
    rw [List.getElem?_reverse (by simpa using (by omega : x.2.1 < T.length))] at this
    simp only [List.getElem?_map, List.length_map] at this
    unfold rowAt
    rw [List.getD_eq_getElem?_getD, List.getD_eq_getElem?_getD]
    rw [List.getElem?_eq_getElem h1, List.getElem?_eq_getElem (by omega)] at this ⊢
    simpa using this
  obtain ⟨r', hr⟩ := farO_inj e h2
  exact ⟨(x.1, T.length - 1 - x.2.1, r'), candL_mem.mpr ⟨List.mem_range.mpr (by simp only; omega), hr⟩, rfl⟩
theorem both_rev {T T' : List (Option ((Int × Int) × Nat))} (hT : LowT T) (hT' : LowT T') (h : T'.map farO = (T.map farO).reverse) : fo (pairT T') = fo (pairT T) ∧ fo (loneT T') = fo (loneT T) := by
  have h' : T.map farO = (T'.map farO).reverse := by rw [h, List.reverse_reverse]
  constructor
  · exact min_set (candT_low hT') (candT_low hT) (cand_rev h) (fun y hy => cand_rev h' y hy)
  · unfold loneT
    rw [loneZ_fold, loneZ_fold]
    exact max_set (candT_low hT') (candT_low hT) (cand_rev h) (fun y hy => cand_rev h' y hy)
theorem step_map {π : Type} {φ : Int × Int → Int × Int} (hle : ∀ a b : Int × Int, 0 < a.2 → 0 < b.2 → lessZ (φ a) (φ b) = lessZ a b) {L : List ((Int × Int) × π)} : ∀ {s : Option ((Int × Int) × π)}, (∀ x, s = some x → 0 < x.1.2) → (∀ x ∈ L, 0 < x.1.2) →
    (L.map fun x => (φ x.1, x.2)).foldl minStep (s.map fun x => (φ x.1, x.2)) = (L.foldl minStep s).map (fun x => (φ x.1, x.2)) ∧ (L.map fun x => (φ x.1, x.2)).foldl maxStep (s.map fun x => (φ x.1, x.2)) = (L.foldl maxStep s).map (fun x => (φ x.1, x.2)) := by
  induction L with
  | nil => intro s _ _; exact ⟨rfl, rfl⟩
  | cons y L ih =>
    intro s hs hL
    have hy := hL y (by simp)
    have hL' : ∀ x ∈ L, 0 < x.1.2 := fun x hx => hL x (by simp [hx])
    have p1 : ∀ x, minStep s y = some x → 0 < x.1.2 := minStep_pos hs hy
    have p2 : ∀ x, maxStep s y = some x → 0 < x.1.2 := by
      intro x hx
      cases s with
      | none => cases hx; exact hy
      | some g =>
        simp only [maxStep] at hx
        split at hx
        · cases hx; exact hy
        · cases hx; exact hs _ rfl
    have i1 := (ih p1 hL').1
    have i2 := (ih p2 hL').2
    simp only [List.map_cons, List.foldl_cons]
    refine ⟨?_, ?_⟩
    · rw [← i1]
      congr 1
      cases s with
      | none => rfl
      | some g =>
        simp only [Option.map_some, minStep, hle _ _ hy (hs g rfl)]
        split <;> rfl
    · rw [← i2]
      congr 1
      cases s with
      | none => rfl
      | some g =>
        simp only [Option.map_some, maxStep, hle _ _ (hs g rfl) hy]
        split <;> rfl
theorem cand_map {φ : Int × Int → Int × Int} {T : List (Option ((Int × Int) × Nat))} {fr : List Nat} : candL (T.map (Option.map fun x => (φ x.1, x.2))) fr = (candL T fr).map fun x => (φ x.1, x.2) := by
  unfold candL
  rw [List.map_filterMap]
  congr 1
  funext p
  have : rowAt (T.map (Option.map fun x : (Int × Int) × Nat => (φ x.1, x.2))) p = (rowAt T p).map fun x => (φ x.1, x.2) := by
    unfold rowAt
    rw [List.getD_eq_getElem?_getD, List.getD_eq_getElem?_getD, List.getElem?_map]
    cases T[p]? <;> rfl
  rw [this]
  cases rowAt T p <;> rfl
theorem both_map {φ : Int × Int → Int × Int} (hle : ∀ a b : Int × Int, 0 < a.2 → 0 < b.2 → lessZ (φ a) (φ b) = lessZ a b) {T : List (Option ((Int × Int) × Nat))} (hT : LowT T) :
    fo (pairT (T.map (Option.map fun x => (φ x.1, x.2)))) = (fo (pairT T)).map φ ∧ fo (loneT (T.map (Option.map fun x => (φ x.1, x.2)))) = (fo (loneT T)).map φ := by
  have hp : ∀ x ∈ candL T (List.range T.length), 0 < x.1.2 := fun x hx => (candT_low hT x hx).1
  have s := step_map hle (L := candL T (List.range T.length)) (s := none) (by intro x h; cases h) hp
  unfold pairT loneT fo minOf
  rw [loneZ_fold, loneZ_fold, List.length_map, cand_map]
  refine ⟨?_, ?_⟩
  · have := s.1
    simp only [Option.map_none] at this
    rw [this, Option.map_map, Option.map_map]
    rfl
  · have := s.2
    simp only [Option.map_none] at this
    rw [this, Option.map_map, Option.map_map]
    rfl
theorem grow_neg {kd : Kd} {f : Int × Int} (h : Low f) : grow kd (-1) f = f := by
  have e : madeZ ((-1) * (-1) * f.1) f.2 = f := by
    refine low_same (made_low h.1) h ?_ ?_
    · rw [less_made_l h.1]; simp
    · rw [less_made_r h.1]; simp
  cases kd with
  | sh => rfl
  | pl => exact e
  | mo => exact e
/-- a far as told, times a number -/
def vD (by' : Int) : Option (Int × Int) → D
  | none => .non
  | some f => frD (madeZ (f.1 * by') f.2)
theorem made_one {f : Int × Int} (h : Low f) : madeZ (f.1 * 1) f.2 = f := by
  refine low_same (made_low h.1) h ?_ ?_
  · rw [less_made_l h.1]; simp
  · rw [less_made_r h.1]; simp
def byZ (kd : Kd) (c : Int) : Int := match kd with
  | .sh => 1
  | _ => c * c
theorem vD_grow {kd : Kd} {c : Int} {b : Option (Int × Int)} (h : ∀ f, b = some f → Low f) : vD 1 (b.map (grow kd c)) = vD (byZ kd c) b := by
  cases b with
  | none => rfl
  | some f =>
    have hf := h f rfl
    simp only [Option.map_some, vD]
    cases kd with
    | sh => simp [grow, byZ]
    | pl =>
      have : Low (grow .pl c f) := made_low hf.1
      rw [made_one this]
      simp [grow, Int.mul_comm, byZ]
    | mo =>
      have : Low (grow .mo c f) := made_low hf.1
      rw [made_one this]
      simp [grow, Int.mul_comm, byZ]
theorem cut_succ {xs : List Int} {l p : Nat} (h : p + l < xs.length) : ∃ z, cutZ xs (l + 1) p = cutZ xs l p ++ [z] := by
  unfold cutZ
  rw [List.take_succ]
  have : (xs.drop p)[l]? = some ((xs.drop p)[l]'(by simp; omega)) := List.getElem?_eq_getElem _
  rw [this]
  exact ⟨_, rfl⟩
theorem sqs_grow {xs : List Int} {l p q : Nat} (hp : p + l < xs.length) (hq : q + l < xs.length) : ((diffZ (cutZ xs l p) (cutZ xs l q)).map fun d => d * d).sum ≤ ((diffZ (cutZ xs (l + 1) p) (cutZ xs (l + 1) q)).map fun d => d * d).sum := by
  obtain ⟨a, ea⟩ := cut_succ hp
  obtain ⟨b, eb⟩ := cut_succ hq
  have hl : (cutZ xs l p).length = (cutZ xs l q).length := by simp [cutZ]; omega
  rw [ea, eb]
  unfold diffZ
  rw [List.zip_append hl]
  simp
  have := sq_nn (a - b)
  omega
theorem pair_longer {xs : List Int} {gap l k : Nat} (hx : Row k xs) (hl : 0 < l) {x : Bst} (h : pairZ .pl (stretchesZ xs (l + 1)) gap (List.range (stretchesZ xs (l + 1)).length) = some x) :
    ∃ y, pairZ .pl (stretchesZ xs l) gap (List.range (stretchesZ xs l).length) = some y ∧ (l : Int) * y.1.1 * x.1.2 ≤ ((l : Int) + 1) * x.1.1 * y.1.2 ∧ 0 < y.1.2 := by
  have s1 := stretches_fine hx (show 0 < l + 1 by omega)
  have s0 := stretches_fine hx hl
  have n1 : (stretchesZ xs (l + 1)).length = xs.length + 1 - (l + 1) := stretches_len
  have n0 : (stretchesZ xs l).length = xs.length + 1 - l := stretches_len
  have pos0 := candP_pos (kd := .pl) (gap := gap) (fun s h => (s0.1 s h).2) (fr := List.range (stretchesZ xs l).length) (fun p hp => List.mem_range.mp hp)
  obtain ⟨h1, h2, h3, h4⟩ := candP_mem.mp (minOf_some (candP_pos (fun s h => (s1.1 s h).2) (fun p hp => List.mem_range.mp hp)) h).mem
  have h1 := List.mem_range.mp h1
  have h2 := List.mem_range.mp h2
  have hc : (farAt .pl (stretchesZ xs l) x.2.1 x.2.2, x.2.1, x.2.2) ∈ candP .pl (stretchesZ xs l) gap (List.range (stretchesZ xs l).length) :=
    candP_mem.mpr ⟨List.mem_range.mpr (by simp only; omega), List.mem_range.mpr (by simp only; omega), h3, rfl⟩
  cases e : pairZ .pl (stretchesZ xs l) gap (List.range (stretchesZ xs l).length) with
  | none =>
    rw [(minOf_none pos0).mp e] at hc
    cases hc
  | some y =>
    have m := minOf_some pos0 e
    have le := m.le hc
    have yp := pos0 y m.mem
    refine ⟨y, rfl, ?_, yp⟩
    simp only [farAt] at le h4
    rw [nth_stretch (by omega), nth_stretch (by omega)] at le h4
    have l1 : (cutZ xs (l + 1) x.2.1).length = l + 1 := by simp [cutZ]; omega
    have l0 : (cutZ xs l x.2.1).length = l := by simp [cutZ]; omega
    simp only [farZ, l1] at h4
    simp only [farZ, l0] at le
    have sg := sqs_grow (xs := xs) (l := l) (p := x.2.1) (q := x.2.2) (by omega) (by omega)
    generalize ((diffZ (cutZ xs l x.2.1) (cutZ xs l x.2.2)).map fun d => d * d).sum = S at *
    generalize ((diffZ (cutZ xs (l + 1) x.2.1) (cutZ xs (l + 1) x.2.2)).map fun d => d * d).sum = S' at *
    have b1 : (0 : Int) < ((l + 1 : Nat) : Int) := by omega
    rw [less_made_l (by omega)] at le
    simp only [decide_eq_false_iff_not] at le
    obtain ⟨g, g0, e1, e2⟩ := made_spec (t := S') b1
    have xp := made_pos (t := S') b1
    rw [h4]
    generalize madeZ S' ((l + 1 : Nat) : Int) = f at *
    have c1 : S' * f.2 = f.1 * ((l + 1 : Nat) : Int) := by rw [e2, e1]; grind
    have c2 : (l : Int) * y.1.1 ≤ S * y.1.2 := by rw [Int.mul_comm]; omega
    have c3 := Int.mul_le_mul_of_nonneg_right c2 (Int.le_of_lt xp)
    have c4 : S * y.1.2 * f.2 ≤ S' * y.1.2 * f.2 := Int.mul_le_mul_of_nonneg_right (Int.mul_le_mul_of_nonneg_right sg (Int.le_of_lt yp)) (Int.le_of_lt xp)
    have c5 : S' * y.1.2 * f.2 = ((l : Int) + 1) * f.1 * y.1.2 := by
      have : S' * y.1.2 * f.2 = S' * f.2 * y.1.2 := by grind
      rw [this, c1]
      push_cast
      grind
    omega
@[simp ↓] theorem ok_leT {a b c d : Int} {M : DSt} {P : Dv × DSt → Prop} : Ok (oLeT (.d (.tup [.int a, .int b])) (.d (.tup [.int c, .int d])) M) P ↔ P (.d (.bl (if a = c then decide (b ≤ d) else decide (a ≤ c))), M) := by
  show Ok (some _) P ↔ _
  simp
end Rw
end PRwSpan
section PRwAff
set_option autoImplicit false
set_option linter.all false
set_option maxRecDepth 100000
/-! RwAff: far where one side alone is shifted or scaled. -/
namespace Rw
theorem diff_two (c d : Int) : ∀ {xs ys : List Int}, diffZ (xs.map (· + c)) (ys.map (· + d)) = (diffZ xs ys).map (· + (c - d))
  | [], _ => by simp [diffZ]
  | _ :: _, [] => by simp [diffZ]
  | x :: xs, y :: ys => by
    have ih := diff_two c d (xs := xs) (ys := ys)
    unfold diffZ at *
    simp only [List.map_cons, List.zip_cons_cons, ih]
    congr 1
    omega
/-- moved: each side shifted by a number of its own -/
theorem far_mo_two (c d : Int) {xs ys : List Int} : farZ .mo (xs.map (· + c)) (ys.map (· + d)) = farZ .mo xs ys := by
  simp only [farZ, diff_two, uneven_shift, List.length_map]
theorem dot_aff (c d : Int) : ∀ {xs ys : List Int}, xs.length = ys.length → dotZ (xs.map fun x => c * x + d) ys = c * dotZ xs ys + d * ys.sum
  | [], [], _ => by simp [dotZ]
  | x :: xs, y :: ys, h => by
    have ih := dot_aff c d (xs := xs) (ys := ys) (by simpa using h)
    unfold dotZ at *
    simp only [List.map_cons, List.zip_cons_cons, List.sum_cons, ih]
    grind
theorem sum_aff (c d : Int) {xs : List Int} : (xs.map fun x => c * x + d).sum = c * xs.sum + xs.length * d := by
  induction xs with
  | nil => simp
  | cons x xs ih => simp only [List.map_cons, List.sum_cons, List.length_cons, ih]; push_cast; grind
theorem both_aff (c d : Int) {xs ys : List Int} (h : xs.length = ys.length) : bothZ (xs.map fun x => c * x + d) ys = c * bothZ xs ys := by
  unfold bothZ
  rw [dot_aff c d h, sum_aff, List.length_map]
  generalize (xs.length : Int) = n
  grind
theorem uneven_aff (c d : Int) {xs : List Int} : unevenZ (xs.map fun x => c * x + d) = c * c * unevenZ xs := by
  have : (xs.map fun x => c * x + d) = (xs.map (c * ·)).map (· + d) := by simp [Function.comp_def]
  rw [this, uneven_shift, uneven_scale]
/-- shape: one side c times as great (c above nought), and shifted -/
theorem far_sh_aff {c d : Int} (hc : 0 < c) {xs ys : List Int} (h : xs.length = ys.length) : farZ .sh (xs.map fun x => c * x + d) ys = farZ .sh xs ys := by
  have hc2 : 0 < c * c := Int.mul_pos hc hc
  show (if unevenZ (xs.map fun x => c * x + d) = 0 ∨ unevenZ ys = 0 then (if unevenZ (xs.map fun x => c * x + d) = unevenZ ys then (0, 1) else (1, 1)) else madeZ (unevenZ (xs.map fun x => c * x + d) * unevenZ ys - bothZ (xs.map fun x => c * x + d) ys * (if bothZ (xs.map fun x => c * x + d) ys < 0 then -bothZ (xs.map fun x => c * x + d) ys else bothZ (xs.map fun x => c * x + d) ys)) (unevenZ (xs.map fun x => c * x + d) * unevenZ ys))
    = (if unevenZ xs = 0 ∨ unevenZ ys = 0 then (if unevenZ xs = unevenZ ys then (0, 1) else (1, 1)) else madeZ (unevenZ xs * unevenZ ys - bothZ xs ys * (if bothZ xs ys < 0 then -bothZ xs ys else bothZ xs ys)) (unevenZ xs * unevenZ ys))
  rw [uneven_aff, both_aff c d h]
  have hu := uneven_nn xs
  have hv := uneven_nn ys
  have z : c * c * unevenZ xs = 0 ↔ unevenZ xs = 0 := by
    constructor
    · intro h
      rcases Int.mul_eq_zero.mp h with h | h
      · omega
      · exact h
    · intro h; rw [h, Int.mul_zero]
  generalize unevenZ xs = U at *
  generalize unevenZ ys = V at *
  generalize bothZ xs ys = B at *
  simp only [z]
  by_cases h1 : U = 0 ∨ V = 0
  · rw [if_pos h1, if_pos h1]
    have : (c * c * U = V) ↔ U = V := by
      constructor
      · intro e
        rcases h1 with h1 | h1
        · rw [h1, Int.mul_zero] at e; omega
        · rw [h1] at e; rw [h1]; exact z.mp e
      · intro e
        rcases h1 with h1 | h1
        · rw [h1, Int.mul_zero]; omega
        · have : U = 0 := by omega
          rw [this, Int.mul_zero]; omega
    simp only [this]
  · rw [if_neg h1, if_neg h1]
    have hU : 0 < U := by omega
    have hV : 0 < V := by omega
    have hs : (c * B < 0) ↔ B < 0 := by
      constructor
      · intro h
        by_cases hb : B < 0
        · exact hb
        · have := Int.mul_nonneg (Int.le_of_lt hc) (show 0 ≤ B by omega)
          omega
      · intro h
        exact Int.mul_neg_of_pos_of_neg hc h
    simp only [hs]
    refine made_eq_of (Int.mul_pos (Int.mul_pos hc2 hU) hV) (Int.mul_pos hU hV) ?_
    split <;> grind
end Rw
end PRwAff
section PRwSemX
set_option autoImplicit false
set_option linter.all false
/-! RwSemX: runs that end in an exception, as pure functions: the class, the slots, the store. -/
namespace Rw
open PySem (Str)
noncomputable section
abbrev DX := DEnv → DSt → Option (String × DEnv × DSt)
abbrev FX := List Dv → DSt → Option (String × DSt)
def xNo : DX := fun _ _ => none
def xAlt (a b : DX) : DX := fun ρ M => match a ρ M with
  | some r => some r
  | none => b ρ M
/-- first s, then b raises -/
def xSeq (s : DS) (b : DX) : DX := fun ρ M => match s ρ M with
  | some (.nx ρ1 M1) => b ρ1 M1
  | _ => none
def xIf (c : DT) (a b : DX) : DX := fun ρ M => match c ρ M with
  | some (true, M1) => a ρ M1
  | some (false, M1) => b ρ M1
  | none => none
def xCall (f : FX) (as : DA) : DX := fun ρ M => match as ρ M with
  | some (vs, M1) => match f vs M1 with
    | some (c, M2) => some (c, ρ, M2)
    | none => none
  | none => none
def xRaise (c : String) : DX := fun ρ M => some (c, ρ, M)
def fnX (n : Nat) (b : DX) : FX := fun as M => match b (startD n as) M with
  | some (c, _, M1) => some (c, M1.take M.length)
  | none => none
/-- try: d, which raises as x; except, one of cs: h -/
def dTry (cs : List String) (d : DS) (x : DX) (h : DS) : DS := fun ρ M => match x ρ M with
  | some (c, ρ1, M1) => grd (c ∈ cs) (h ρ1 M1)
  | none => d ρ M
/-- .. except .. as i: j = i -/
def dTryAs (cs : List String) (d : DS) (x : DX) (i j : Nat) : DS := fun ρ M => match x ρ M with
  | some (c, ρ1, M1) => grd (c ∈ cs) (some (.nx (((ρ1.set i (some (.d (.ty c)))).set j (some (.d (.ty c)))).set i none) M1))
  | none => d ρ M
/-- xs.index(y), xs.count(y): flat things -/
def mIndex : Dv → List Dv → DSt → Option (Dv × DSt) := fun v as M => match as, lv M v with
  | [.d y], some xs => grd (y.flat = true ∧ xs.all D.flat = true) (match xs.findIdx? fun b => D.eqv b y with
    | some j => some (.d (.int (j : Nat)), M)
    | none => none)
  | _, _ => none
def mCount : Dv → List Dv → DSt → Option (Dv × DSt) := fun v as M => match as, lv M v with
  | [.d y], some xs => grd (y.flat = true ∧ xs.all D.flat = true) (some (.d (.int (xs.countP fun b => D.eqv b y : Nat)), M))
  | _, _ => none
def strsD : List D → Option (List Str)
  | [] => some []
  | .str s :: r => (strsD r).map (s :: ·)
  | _ :: _ => none
/-- a.join(xs) -/
def oJoin (a : Str) : O1 := fun v M => match lv M v with
  | some xs => match strsD xs with
    | some ys => grd ((ys.map (·.length)).sum + ys.length * a.length ≤ big) (some (.d (.str (Str.join a ys)), M))
    | none => none
  | none => none
/-- isinstance(v, a class of errors): yes for the classes cs, no for the others of all -/
def oIsX (all cs : List String) : O1 := fun v M => match v with
  | .d .non => some (.d (.bl false), M)
  | .d (.ty c) => grd (c ∈ all) (some (.d (.bl (cs.contains c)), M))
  | _ => none
end
end Rw
end PRwSemX
section PRwOkX
set_option linter.all false
/-! RwOkX: rules for runs that raise. -/
namespace Rw
section
variable {ρ ρ1 : DEnv} {M M1 : DSt} {c : DT} {x y : DX} {b : Bool} {as : DA} {vs : List Dv} {f : FX} {s : DS} {cs : List String} {d h : DS} {P : Out → Prop} {k : String} {i j : Nat}
theorem xif_eq (h : Ok (c ρ M) fun p => p = (b, M1)) : xIf c x y ρ M = if b then x ρ M1 else y ρ M1 := by
  obtain ⟨p, e, rfl⟩ := h
  unfold xIf
  rw [e]
  cases b <;> rfl
theorem xcall_eq (h : Ok (as ρ M) fun p => p = (vs, M1)) : xCall f as ρ M = (f vs M1).map fun r => (r.1, ρ, r.2) := by
  obtain ⟨p, e, rfl⟩ := h
  unfold xCall
  rw [e]
  simp only
  cases f vs M1 <;> rfl
theorem xseq_eq (h : Ok (s ρ M) fun o => o = .nx ρ1 M1) : xSeq s x ρ M = x ρ1 M1 := by
  obtain ⟨p, e, rfl⟩ := h
  unfold xSeq
  rw [e]
theorem xalt_some {r : String × DEnv × DSt} (h : x ρ M = some r) : xAlt x y ρ M = some r := by
  unfold xAlt
  rw [h]
theorem xalt_none (h : x ρ M = none) : xAlt x y ρ M = y ρ M := by
  unfold xAlt
  rw [h]
theorem fnX_eq {n : Nat} {ws : List Dv} : fnX n x ws M = (x (startD n ws) M).map fun r => (r.1, r.2.2.take M.length) := by
  unfold fnX
  cases x (startD n ws) M <;> rfl
theorem ok_try_x (e : x ρ M = some (k, ρ1, M1)) (hk : k ∈ cs) : Ok (dTry cs d x h ρ M) P ↔ Ok (h ρ1 M1) P := by
  unfold dTry
  rw [e]
  simp only [grd_ok hk]
theorem ok_try_n (e : x ρ M = none) : Ok (dTry cs d x h ρ M) P ↔ Ok (d ρ M) P := by
  unfold dTry
  rw [e]
theorem ok_tryAs_x (e : x ρ M = some (k, ρ1, M1)) (hk : k ∈ cs) : Ok (dTryAs cs d x i j ρ M) P ↔ P (.nx (((ρ1.set i (some (.d (.ty k)))).set j (some (.d (.ty k)))).set i none) M1) := by
  unfold dTryAs
  rw [e]
  simp only [grd_ok hk, ok_some]
theorem ok_tryAs_n (e : x ρ M = none) : Ok (dTryAs cs d x i j ρ M) P ↔ Ok (d ρ M) P := by
  unfold dTryAs
  rw [e]
@[simp ↓] theorem ok_count {y : D} {xs : List D} {Q : Dv × DSt → Prop} : Ok (mCount (.d (.lst xs)) [.d y] M) Q ↔ (y.flat = true ∧ xs.all D.flat = true) ∧ Q (.d (.int (xs.countP fun b => D.eqv b y : Nat)), M) := by simp [mCount, lv]
theorem ok_countC {y : D} {n : Nat} {xs : List D} {Q : Dv × DSt → Prop} (h : M[n]? = some (some xs)) : Ok (mCount (.c n) [.d y] M) Q ↔ (y.flat = true ∧ xs.all D.flat = true) ∧ Q (.d (.int (xs.countP fun b => D.eqv b y : Nat)), M) := by simp [mCount, lv, h]
theorem ok_indexC {y : D} {n j : Nat} {xs : List D} {Q : Dv × DSt → Prop} (h : M[n]? = some (some xs)) (hf : y.flat = true ∧ xs.all D.flat = true) (hj : (xs.findIdx? fun b => D.eqv b y) = some j) : Ok (mIndex (.c n) [.d y] M) Q ↔ Q (.d (.int (j : Nat)), M) := by
  have hl : lv M (.c n) = some xs := by simp [lv, h]
  unfold mIndex
  rw [hl]
  simp only [grd_ok hf, hj, ok_some]
theorem ok_join {a : PySem.Str} {xs : List D} {ys : List PySem.Str} {Q : Dv × DSt → Prop} (h : strsD xs = some ys) (hb : (ys.map (·.length)).sum + ys.length * a.length ≤ big) : Ok (oJoin a (.d (.lst xs)) M) Q ↔ Q (.d (.str (PySem.Str.join a ys)), M) := by
  simp only [oJoin, lv, h, grd_ok hb, ok_some]
@[simp ↓] theorem ok_isX_non {all : List String} {Q : Dv × DSt → Prop} : Ok (oIsX all cs (.d .non) M) Q ↔ Q (.d (.bl false), M) := by simp [oIsX]
@[simp ↓] theorem ok_isX_ty {all : List String} {Q : Dv × DSt → Prop} : Ok (oIsX all cs (.d (.ty k)) M) Q ↔ k ∈ all ∧ Q (.d (.bl (cs.contains k)), M) := by simp [oIsX]
end
theorem step_ne {t : DT} {a b : DX} {e : DE} {ρ : DEnv} {M : DSt} (h : Ok (t ρ M) fun p => p = (false, M)) : xAlt (xIf t a xNo) (xSeq (dIf t (dRet e) dPass) b) ρ M = b ρ M := by
  rw [xalt_none (by rw [xif_eq h]; rfl), xseq_eq (ρ1 := ρ) (M1 := M)]
  obtain ⟨p, h1, rfl⟩ := h
  exact ⟨.nx ρ M, by unfold dIf; rw [h1]; rfl, rfl⟩
theorem step_eq {t : DT} {a b : DX} {e : DE} {ρ : DEnv} {M : DSt} (h : Ok (t ρ M) fun p => p = (true, M)) : xAlt (xIf t a xNo) (xSeq (dIf t (dRet e) dPass) b) ρ M = a ρ M := by
  have h2 : xSeq (dIf t (dRet e) dPass) b ρ M = none := by
    obtain ⟨p, h1, rfl⟩ := h
    unfold xSeq dIf
    rw [h1]
    simp only [dRet]
    cases e ρ M with
    | none => rfl
    | some q => rfl
  unfold xAlt
  rw [xif_eq h, h2]
  simp only [if_true]
  cases a ρ M <;> rfl
@[simp ↓] theorem ok_frzD {b : Nat} {x : D} {M : DSt} {P : Dv × DSt → Prop} : Ok (frz b (.d x, M)) P ↔ P (.d x, M) := by simp [frz]
/-- new, or data -/
def Fresh (M : DSt) (p : Dv × DSt) : Prop := (∃ x, p = (.d x, M)) ∨ ∃ xs, p = (.c M.length, M ++ [some xs])
theorem ok_fresh {M : DSt} {p : Dv × DSt} (h : Fresh M p) : Ok (frz M.length p) fun q => q.2 = M := by
  rcases h with ⟨x, rfl⟩ | ⟨xs, rfl⟩
  · simp
  · rw [ok_frz rfl]
theorem ok_compL_nil {chk : DSt → Prop} {step : D → DSt → Option (Option D × DSt)} {M : DSt} {P : List D × DSt → Prop} : Ok (compL chk step [] M) P ↔ chk M ∧ P ([], M) := by
  unfold compL
  rw [ok_grd, ok_some]
/-- a list that is there, one by one, each giving something and changing nothing -/
theorem compL_step {chk : DSt → Prop} {step : D → DSt → Option (Option D × DSt)} {M : DSt} {P : List D × DSt → Prop} {x y : D} {xs : List D} (hc : chk M) (h : Ok (step x M) fun p => p = (some y, M)) (k : Ok (compL chk step xs M) fun p => P (y :: p.1, p.2)) : Ok (compL chk step (x :: xs) M) P := by
  obtain ⟨p, e, rfl⟩ := h
  obtain ⟨q, e2, k⟩ := k
  refine ⟨_, ?_, k⟩
  unfold compL
  rw [grd_ok hc]
  simp only [e, e2]
theorem ok_neCD {M : DSt} {m : Nat} {xs : List D} {P : Dv × DSt → Prop} (h' : M[m]? = some (some xs)) (hx : (D.lst xs).shp 9 = true) : Ok (oNe (.c m) (.d (.lst xs)) M) P ↔ P (.d (.bl false), M) := by
  have := eqv_refl 9 _ hx
  simp [oNe, dv, h', hx, this]
end Rw
end PRwOkX
section PRwExc
set_option Elab.async false
set_option linter.all false
set_option maxRecDepth 100000
set_option maxHeartbeats 2000000
/-! RwExc: runs that end in an exception. -/
namespace Rw
open PySem L2 PySem.Spec PyProof.Rows
open Evl (Ex)
/-- what is wished of an exception -/
def XP (K : PySem.W.Frag) (F : Fz) (κ : List Addr) (G : Hp) (W : WX) (c : String) (ρ' : DEnv) (M' : DSt) : Prop :=
  ∀ κ' G' σ' H' cls, Le κ G κ' G' → Sm K F κ' G' M' H' → Se K κ' G' σ' ρ' → ClsK K c cls → W cls none σ' H'
theorem XP.weak {K : PySem.W.Frag} {F : Fz} {κ κ1 : List Addr} {G G1 : Hp} {W : WX} {c : String} {ρ' : DEnv} {M' : DSt} (l : Le κ G κ1 G1) (k : XP K F κ G W c ρ' M') : XP K F κ1 G1 W c ρ' M' :=
  fun κ' G' σ' H' cls l' S E h => k κ' G' σ' H' cls (l.trans l') S E h
structure PDX (X : Cx) (W : WX) (ss : List Stmt) (x : DX) : Prop where
  ex : ∀ {F κ G σ ρ M H c ρ' M'} (D : Ends), Sm X.K F κ G M H → Se X.K κ G σ ρ → x ρ M = some (c, ρ', M') → XP X.K F κ G W c ρ' M' → ∃ t, PSs X ss t ∧ t D σ H
structure PDX1 (X : Cx) (W : WX) (s : Stmt) (x : DX) : Prop where
  ex : ∀ {F κ G σ ρ M H c ρ' M'} (D : Ends), Sm X.K F κ G M H → Se X.K κ G σ ρ → x ρ M = some (c, ρ', M') → XP X.K F κ G W c ρ' M' → ∃ t, PS X s t ∧ t D σ H
structure PEX (X : Cx) (W : WX) (e : Expr) (x : DX) : Prop where
  ex : ∃ t, PE X e t ∧ ∀ {F κ G σ ρ M H c ρ' M'} (Q : VK), Sm X.K F κ G M H → Se X.K κ G σ ρ → x ρ M = some (c, ρ', M') → XP X.K F κ G W c ρ' M' → t σ H Q
section
variable {X : Cx} {W : WX} {st : Stmt} {rest : List Stmt} {s : DS} {x y : DX} {e : Expr} {pos : Pos}
theorem pss_any {ss : List Stmt} : PSs X ss (fun D σ H => ∃ t, PSs X ss t ∧ t D σ H) := ⟨fun pins s σ H D I ⟨t, ht, hw⟩ => ht.run pins s σ H D I hw⟩
theorem pss_some : ∀ ss : List Stmt, ∃ t, PSs X ss t
  | [] => ⟨_, pss_nil⟩
  | _ :: r => let ⟨_, h⟩ := pss_some r; ⟨_, pss_cons ps_never h⟩
theorem x_no : PDX X W rest xNo := ⟨fun D S E h k => by cases h⟩
theorem x_alt (hx : PDX X W rest x) (hy : PDX X W rest y) : PDX X W rest (xAlt x y) := ⟨fun D S E h k => by
  unfold xAlt at h
  split at h
  · rename_i r e
    cases h
    exact hx.ex D S E e k
  · exact hy.ex D S E h k⟩
theorem x_here (hx : PDX1 X W st x) : PDX X W (st :: rest) x := ⟨fun D S E h k => by
  obtain ⟨u, hu⟩ := pss_some (X := X) rest
  obtain ⟨t, ht, hw⟩ := hx.ex { D with nx := u D } S E h k
  exact ⟨_, pss_cons ht hu, hw⟩⟩
theorem x_cons (hs : PDS X st s) (hx : PDX X W rest x) : PDX X W (st :: rest) (xSeq s x) := ⟨fun {F κ G σ ρ M H c ρ' M'} D S E h k => by
  unfold xSeq at h
  split at h
  · rename_i ρ1 M1 e1
    obtain ⟨t, ht, hw⟩ := hs.ex
    refine ⟨_, pss_cons ht pss_any, ?_⟩
    refine hw.run (D := { D with nx := fun σ H => ∃ t, PSs X rest t ∧ t D σ H }) S E e1 ?_
    intro κ1 G1 σ1 H1 l1 S1 E1
    exact hx.ex D S1 E1 h (k.weak l1)
  · cases h⟩
theorem x_if {c : Expr} {ss ts : List Stmt} {tc : DT} {pos : Pos} (hc : PDT X c tc) (hx : PDX X W ss x) (hy : PDX X W ts y) : PDX1 X W (.If c ss ts pos) (xIf tc x y) := ⟨fun {F κ G σ ρ M H c ρ' M'} D S E h k => by
  unfold xIf at h
  obtain ⟨t, ht, hw⟩ := hc.ex
  refine ⟨_, ps_if ht pss_any pss_any, ?_⟩
  split at h
  · rename_i M1 e1
    refine hw.run S E e1 fun κ1 G1 H1 l1 S1 => ?_
    show (if true = true then _ else _)
    rw [if_pos rfl]
    exact hx.ex D S1 (E.mono l1) h (k.weak l1)
  · rename_i M1 e1
    refine hw.run S E e1 fun κ1 G1 H1 l1 S1 => ?_
    show (if false = true then _ else _)
    rw [if_neg Bool.false_ne_true]
    exact hy.ex D S1 (E.mono l1) h (k.weak l1)
  · cases h⟩
theorem x_expr (he : PEX X W e x) (hs : swapsWith e none pos.line X.env = pure false := by rfl) : PDX1 X W (.Expr e pos) x := ⟨fun D S E h k => by
  obtain ⟨t, ht, hw⟩ := he.ex
  exact ⟨_, ps_expr ht hs, hw _ S E h k⟩⟩
theorem x_ret (he : PEX X W e x) : PDX1 X W (.Return (some e) pos) x := ⟨fun D S E h k => by
  obtain ⟨t, ht, hw⟩ := he.ex
  exact ⟨_, ps_ret ht, hw _ S E h k⟩⟩
theorem x_set (i : Nat) {v : Str} {pos' : Pos} (hN : X.N.Nodup) (he : PEX X W e x) (hi : X.N[i]? = some v := by rfl) (hx : Loc X.env.scope v := by first | exact Or.inl rfl | exact Or.inr rfl) (hs : swapsWith e (some (.Name v pos')) pos.line X.env = pure false := by rfl) (hf : X.fn v = true ∨ X.env.scope.names.lookup v = some .local := by first | exact .inl rfl | exact .inr rfl) :
    PDX1 X W (.Assign [.Name v pos'] e pos) x := ⟨fun D S E h k => by
  obtain ⟨t, ht, hw⟩ := he.ex
  exact ⟨_, ps_set hN hi hx ht hs hf, hw _ S E h k⟩⟩
end
section
variable {X : Cx} {W : WX} {x : DX} {pos : Pos}
/-- what is walked raises -/
theorem x_for {tg iter : Expr} {tgt : Tgt} {body : List Stmt} (he : PEX X W iter x) (hg : PDG X tg tgt) (hp : PassesOwn (model X.prog X.w) X.A X.env X.xe := by exact PassesOwn.leaving) (hc : X.calm = true := by rfl) (hs : ∀ x, foldedSetIterable iter X.env x = pure x := by intro _; rfl) : PDX1 X W (.For tg iter body [] pos) x := ⟨fun D S E h k => by
  obtain ⟨t, ht, hw⟩ := he.ex
  obtain ⟨u, hu⟩ := pss_some (X := X) body
  exact ⟨_, ps_for hp hc (pi_list ht) hg.ex hu hs, hw _ S E h k⟩⟩
end
/-- an own class of errors, as it stands behind the top -/
structure OwnX (K : PySem.W.Frag) (mg : Str → Option Value) (c : String) (C : Addr) : Prop where
  ns : ClsK K c (.ref C)
  gC : mg (Str.ofString c) = some (.ref C)
  xC : PySem.W.excIn K C [.type "ValueError", .type "Exception", .type "BaseException", .type "object"] "ValueError.__new__" = true
  kC : PySem.W.keepIn K (.ref C) = true
  bC : PySem.W.subIn K (.ref C) (.type "BaseException") = some true
  tC : PySem.W.typeIn K (.ref C) = some (.type "type")
  dC : PySem.W.hasDictIn K C = true
section
variable {X : Cx} {W : WX} {pos p p2 : Pos}
theorem x_raise {c : String} {C : Addr} {v m : Str} {j : Nat} {pos' : Pos} (O : OwnX X.K X.mg c C) (tk : Takes X W) (hv : v = Str.ofString c := by rfl) (hg : Gl X v := by exact rfl) (hc : X.calm = true := by rfl) (hdb : (v == ("__debug__" : Str)) = false := by decide) :
    PDX1 X W (.Raise (some (.Call (.Name v p) [.Constant (.str m) j p2] [] pos)) none pos') (xRaise c) := ⟨fun {F κ G σ ρ M H c ρ' M'} D S E h k => by
  cases h
  subst hv
  exact ⟨_, ps_raise hc tk (pmk_own PySem.F.excBase_ValueError O.xC O.gC O.kC (raises_own O.bC O.tC) hg hdb), k κ G σ H _ (Le.refl _ _) S E O.ns⟩⟩
end
/-- a def's promise: it raises as f -/
def spX (K : PySem.W.Frag) (f : FX) (n : Nat) : Sp := fun vs H _ E => ∃ F κ G M as c M', Sm K F κ G M H ∧ Rxs K κ G vs as ∧ as.length = n ∧ f as M = some (c, M') ∧
  ∀ κ' G' H' cls, Le κ G κ' G' → Sm K F κ' G' M' H' → ClsK K c cls → E cls none H'
structure HasX (P : Program) (w : World) (K : PySem.W.Frag) (mg : Str → Option Value) (base : Heap) (x : Str) (k n : Nat) (fx : FX) : Prop where
  ex : ∃ (f : Addr) (fd : FuncData) (ps : List Str), FnOk P w K mg base (L2.CX P w) k f fd ps (spX K fx n) ∧ mg x = some (.ref f) ∧ PySem.W.keepIn K (.ref f) = true ∧ Binds K fd ps []
section
variable {X : Cx} {W : WX} {e : Expr} {es : List Expr} {das : DA} {p pos : Pos} {x : Str} {k n : Nat} {fx : FX}
theorem x_call (Hs : HasX X.prog X.w X.K X.mg X.base x k n fx) (hr : Room k X.A) (tk : Takes X W) (ha : PDA X (e :: es) das n) (hg : Gl X x := by rfl) (hdb : (x == ("__debug__" : Str)) = false := by decide) (he : starEach (e :: es) X.env = (false, eval e X.env) :: starEach es X.env := by rfl) (hpl : (backTo pos (starEach es X.env)).any (·.1) = false := by rfl) :
    PEX X W (.Call (.Name x p) (e :: es) [] pos) (xCall fx das) := by
  obtain ⟨f, fd, ps, F, hm, hk, hb⟩ := Hs.ex
  obtain ⟨t, h1, h2⟩ := ha.ex
  refine ⟨_, pe_callS F hr hg hm hk hb (fun σ => passAt tk σ) h1 hdb he hpl, ?_⟩
  intro F κ G σ ρ M H c ρ' M' Q S E h k
  unfold xCall at h
  split at h
  · rename_i vs M1 e1
    split at h
    · rename_i c1 M2 e2
      cases h
      refine h2.run S E e1 fun κ1 G1 us H1 l1 S1 r1 => ?_
      exact ⟨F, κ1, G1, M1, vs, c, M', S1, r1, ha.len _ _ _ _ e1, e2, fun κ' G' H' cls l S' hc => k κ' G' σ H' cls (l1.trans l) S' (E.mono (l1.trans l)) hc⟩
    · cases h
  · cases h
end
section
variable {X : Cx} {W : WX} {e : Expr} {p pos : Pos} {x : Str} {k n : Nat} {df : DF} {dx : DX}
/-- a call whose one argument raises -/
theorem x_arg (Hs : Has X.prog X.w X.K X.mg X.base x k 1 df) (hr : Room k X.A) (ha : PEX X W e dx) (hg : Gl X x := by rfl) (hdb : (x == ("__debug__" : Str)) = false := by decide) (he : starEach [e] X.env = (false, eval e X.env) :: starEach [] X.env := by rfl) (hpl : (backTo pos (starEach [] X.env)).any (·.1) = false := by rfl) :
    PEX X W (.Call (.Name x p) [e] [] pos) dx := by
  obtain ⟨f, fd, ps, F, hm, hk, hb⟩ := Hs.ex
  obtain ⟨t, h1, h2⟩ := ha.ex
  refine ⟨_, pe_callS F hr hg hm hk hb (E := fun _ => E0) (fun σ => (fun _ _ _ _ _ _ h => h.elim)) (pa_cons h1 pa_nil he) hdb he hpl, ?_⟩
  intro F' κ G σ ρ M H c ρ' M' Q S E h kk
  exact h2 _ S E h kk
end
/-- THE RULE for a def that raises -/
theorem fn_okX {P : Program} {w : World} {K : PySem.W.Frag} {mg : Str → Option Value} {base : Heap} {x qual : Str} {st : Stmt} {f : Addr} {fd : FuncData} {N ps : List Str} {k : Nat} {dx : DX} (F : Fun K x qual st f fd) (S : FnScope N ps (defScope st))
    (hb : ∀ (cdv : Value) (A : Around) (outer : List Env) (s : Shared) (H : Hp) (E : XK), Room k (A.deeper (envOfC qual (defScope st) s.heap.objs.size f cdv)) → Takes (cxOf (L2.CX P w) P w K mg base N qual (defScope st) f cdv A outer s H E) (fun cls d _ H => E cls d H) → PDX (cxOf (L2.CX P w) P w K mg base N qual (defScope st) f cdv A outer s H E) (fun cls d _ H => E cls d H) (defBody st) dx) :
    FnOk P w K mg base (L2.CX P w) (k + 1) f fd ps (spX K (fnX N.length dx) ps.length) := by
  refine F.okX S (fun vs H Q E h => ?_) (fun cdv A outer s H vs Q E hr h => ?_)
  · obtain ⟨F', κ, G, M, as, c, M', _, r, hl, _⟩ := h
    rw [r.length, hl]
  · obtain ⟨F', κ, G, M, as, c, M', S0, r, hl, hf, k0⟩ := h
    unfold fnX at hf
    split at hf
    · rename_i c1 ρ1 M1 e
      cases hf
      refine (hb cdv A outer s H E hr (takes_of rfl rfl rfl rfl)).ex _ S0 (start_se r) e ?_
      intro κ' G' σ' H' cls l S' E' hc
      have e4 : κ'.take M.length = κ := by
        obtain ⟨t, rfl⟩ := l.pre
        rw [← S0.len, List.take_left]
      have S2 := S'.take M.length
      rw [e4] at S2
      exact k0 κ G' H' cls ⟨List.prefix_refl _, l.ex⟩ S2 hc
    · cases hf
/-! ### try -/
theorem exm_by {K : PySem.W.Frag} {mg : Str → Option Value} {c h : String} {C D : Addr} (O : OwnX K mg c C) (Q : OwnX K mg h D) (s : PySem.W.subIn K (.ref C) (.ref D) = some true) : ∀ cls, ClsK K c cls → PySem.W.exmOne K cls (.ref D) = some true := fun cls e => by
  have e2 := O.ns.symm.trans e
  cases e2
  exact PySem.W.exm_ref Q.bC Q.dC Q.tC s
theorem he_nil {p : String → Prop} : ∀ c ∈ ([] : List String), p c := fun _ h => nomatch h
theorem he_cons {p : String → Prop} {c : String} {cs : List String} (h : p c) (hs : ∀ c ∈ cs, p c) : ∀ d ∈ c :: cs, p d := fun d hd => by
  rcases List.mem_cons.mp hd with e | e
  · rw [e]
    exact h
  · exact hs d e
section
variable {X : Cx} {x : Str} {C : Addr} {body suite : List Stmt} {b₀ : Stmt} {np pos pos' : Pos} {d h : DS} {dx : DX} {cs : List String}
theorem s_try (hc : Names X x (.ref C)) (hd : ∀ (pn : List (Addr × Obj)) (xe : Value → Shared → Prop), PDB (X.tr pn xe) body d)
    (hx : ∀ (W : WX) (pn : List (Addr × Obj)) (xe : Value → Shared → Prop), Takes (X.tr pn xe) W → PDX (X.tr pn xe) W body dx)
    (hh : ∀ (a : Addr) (pn : List (Addr × Obj)), PDB (X.suite a pn) (b₀ :: suite) h)
    (he : ∀ c ∈ cs, ∀ cls, ClsK X.K c cls → PySem.W.exmOne X.K cls (.ref C) = some true) (hs : X.stack = X.env :: X.outer := by rfl) (hf : X.env.frame = some X.env.locals := by rfl) :
    PDS X (.Try body [.ExceptHandler (some (.Name x np)) none (b₀ :: suite) pos'] [] [] pos) (dTry cs d dx h) := by
  refine ⟨_, ps_try_only (tb := fun W D σ H => ∀ pn xe, Takes (X.tr pn xe) W → ∃ t, PSs (X.tr pn xe) body t ∧ t D σ H) (ts := fun a _ _ D σ H => ∀ pn, ∃ t, PSs (X.suite a pn) (b₀ :: suite) t ∧ t D σ H) (Wout := fun _ _ _ _ => False) hs hf hc takes0
    (fun W pn xe tk _ => ⟨fun pins s σ H D I hw => ?_⟩) (fun a oe cls dd pn _ _ => ⟨fun pins s σ H D I hw => ?_⟩), ⟨fun {F κ G σ ρ M H D o} S E h1 k => ?_⟩⟩
  · obtain ⟨t, ht, hw⟩ := hw pn xe tk
    exact ht.run pins s σ H D I hw
  · obtain ⟨t, ht, hw⟩ := hw ((a, oe) :: pn)
    exact ht.run pins s σ H D I hw
  · intro pn xe tk
    unfold dTry at h1
    split at h1
    · rename_i c ρ1 M1 e1
      obtain ⟨hm, h1⟩ := grd_some h1
      refine (hx _ pn xe tk).ex D S E e1 ?_
      intro κ' G' σ' H' cls l S' E' hcl
      refine ⟨true, he c hm cls hcl, fun _ a _ pn => ?_, fun q => nomatch q⟩
      obtain ⟨t, ht, hw⟩ := (hh a pn).ex
      exact ⟨t, ht, hw.run S' E' h1 (k.weak l)⟩
    · obtain ⟨t, ht, hw⟩ := (hd pn xe).ex
      exact ⟨t, ht, hw.run S E h1 k⟩
end
end Rw
end PRwExc
section PRwKeep
set_option Elab.async false
set_option linter.all false
set_option maxRecDepth 100000
set_option maxHeartbeats 2000000
/-! RwKeep: an exception that is caught, given a name and looked at behind the try. -/
namespace Rw
open PySem L2 PySem.Spec PyProof.Rows
open Evl (Ex)
theorem exK_ok {P : Program} {w : World} {H : Hp} {g : Heap} {a : Addr} {cls : Value} {ob : Obj} {fl : Array Value} (e : g.get? a = some ob) (z : Zc cls none ob) (q : ob.data = .fields fl) : ObjOk P w H g a (ExK cls a) :=
  ⟨⟨ob, fl, e, z, q⟩, ⟨ob, e⟩, fun _ _ ⟨u, v, r, t⟩ k => ⟨u, v, k u r, t⟩⟩
section
variable {X : Cx} {pins : List (Addr × Obj)} {σ : L2.St} {H : Hp} {s : Shared} {a : Addr}
/-- an object that nobody knew is known from now on -/
theorem adopt {o : HO} (I : Inv X pins σ H s) (na : H a = none) (n0 : X.s_0.heap.get? a = none) (nL : a ≠ X.env.locals) (nC : ∀ v, ¬ s.heap.IsCell a v)
    (nP : ∀ p ∈ X.pn ++ pins, p.1 ≠ a) (new : ObjOk X.prog X.w (upd H a o) s.heap a o) : Inv X pins σ (upd H a o) s := by
  have ne : ∀ {b : Addr} {u : HO}, H b = some u → b ≠ a := fun {b u} e z => by
    subst z
    rw [na] at e
    cases e
  refine ⟨I.ok, I.os, I.bare, ⟨I.base.keep, I.base.slot, ?_, I.base.there, ?_, ?_, ?_⟩, I.loc, I.cell, ?_, ?_, ?_, HOk.laidN I.hok (fun _ _ q => q) na new, I.len⟩
  · intro b u e n q
    have hb : b ≠ a := fun z => by
      subst z
      rw [n0] at e
      cases e
    rw [upd_ne hb]
    exact I.base.free b u e n q
  · intro b xs e
    have q := I.base.tups b xs e
    rw [upd_ne (ne q)]
    exact q
  · intro b u v e
    have q := I.base.frzs b u v e
    rw [upd_ne (ne q)]
    exact q
  · intro b ps e
    obtain ⟨m, q⟩ := I.base.tbls b ps e
    exact ⟨m, by rw [upd_ne (ne q)]; exact q⟩
  · rw [upd_ne (Ne.symm nL)]
    exact I.free
  · intro x c e
    have hb : c ≠ a := fun z => by
      subst z
      obtain ⟨v, q⟩ := I.cell x c e
      exact nC v q
    rw [upd_ne hb]
    exact I.freeC x c e
  · intro p hp
    obtain ⟨e1, e2, e3⟩ := I.pin p hp
    exact ⟨e1, by rw [upd_ne (nP p hp)]; exact e2, e3⟩
end
/-- what 'except c as i: j = i' wishes -/
def wKeep (K : PySem.W.Frag) (c : Value) (i j : Nat) (D : Ends) : WX := fun cls d σ H => PySem.W.exmOne K cls c = some true ∧ d = none ∧
  ∀ a, H a = none → D.nx (((σ.set i (some (.ref a))).set j (some (.ref a))).set i none) (upd H a (ExK cls a))
section
variable {X : Cx} {x n m : Str} {c : Value} {i j : Nat} {body : List Stmt} {np pm pn' pa pos pos' : Pos} {tb : WX → TS}
theorem ps_keep (hs : X.stack = X.env :: X.outer) (hf : X.env.frame = some X.env.locals) (hex : X.ex = []) (hN : X.N.Nodup) (hi : X.N[i]? = some n) (hj : X.N[j]? = some m) (hln : X.env.kindOf n = some .local) (hlm : X.env.kindOf m = some .local) (hc : Names X x c)
    (hdb : (n == ("__debug__" : Str)) = false) (hcd : (n == ("__classdict__" : Str)) = false)
    (hsw : ∀ a pq, swapsWith (.Name n pn') (some (.Name m pm)) pa.line (X.suite a pq).env = pure false)
    (hb : ∀ (W : WX) (pq : List (Addr × Obj)) (xe : Value → Shared → Prop), Takes (X.tr pq xe) W → PSs (X.tr pq xe) body (tb W)) :
    PS X (.Try body [.ExceptHandler (some (.Name x np)) (some n) [.Assign [.Name m pm] (.Name n pn') pa] pos'] [] [] pos) (fun D σ H => tb (wKeep X.K c i j D) D σ H) := ⟨by
  intro pins s σ H D I hw
  have ok := I.ok
  have frm : X.A.frames = some (X.env :: X.outer) := ok.frames.trans (congrArg some hs)
  let E1 : Value → Shared → Prop := fun e s1 => wpAny (model X.prog X.w) X.A (noteFrame e X.env)
    (fun _ s2 => wpAny (model X.prog X.w) X.A (setFlight e none)
      (fun _ s3 => wpAny (model X.prog X.w) X.A (handleBy e X.env [.ExceptHandler (some (.Name x np)) (some n) [.Assign [.Name m pm] (.Name n pn') pa] pos'])
        (SP X pins D) X.xe s3) X.xe s2) X.xe s1
  have tk : Takes (X.tr (X.pn ++ pins) E1) (wKeep X.K c i j D) := by
    rintro u s1 ⟨a, B, sI, pins', σ1, H1, cls, d, rfl, J0, nb, up, sky, na, os, ag, hm, rfl, hk⟩
    have J : Inv X pins σ1 H1 sI := J0.ofTry ok
    have sk : Sky B (X.env :: X.outer) a (Zc cls none) X.env.locals s1.heap := hs ▸ sky
    refine Sky.land Zc.steady frm hf sk fun h3 f3 u3 => ?_
    have J3 : Inv X pins σ1 H1 { s1 with heap := h3 } := J.landed nb f3.1 (up.trans u3) os ag
    obtain ⟨oe, vs, g3, z3, d3⟩ := f3.there
    have nfr : a ∉ frs (X.env :: X.outer) := fun hmm => by
      obtain ⟨_, o', e', hnf⟩ := f3.2.2.1.mem hmm
      rw [g3] at e'
      cases e'
      exact hnf _ d3
    have nI : sI.heap.get? a = none := by
      cases e : sI.heap.get? a with
      | none => rfl
      | some o =>
        have q := nb a o e (by
          show a ∉ frs X.stack
          rw [hs]
          exact nfr)
        have z : B.get? a = none := f3.2.1
        rw [z] at q
        cases q
    have nL : a ≠ X.env.locals := fun z => nfr (List.mem_filterMap.mpr ⟨X.env, List.mem_cons_self, by rw [hf, z]⟩)
    have nF : a ∉ X.fs := fun hmm => by
      obtain ⟨v, hv, q⟩ := List.mem_filterMap.mp hmm
      exact nfr (List.mem_filterMap.mpr ⟨v, List.mem_cons_of_mem _ hv, q⟩)
    have n0 : X.s_0.heap.get? a = none := by
      cases e : X.s_0.heap.get? a with
      | none => rfl
      | some o =>
        obtain ⟨o', q⟩ := J.base.there a o e (by rw [hex]; exact fun z => nomatch z)
        rw [nI] at q
        cases q
    have nP : ∀ p ∈ X.pn ++ pins, p.1 ≠ a := fun p hp z => by
      have q := (J.pin p hp).1
      rw [z, nI] at q
      cases q
    have S3 := J3.suite g3 d3 na nL nF
    refine wpAny_handleBy_cons (codeAny_handlers_test ?_) (by intro q; cases q)
    have ty : PySem.W.Looks (model X.prog X.w) h3 (typeOf (.ref a)) cls := fun A Q E s k q => wpAny_typeOf_ref (k _ _ g3) (by rw [z3.1]; exact q)
    have mt := PySem.W.exm_one (M := model X.prog X.w) J3.kIn ty hm
    have look : ∀ {Q : Value → Shared → Prop} {E : Value → Shared → Prop}, Q c { s1 with heap := h3 } →
        wpAny (model X.prog X.w) (X.A.mark (some (.ref a))) (eval (.Name x np) X.env) Q E { s1 with heap := h3 } := fun {Q E} q => by
      rcases hc with ⟨hg, hdbg, hmg | ⟨hmg, hv, hnn⟩⟩
      · exact ld_glob (X := X.suite a _) S3 hg hmg q hdbg
      · exact ld_blt (X := X.suite a _) S3 hg hmg hv q hnn hdbg
    refine look (mt.here ?_)
    refine codeAny_handlers_suite_as ?_
    refine HandSPX.lands_againZ f3 fun h4 f4 u4 => ?_
    have J4 : Inv X pins σ1 H1 { s1 with heap := h4 } := J.landed nb f4.1 ((up.trans u3).trans u4) os ag
    obtain ⟨o4, v4, g4, z4, d4⟩ := f4.there
    have S4 := J4.suite g4 d4 na nL nF
    refine store_ok (X := X.suite a _) (v := .ref a) S4 hN hi (.inl hln) rfl (fun s5 S5 => ?_) (.inr hln)
    have lt : i < σ1.length := by
      rw [J.len]
      exact (List.getElem?_eq_some_iff.mp hi).1
    have run := (pss_one (ps_set (X := X.suite a ((a, o4) :: (X.pn ++ pins))) (i := j) (pos := pa) (pos' := pm) hN hj (.inl hlm) (pe_var (i := i) (pos := pn') hi (.inl hln) hdb hcd) (hsw a _) (.inr hlm))).run [] s5 _ H1
      { nx := fun σ6 H6 => σ6 = (σ1.set i (some (.ref a))).set j (some (.ref a)) ∧ H6 = H1, rt := fun _ _ => False, bk := fun _ _ => False, ct := fun _ _ => False } S5 ⟨.ref a, List.getElem?_set_self lt, rfl, rfl⟩
    refine wpAny_mono run (fun f s6 hsp => ?_) (fun _ _ z => z.elim)
    cases f with
    | next =>
      obtain ⟨σ6, H6, S6, rfl, rfl⟩ := hsp
      have pin := S6.pin (a, o4) (List.mem_append_left _ List.mem_cons_self)
      have J6 := adopt (o := ExK cls a) (S6.unsuite ok) na n0 nL (fun v q => by
        obtain ⟨o, ho, hd⟩ := q
        rw [pin.1] at ho
        cases ho
        exact pin.2.2.2.2 v hd) nP (exK_ok pin.1 z4 d4)
      exact gone_ok J6 hN hi hln fun s7 J7 => ⟨_, _, J7, hk a na⟩
    | brk =>
      obtain ⟨_, _, _, q⟩ := hsp
      exact q.elim
    | cont =>
      obtain ⟨_, _, _, q⟩ := hsp
      exact q.elim
    | ret u =>
      obtain ⟨_, _, _, _, _, q⟩ := hsp
      exact q.elim
  refine wpAny_Try_except (wpAny_mono ((hb _ (X.pn ++ pins) E1 tk).run [] s σ H D (I.toTry _) hw) (fun f s1 hsp => ?_) fun e s1 he => he)
  cases f with
  | next =>
    obtain ⟨σ', H', J', q⟩ := hsp
    exact wpAny_execs_nil ⟨_, _, J'.ofTry ok, q⟩
  | brk =>
    obtain ⟨σ', H', J', q⟩ := hsp
    exact ⟨_, _, J'.ofTry ok, q⟩
  | cont =>
    obtain ⟨σ', H', J', q⟩ := hsp
    exact ⟨_, _, J'.ofTry ok, q⟩
  | ret u =>
    obtain ⟨v, σ', H', J', r, q⟩ := hsp
    exact ⟨_, _, _, J'.ofTry ok, r, q⟩⟩
end
theorem Se.gone {K : PySem.W.Frag} {κ : List Addr} {G : Hp} {σ : L2.St} {ρ : DEnv} (h : Se K κ G σ ρ) (i : Nat) : Se K κ G (σ.set i none) (ρ.set i none) := h.wipe2 [i]
section
variable {X : Cx} {x n m : Str} {C : Addr} {body : List Stmt} {np pm pn' pa pos pos' : Pos} {d : DS} {dx : DX} {cs : List String}
/-- try: .. except C as i: j = i -/
theorem s_tryAs (i j : Nat) (hN : X.N.Nodup) (hc : Names X x (.ref C)) (hd : ∀ (pq : List (Addr × Obj)) (xe : Value → Shared → Prop), PDB (X.tr pq xe) body d)
    (hx : ∀ (W : WX) (pq : List (Addr × Obj)) (xe : Value → Shared → Prop), Takes (X.tr pq xe) W → PDX (X.tr pq xe) W body dx)
    (he : ∀ c ∈ cs, ∀ cls, ClsK X.K c cls → PySem.W.exmOne X.K cls (.ref C) = some true) (hty : ∀ c ∈ cs, c ∉ tyNs := by decide) (hi : X.N[i]? = some n := by rfl) (hj : X.N[j]? = some m := by rfl)
    (hln : X.env.kindOf n = some .local := by rfl) (hlm : X.env.kindOf m = some .local := by rfl) (hdb : (n == ("__debug__" : Str)) = false := by decide) (hcd : (n == ("__classdict__" : Str)) = false := by decide)
    (hsw : ∀ a pq, swapsWith (.Name n pn') (some (.Name m pm)) pa.line (X.suite a pq).env = pure false := by intro _ _; rfl)
    (hs : X.stack = X.env :: X.outer := by rfl) (hf : X.env.frame = some X.env.locals := by rfl) (hex : X.ex = [] := by rfl) :
    PDS X (.Try body [.ExceptHandler (some (.Name x np)) (some n) [.Assign [.Name m pm] (.Name n pn') pa] pos'] [] [] pos) (dTryAs cs d dx i j) := by
  refine ⟨_, ps_keep (tb := fun W D σ H => ∀ pq xe, Takes (X.tr pq xe) W → ∃ t, PSs (X.tr pq xe) body t ∧ t D σ H) hs hf hex hN hi hj hln hlm hc hdb hcd hsw (fun W pq xe tk => ⟨fun pins s σ H D I hw => ?_⟩), ⟨fun {F κ G σ ρ M H D o} S E h1 k => ?_⟩⟩
  · obtain ⟨t, ht, hw⟩ := hw pq xe tk
    exact ht.run pins s σ H D I hw
  · intro pq xe tk
    unfold dTryAs at h1
    split at h1
    · rename_i c ρ1 M1 e1
      obtain ⟨hm, h1⟩ := grd_some h1
      cases h1
      refine (hx _ pq xe tk).ex D S E e1 ?_
      intro κ' G' σ' H' cls l S' E' hcl
      refine ⟨he c hm cls hcl, rfl, fun a na => ?_⟩
      have g := (S'.fresh na).1
      have l2 : Le κ' G' κ' (upd G' a (ExK cls a)) := Le.newG g
      have r : Rx X.K κ' (upd G' a (ExK cls a)) (.ref a) (.d (.ty c)) := Rv.exc upd_same hcl (hty c hm)
      exact k κ' _ _ _ (l.trans l2) (S'.newG _ na) ((((E'.mono l2).set r i).set r j).gone i)
    · obtain ⟨t, ht, hw⟩ := (hd pq xe).ex
      exact ⟨t, ht, hw.run S E h1 k⟩
end
/-! ### isinstance of what was caught -/
def rIsX (K : PySem.W.Frag) : List V → Hp → VK → Prop := fun xs H Q => rIsi K xs H Q ∨ ∃ (a D : Addr) (c : V) (u : Value) (b : Bool), xs = [.ref a, c] ∧ ClsV c u ∧ H a = some (ExK (.ref D) a) ∧ ExcC K D ∧ PySem.W.kitOne K (.ref D) u = some b ∧ Q (.bl b) H
def rIsXT (K : PySem.W.Frag) : List V → Hp → VK → Prop := fun xs H Q => rIsiT K xs H Q ∨ ∃ (a D tp : Addr) (cs : List V) (us : List Value) (b : Bool), xs = [.ref a, .ref tp] ∧ H tp = some (.tup cs) ∧ Paired ClsV cs us ∧ H a = some (ExK (.ref D) a) ∧ ExcC K D ∧ PySem.W.kitAny K (.ref D) us = some b ∧ Q (.bl b) H
theorem exK_at {P : Program} {w : World} {H : Hp} {g : Heap} {a D : Addr} (h : HOk P w H g) (e : H a = some (ExK (.ref D) a)) : ∃ ob, PySem.W.InstAt g a ob D none := by
  obtain ⟨⟨ob, fl, h1, ⟨h2, h3⟩, h4⟩, _⟩ := (show ObjOk P w H g a (ExK (.ref D) a) from h a _ e)
  obtain ⟨oc, od, oda, osl⟩ := ob
  dsimp only at h2 h3 h4
  subst h2 h3 h4
  exact ⟨_, h1, rfl, rfl, trivial⟩
section
variable {X : Cx}
theorem call_isX : CallR X (.builtin "isinstance") (rIsX X.K) := by
  intro pins s σ H xs us Q I r h
  rcases h with h | ⟨a, D, c, u, b, rfl, k, ha, ec, e, q⟩
  · exact call_isi pins s σ H xs us Q I r h
  · obtain ⟨u1, u2, rfl, r1, r2⟩ := vals2 r
    have e2 := k.eq r2
    subst e2
    cases (show u1 = Value.ref a from r1)
    obtain ⟨ob, J⟩ := exK_at I.hok ha
    exact PySem.W.kia_one (PySem.W.handS_kitx_exc ec.hg ec.hk ec.hs ec.hd ec.ha ec.hn ec.ht ec.hm) I.kIn J e (fun z => nomatch z) fun tk => ⟨.bl b, H, I.tok tk, rfl, q⟩
theorem call_isXT : CallR X (.builtin "isinstance") (rIsXT X.K) := by
  intro pins s σ H xs us Q I r h
  rcases h with h | ⟨a, D, tp, cs, ws, b, rfl, hT, k, ha, ec, e, q⟩
  · exact call_isiT pins s σ H xs us Q I r h
  · obtain ⟨u1, u2, rfl, r1, r2⟩ := vals2 r
    cases (show u1 = Value.ref a from r1)
    cases (show u2 = Value.ref tp from r2)
    obtain ⟨ob, J⟩ := exK_at I.hok ha
    obtain ⟨_, its, rv, o, h1, h2, nn, h3⟩ := (show ObjOk X.prog X.w H s.heap tp (.tup cs) from I.hok tp _ hT)
    have e3 := ClsV.all k rv
    subst e3
    obtain ⟨oc, od, dt, sl⟩ := o
    simp only at h2 h3
    subst h2 h3
    exact PySem.W.kia_tup (PySem.W.handS_kitx_exc ec.hg ec.hk ec.hs ec.hd ec.ha ec.hn ec.ht ec.hm) I.kIn J h1 e (fun z => nomatch z) fun tk => ⟨.bl b, H, I.tok tk, rfl, q⟩
end
/-- what isinstance answers of the class u: of None, and of errors of the classes all -/
structure IsF (K : PySem.W.Frag) (u : Value) (all cs : List String) : Prop where
  non : PySem.W.kitOne K (.type "NoneType") u = some false
  own : ∀ c ∈ all, ∃ D, ClsK K c (.ref D) ∧ ExcC K D ∧ PySem.W.kitOne K (.ref D) u = some (cs.contains c)
structure IsFT (K : PySem.W.Frag) (us : List Value) (all cs : List String) : Prop where
  non : PySem.W.kitAny K (.type "NoneType") us = some false
  own : ∀ c ∈ all, ∃ D, ClsK K c (.ref D) ∧ ExcC K D ∧ PySem.W.kitAny K (.ref D) us = some (cs.contains c)
section
variable {X : Cx} {e : Expr} {pos p p2 : Pos} {de : DE} {all cs : List String}
theorem d_isX {u : Value} {c : V} {v : Str} (hm : X.mg "isinstance" = none) (he : PD X e de) (hc : ClsV c u) (hp : PE X (.Name v p2) (tC c)) (Fs : IsF X.K u all cs) (hall : ∀ c ∈ all, c ∉ tyNs := by decide) (hg : Gl X "isinstance" := by rfl)
    (h1 : starEach [e, .Name v p2] X.env = (false, eval e X.env) :: starEach [.Name v p2] X.env := by rfl) (h2 : starEach [.Name v p2] X.env = (false, eval (.Name v p2) X.env) :: starEach [] X.env := by rfl) (hpl : (backTo pos (starEach [.Name v p2] X.env)).any (·.1) = false := by rfl) :
    PD X (.Call (.Name "isinstance" p) [e, .Name v p2] [] pos) (e1 (oIsX all cs) de) := by
  obtain ⟨t, a1, a2⟩ := he.ex
  refine ⟨_, pe_callB (x := "isinstance") call_isX hg hm (by decide +kernel) (pa_cons a1 (pa_cons hp pa_nil h2) h1) (by decide) (by decide) h1 hpl, ⟨fun {F κ G σ ρ M H Q z M'} S E h k => ?_⟩⟩
  unfold e1 at h
  split at h
  · rename_i y M1 ey
    refine a2.run S E ey fun κ1 G1 w H1 l1 S1 r1 => ?_
    have k1 := k.weak l1
    unfold oIsX at h
    split at h
    · cases h
      cases r1
      exact .inl ⟨.non, c, _, u, false, rfl, hc, .base .non, Fs.non, k1.here S1 (Rv.bl _)⟩
    · rename_i cn
      obtain ⟨hin, h⟩ := grd_some h
      cases h
      obtain ⟨D, q1, q2, q3⟩ := Fs.own _ hin
      cases r1 with
      | ty _ h0 => exact absurd h0 (hall _ hin)
      | exc g1 g2 g3 =>
        have z := g2.symm.trans q1
        cases z
        exact .inr ⟨_, D, c, u, _, rfl, hc, S1.ex _ _ g1, q2, q3, k1.here S1 (Rv.bl _)⟩
    · cases h
  · cases h
/-- names of classes, side by side -/
structure PCs (X : Cx) (es : List Expr) (cs : List V) (us : List Value) : Prop where
  ex : ∃ t, PA X es t ∧ ∀ σ H Q, Q cs H → t σ H Q
  pr : Paired ClsV cs us
theorem pc_nil : PCs X [] [] [] := ⟨⟨_, pa_nil, fun _ _ _ q => q⟩, .nil⟩
theorem pc_cons {v : Str} {es : List Expr} {c : V} {u : Value} {ws : List V} {us : List Value} (hp : PE X (.Name v p2) (tC c)) (hc : ClsV c u) (h : PCs X es ws us) (hs : starEach (.Name v p2 :: es) X.env = (false, eval (.Name v p2) X.env) :: starEach es X.env := by rfl) : PCs X (.Name v p2 :: es) (c :: ws) (u :: us) := by
  obtain ⟨t, a1, a2⟩ := h.ex
  exact ⟨⟨_, pa_cons hp a1 hs, fun σ H Q q => a2 σ H _ q⟩, .cons hc h.pr⟩
theorem d_isXT {es : List Expr} {kk : Nat} {ws : List V} {us : List Value} (hm : X.mg "isinstance" = none) (he : PD X e de) (hc : PCs X es ws us) (Fs : IsFT X.K us all cs) (hl : ws.length ≤ 100 := by simp) (hall : ∀ c ∈ all, c ∉ tyNs := by decide) (hg : Gl X "isinstance" := by rfl)
    (h1 : starEach [e, .Tuple es kk p2] X.env = (false, eval e X.env) :: starEach [.Tuple es kk p2] X.env := by rfl) (h2 : starEach [.Tuple es kk p2] X.env = (false, eval (.Tuple es kk p2) X.env) :: starEach [] X.env := by rfl) (hpl : (backTo pos (starEach [.Tuple es kk p2] X.env)).any (·.1) = false := by rfl) :
    PD X (.Call (.Name "isinstance" p) [e, .Tuple es kk p2] [] pos) (e1 (oIsX all cs) de) := by
  obtain ⟨t, a1, a2⟩ := he.ex
  obtain ⟨t2, b1, b2⟩ := hc.ex
  refine ⟨_, pe_callB (x := "isinstance") call_isXT hg hm (by decide +kernel) (pa_cons a1 (pa_cons (pe_tup b1) pa_nil h2) h1) (by decide) (by decide) h1 hpl, ⟨fun {F κ G σ ρ M H Q z M'} S E h k => ?_⟩⟩
  unfold e1 at h
  split at h
  · rename_i y M1 ey
    refine a2.run S E ey fun κ1 G1 w H1 l1 S1 r1 => ?_
    have k1 := k.weak l1
    refine b2 σ H1 _ ⟨sz_big (Nat.le_trans hl (by decide)), fun q hq => ?_⟩
    have g := (S1.fresh hq).1
    have l2 : Le κ1 G1 κ1 (upd G1 q (.tup ws)) := Le.newG g
    have S2 := S1.newG (.tup ws) hq
    have k2 := k1.weak l2
    unfold oIsX at h
    split at h
    · cases h
      cases r1
      exact .inl ⟨.non, q, ws, _, us, false, rfl, upd_same, hc.pr, .base .non, Fs.non, k2.here S2 (Rv.bl _)⟩
    · rename_i cn
      obtain ⟨hin, h⟩ := grd_some h
      cases h
      obtain ⟨D, q1, q2, q3⟩ := Fs.own _ hin
      cases r1 with
      | ty _ h0 => exact absurd h0 (hall _ hin)
      | exc g1 g2 g3 =>
        have z := g2.symm.trans q1
        cases z
        exact .inr ⟨_, D, q, ws, us, _, rfl, upd_same, hc.pr, upd_some hq (S1.ex _ _ g1), q2, q3, k2.here S2 (Rv.bl _)⟩
    · cases h
  · cases h
theorem pe_own {c : String} {C : Addr} {v : Str} (O : OwnX X.K X.mg c C) (hv : v = Str.ofString c := by rfl) (hg : Gl X v := by exact rfl) (hd : (v == ("__debug__" : Str)) = false := by decide) : PE X (.Name v p2) (tC (.ref C)) := by
  subst hv
  exact pe_glob hg O.gC rfl hd
theorem pe_ve {v : Str} {n : String} (hm : X.mg v = none) (hv : bootBuiltins v = some (.type n) := by decide +kernel) (hg : Gl X v := by exact rfl) (hn : v ≠ "__name__" := by decide) (hd : (v == ("__debug__" : Str)) = false := by decide) : PE X (.Name v p2) (tC (.ty n)) := pe_bltn (v := .ty n) hg hm hv rfl hn hd
end
/-- a class of errors, all told -/
structure OwnI (K : PySem.W.Frag) (mg : Str → Option Value) (c : String) (C : Addr) : Prop where
  o : OwnX K mg c C
  x : ExcC K C
theorem isf_nil {K : PySem.W.Frag} {u : Value} {cs : List String} : ∀ c ∈ ([] : List String), ∃ D, ClsK K c (.ref D) ∧ ExcC K D ∧ PySem.W.kitOne K (.ref D) u = some (cs.contains c) := fun _ h => nomatch h
theorem isf_cons {K : PySem.W.Frag} {mg : Str → Option Value} {u : Value} {cs all : List String} {c : String} {C : Addr} {b : Bool} (I : OwnI K mg c C) (h : PySem.W.kitOne K (.ref C) u = some b) (r : ∀ c ∈ all, ∃ D, ClsK K c (.ref D) ∧ ExcC K D ∧ PySem.W.kitOne K (.ref D) u = some (cs.contains c)) (hb : b = cs.contains c := by decide) :
    ∀ d ∈ c :: all, ∃ D, ClsK K d (.ref D) ∧ ExcC K D ∧ PySem.W.kitOne K (.ref D) u = some (cs.contains d) := fun d hd => by
  rcases List.mem_cons.mp hd with e | e
  · rw [e]
    exact ⟨C, I.o.ns, I.x, hb ▸ h⟩
  · exact r d e
theorem isft_nil {K : PySem.W.Frag} {us : List Value} {cs : List String} : ∀ c ∈ ([] : List String), ∃ D, ClsK K c (.ref D) ∧ ExcC K D ∧ PySem.W.kitAny K (.ref D) us = some (cs.contains c) := fun _ h => nomatch h
theorem isft_cons {K : PySem.W.Frag} {mg : Str → Option Value} {us : List Value} {cs all : List String} {c : String} {C : Addr} {b : Bool} (I : OwnI K mg c C) (h : PySem.W.kitAny K (.ref C) us = some b) (r : ∀ c ∈ all, ∃ D, ClsK K c (.ref D) ∧ ExcC K D ∧ PySem.W.kitAny K (.ref D) us = some (cs.contains c)) (hb : b = cs.contains c := by decide) :
    ∀ d ∈ c :: all, ∃ D, ClsK K d (.ref D) ∧ ExcC K D ∧ PySem.W.kitAny K (.ref D) us = some (cs.contains d) := fun d hd => by
  rcases List.mem_cons.mp hd with e | e
  · rw [e]
    exact ⟨C, I.o.ns, I.x, hb ▸ h⟩
  · exact r d e
/-- several classes, from one by one -/
theorem kA_cons {K : PySem.W.Frag} {t c : Value} {r : List Value} {a b : Bool} (h : PySem.W.kitOne K t c = some a) (hr : PySem.W.kitAny K t r = some b) : PySem.W.kitAny K t (c :: r) = some (a || b) := by
  unfold PySem.W.kitAny
  rw [h]
  cases a
  · simpa using hr
  · rfl
theorem kA_nil {K : PySem.W.Frag} {t : Value} : PySem.W.kitAny K t [] = some false := rfl
end Rw
end PRwKeep
section PRwMeth
set_option Elab.async false
set_option linter.all false
set_option maxRecDepth 100000
set_option maxHeartbeats 2000000
/-! RwMeth: methods that only read: index, count, join. -/
namespace Rw
open PySem L2 PySem.Spec PyProof.Rows
open Evl (Ex)
section
variable {K : PySem.W.Frag}
theorem sim_bmR {r : V → List V → Hp → VK → Prop} {f : Dv → List Dv → DSt → Option (Dv × DSt)} {to : TE} {o : DE} {ta : TA} {a : DA} (hr : SimRM K "list" r f) (hl : ∀ v as M z, f v as M = some z → ∃ xs, lv M v = some xs)
    (hs : ∀ v as M z, f v as M = some z → z.2 = M) (ho : SimE K to o) (hp : ∀ ρ M vs M', a ρ M = some (vs, M') → M' = M) (ha : SimA K ta a) : SimE K (tBM K "list" r to ta) (eM f o a) := ⟨fun {F κ G σ ρ M H Q z M'} S E h k => by
  unfold eM at h
  split at h
  · rename_i x M1 e
    split at h
    · rename_i xs M2 e2
      obtain ⟨ys, hy⟩ := hl _ _ _ _ h
      have em := hp _ _ _ _ e2
      subst em
      refine ho.run S E e fun κ1 G1 u H1 l1 S1 r1 => ⟨?_, ?_⟩
      · obtain ⟨b, us, rfl, q, _⟩ := lv_at S1 r1 hy
        exact .inl ⟨rfl, us, q⟩
      · exact ha.run S1 (E.mono l1) e2 fun κ2 G2 us H2 l2 S2 r2 => hr S2 (r1.mono l2) r2 h (k.weak (l1.trans l2))
    · cases h
  · cases h⟩
def rCnt (K : PySem.W.Frag) : V → List V → Hp → VK → Prop := fun x xs H Q => ∃ (a : Addr) (ys : List V) (y : V), x = V.ref a ∧ xs = [y] ∧ SqL K H a ys ∧ flatV y = true ∧ ys.all flatV = true ∧ Q (.int ((ys.countP fun z => eqV z y : Nat) : Int)) H
theorem count_eqU {y : V} : ∀ {ys : List V} {us : List Value}, Vals ys us → ys.all flatV = true → us.countP (eqU y) = ys.countP fun z => eqV z y
  | _, _, .nil, _ => rfl
  | z :: ys, u :: us, .cons r t, f => by
    rw [List.all_cons, Bool.and_eq_true] at f
    rw [List.countP_cons, List.countP_cons, eqU_of r f.1, count_eqU t f.2]
theorem mt_cnt {X : Cx} : MtR X "list.count" (rCnt X.K) := by
  intro pins s σ H x xs v us Q I rx rxs h
  obtain ⟨a, ys, y, rfl, rfl, hs, fy, fys, q⟩ := h
  cases rx
  obtain ⟨uy, rfl, ry⟩ := rxs.one
  obtain ⟨its, rv, ⟨⟨cls, dd, data, sl⟩, n, ho, hc, hdn, hd⟩, hlen⟩ := I.list hs
  simp only at hc hd
  subst hc hd
  refine call_meets PySem.F.slot_list_count ⟨_, ho, rfl⟩ PySem.F.entry_list_count (PySem.F.args_list_count_2 _ _)
    (SeqAt.list_countAt a its.toArray n dd sl uy (eqU y)) ⟨ho, fun u' hu' => mem_eqAt ry fy rv fys u' (by simpa using hu'), ?_⟩
  have ec : its.toArray.toList.countP (eqU y) = ys.countP fun z => eqV z y := count_eqU rv fys
  refine ⟨.int ((ys.countP fun z => eqV z y : Nat) : Int), H, I.tok _, ⟨s.toks, ?_⟩, q⟩
  show Value.int ((its.toArray.toList.countP (eqU y) : Nat) : Int) s.toks = _
  rw [ec]
theorem countD_of {G : Hp} {v : V} {y : D} (q : Rv K G v y) (h' : y.flat = true) : ∀ {us : List V} {xs : List D}, Rvs K G us xs → xs.all D.flat = true → (us.countP fun z => eqV z v) = xs.countP fun b => D.eqv b y
  | _, _, .nil, _ => rfl
  | _, _, .cons a r, h => by
    simp only [List.all_cons, Bool.and_eq_true] at h
    rw [List.countP_cons, List.countP_cons, eqV_of a q h.1 h', countD_of q h' r h.2]
theorem sm_count : SimRM K "list" (rCnt K) mCount := fun {F κ G M H Q x xs z M' u us} S r rs h k => by
  unfold mCount at h
  split at h
  · rename_i y ys e
    obtain ⟨⟨h1, h2⟩, h⟩ := grd_some h
    cases h
    obtain ⟨v, rfl, rv⟩ := rxs1 rs
    obtain ⟨b, vs, rfl, q, p⟩ := lv_at S r e
    refine ⟨b, vs, v, rfl, rfl, q, flat_of rv h1, flats_of p h2, ?_⟩
    rw [countD_of rv h1 p h2]
    exact k.here S (Rv.int _)
  · cases h
theorem sm_index : SimRM K "list" (rIndex K) mIndex := fun {F κ G M H Q x xs z M' u us} S r rs h k => by
  unfold mIndex at h
  split at h
  · rename_i y ys e
    obtain ⟨⟨h1, h2⟩, h⟩ := grd_some h
    split at h
    · rename_i j ej
      cases h
      obtain ⟨v, rfl, rv⟩ := rxs1 rs
      obtain ⟨b, vs, rfl, q, p⟩ := lv_at S r e
      obtain ⟨hj, hp, hno⟩ := List.findIdx?_eq_some_iff_getElem.mp ej
      obtain ⟨w, hw, rw'⟩ := p.get (List.getElem?_eq_getElem hj)
      have fl : ∀ d ∈ ys, d.flat = true := by
        rw [List.all_eq_true] at h2
        exact h2
      refine ⟨b, vs, v, j, w, rfl, rfl, q, flat_of rv h1, flats_of p h2, hw, ?_, fun m z' hm hz => ?_, k.here S (Rv.int _)⟩
      · rw [eqV_of rw' rv (fl _ (List.getElem_mem hj)) h1]
        exact hp
      · obtain ⟨d, hd, rd⟩ := p.get' hz
        obtain ⟨hml, hme⟩ := List.getElem?_eq_some_iff.mp hd
        rw [eqV_of rd rv (by rw [← hme]; exact fl _ (List.getElem_mem hml)) h1, ← hme]
        simpa using hno m hm
    · cases h
  · cases h
theorem ml_count : ∀ v as M z, mCount v as M = some z → ∃ xs, lv M v = some xs := fun v as M z h => by
  unfold mCount at h
  split at h
  · rename_i e
    exact ⟨_, e⟩
  · cases h
theorem ml_index : ∀ v as M z, mIndex v as M = some z → ∃ xs, lv M v = some xs := fun v as M z h => by
  unfold mIndex at h
  split at h
  · rename_i e
    exact ⟨_, e⟩
  · cases h
theorem ms_count : ∀ v as M z, mCount v as M = some z → z.2 = M := fun v as M z h => by
  unfold mCount at h
  split at h
  · obtain ⟨_, h⟩ := grd_some h
    cases h
    rfl
  · cases h
theorem ms_index : ∀ v as M z, mIndex v as M = some z → z.2 = M := fun v as M z h => by
  unfold mIndex at h
  split at h
  · obtain ⟨_, h⟩ := grd_some h
    split at h
    · cases h
      rfl
    · cases h
  · cases h
end
section
variable {X : Cx} {a e : Expr} {apos pos : Pos} {da : DE} {x : D} {n : Nat}
theorem pure1 {x : D} : ∀ ρ M vs M', aCons (eC x) aNil ρ M = some (vs, M') → M' = M := fun ρ M vs M' h => by
  cases h
  rfl
theorem d_count (ho : PD X a da) (hb : PDA X [e] (aCons (eC x) aNil) n) (hbase : attributeBase a "count" X.env (eval a X.env) = eval a X.env := by rfl)
    (hfew : ((backTo pos (starEach [e] X.env)).all (fun x => !x.1) && (backToKw pos (keywordEach [] X.env)).all (fun x => x.1.isSome)
      && decide ([e].length + ([] : List Keyword).length + (if ([] : List Keyword).isEmpty then 0 else 1) < 30)) = true := by rfl)
    (hline : (apos.endLine == pos.line) = true := by rfl) (hs : starEach [e] X.env = (false, eval e X.env) :: starEach [] X.env := by rfl) (hplain : (backTo pos (starEach [] X.env)).any (·.1) = false := by rfl) : PD X (.Call (.Attribute a "count" apos) [e] [] pos) (eM mCount da (aCons (eC x) aNil)) := by
  obtain ⟨t, h1, h2⟩ := ho.ex
  obtain ⟨u, h3, h4⟩ := hb.ex
  exact ⟨_, pe_bm PySem.F.plainAttrs_list PySem.F.slot_list_count PySem.F.type_list_count mt_cnt h1 h3 hbase hfew hline hs hplain, sim_bmR sm_count ml_count ms_count h2 pure1 h4⟩
theorem d_index (ho : PD X a da) (hb : PDA X [e] (aCons (eC x) aNil) n) (hbase : attributeBase a "index" X.env (eval a X.env) = eval a X.env := by rfl)
    (hfew : ((backTo pos (starEach [e] X.env)).all (fun x => !x.1) && (backToKw pos (keywordEach [] X.env)).all (fun x => x.1.isSome)
      && decide ([e].length + ([] : List Keyword).length + (if ([] : List Keyword).isEmpty then 0 else 1) < 30)) = true := by rfl)
    (hline : (apos.endLine == pos.line) = true := by rfl) (hs : starEach [e] X.env = (false, eval e X.env) :: starEach [] X.env := by rfl) (hplain : (backTo pos (starEach [] X.env)).any (·.1) = false := by rfl) : PD X (.Call (.Attribute a "index" apos) [e] [] pos) (eM mIndex da (aCons (eC x) aNil)) := by
  obtain ⟨t, h1, h2⟩ := ho.ex
  obtain ⟨u, h3, h4⟩ := hb.ex
  exact ⟨_, pe_bm PySem.F.plainAttrs_list PySem.F.slot_list_index PySem.F.type_list_index mt_index h1 h3 hbase hfew hline hs hplain, sim_bmR sm_index ml_index ms_index h2 pure1 h4⟩
end
theorem strs_of {K : PySem.W.Frag} {G : Hp} : ∀ {xs : List V} {ds : List D} {ns : List Str}, Rvs K G xs ds → strsD ds = some ns → xs = ns.map V.str
  | _, _, _, .nil, e => by simp [strsD] at e; subst e; rfl
  | _, _, ns, .cons h r, e => by
    rename_i v vs d ds
    cases d <;> simp only [strsD] at e <;> try (cases e)
    rename_i i
    cases e2 : strsD ds with
    | none => rw [e2] at e; cases e
    | some ms =>
      rw [e2] at e
      cases e
      cases h
      rw [strs_of r e2]
      rfl
theorem d_join {X : Cx} {e : Expr} {de : DE} {s : Str} {j : Nat} {p apos pos : Pos} (he : PD X e de) (hs : starEach [e] X.env = [(false, eval e X.env)] := by rfl) (hbase : attributeBase (.Constant (.str s) j p) "join" X.env (eval (.Constant (.str s) j p) X.env) = eval (.Constant (.str s) j p) X.env := by rfl) (hline : (apos.endLine == pos.line) = true := by rfl) :
    PD X (.Call (.Attribute (.Constant (.str s) j p) "join" apos) [e] [] pos) (e1 (oJoin s) de) := by
  obtain ⟨t, h1, h2⟩ := he.ex
  refine ⟨_, pe_join pe_str h1 hs hbase hline, ⟨fun {F κ G σ ρ M H Q z M'} S E h k => ?_⟩⟩
  unfold e1 at h
  split at h
  · rename_i x M1 e1
    unfold oJoin at h
    split at h
    · rename_i xs ex
      split at h
      · rename_i ys ey
        obtain ⟨hb, h⟩ := grd_some h
        cases h
        refine ⟨⟨s, rfl⟩, h2.run S E e1 fun κ1 G1 u H1 l1 S1 r1 => ?_⟩
        obtain ⟨b, us, rfl, q, p'⟩ := lv_at S1 r1 ex
        refine ⟨s, b, ys, rfl, rfl, .inl ?_, Nat.le_trans hb (by decide), ?_⟩
        · rw [← strs_of p' ey]
          exact q
        · have ej : Txt.join s ys = Str.join s ys := PySem.StrLaws.glued_eq_join s ys
          rw [ej]
          exact k κ1 G1 _ H1 l1 S1 (Rv.str _)
      · cases h
    · cases h
  · cases h
end Rw
end PRwMeth
section PRwSemY
set_option autoImplicit false
set_option linter.all false
/-! RwSemY: a chain of three comparisons; a loop whose body raises. -/
namespace Rw
open PySem (Str)
noncomputable section
/-- a chain of three comparisons -/
def eChain3 (f g h : O2) (a b c d : DE) : DE := fun ρ M => match a ρ M with
  | some (x, M1) => match b ρ M1 with
    | some (y, M2) => match f x y M2 with
      | some (.d (.bl true), M3) => match c ρ M3 with
        | some (z, M4) => match g y z M4 with
          | some (.d (.bl true), M5) => match d ρ M5 with
            | some (w, M6) => h z w M6
            | none => none
          | some (.d (.bl false), M5) => some (.d (.bl false), M5)
          | _ => none
        | none => none
      | some (.d (.bl false), M3) => some (.d (.bl false), M3)
      | _ => none
    | none => none
  | none => none
/-- len(set(xs)), whole numbers -/
def dupStep (acc : List Int) (x : Int) : List Int := if acc.any (· == x) then acc else acc ++ [x]
def distZ (ns : List Int) : Nat := (ns.foldl dupStep []).length
def oDist : O1 := fun v M => match lv M v with
  | some xs => match intsD xs with
    | some ns => grd (ns.length ≤ 4000) (some (.d (.int (distZ ns : Nat)), M))
    | none => none
  | none => none
/-- x in xs, things of any depth -/
def oInD (neg : Bool) : O2 := fun x y M => match dv M x, dv M y with
  | some a, some (.lst ys) => grd (a.shp 8 = true ∧ (D.lst ys).shp 9 = true) (some (.d (.bl (xor neg (ys.any fun b => D.eqv b a))), M))
  | _, _ => none
/-- a loop that raises within its body -/
def xForL (chk : DSt → Prop) (step : D → DEnv → DSt → Option Out) (xs : D → DX) : List D → DX
  | [], _, _ => none
  | x :: r, ρ, M => grd (chk M) (match xs x ρ M with
    | some q => some q
    | none => match step x ρ M with
      | some (.nx ρ1 M1) => xForL chk step xs r ρ1 M1
      | some (.ct ρ1 M1) => xForL chk step xs r ρ1 M1
      | _ => none)
def xForStep (tg : Tgt) (b : DX) (x : D) : DX := fun ρ M => match tg.put (.d x) ρ with
  | some ρ1 => b ρ1 M
  | none => none
def xFor (it : DI) (tg : Tgt) (s : DS) (b : DX) : DX := fun ρ M => match it ρ M with
  | some (xs, src, M1) => xForL (stand src M1) (forStep tg s) (xForStep tg b) xs ρ M1
  | none => none
end
end Rw
end PRwSemY
section PRwOkY
set_option linter.all false
set_option maxHeartbeats 1000000
namespace Rw
section
variable {ρ : DEnv} {M : DSt} {P : Dv × DSt → Prop}
@[simp ↓] theorem ok_chain3 {f g h : O2} {a b c d : DE} : Ok (eChain3 f g h a b c d ρ M) P ↔ Ok (a ρ M) fun p => Ok (b ρ p.2) fun q => Ok (f p.1 q.1 q.2) fun r => Ok (asB r.1) fun k => if k = true then Ok (c ρ r.2) fun s => Ok (g q.1 s.1 s.2) fun r2 => Ok (asB r2.1) fun k2 => if k2 = true then Ok (d ρ r2.2) fun t => Ok (h s.1 t.1 t.2) P else P (.d (.bl false), r2.2) else P (.d (.bl false), r.2) := by
  unfold eChain3
  cases a ρ M with
  | none => simp
  | some p =>
    obtain ⟨x, M1⟩ := p
    simp only [ok_some]
    cases b ρ M1 with
    | none => simp
    | some q =>
      obtain ⟨y, M2⟩ := q
      simp only [ok_some]
      cases f x y M2 with
      | none => simp
      | some r =>
        obtain ⟨v, M3⟩ := r
        simp only [ok_some]
        cases v with
        | d v =>
          cases v with
          | bl k =>
            cases k with
            | false => simp [asB]
            | true =>
              simp only [asB, ok_some, if_true]
              cases c ρ M3 with
              | none => simp
              | some s =>
                obtain ⟨z, M4⟩ := s
                simp only [ok_some]
                cases g y z M4 with
                | none => simp
                | some r2 =>
                  obtain ⟨v2, M5⟩ := r2
                  simp only [ok_some]
                  cases v2 with
                  | d v2 =>
                    cases v2 with
                    | bl k2 =>
                      cases k2 with
                      | false => simp [asB]
                      | true =>
                        simp only [asB, ok_some, if_true]
                        cases d ρ M5 <;> simp
                    | _ => simp [asB]
                  | _ => simp [asB]
          | _ => simp [asB]
        | _ => simp [asB]
end
end Rw
end PRwOkY
section PRwLink
set_option Elab.async false
set_option linter.all false
set_option maxRecDepth 100000
set_option maxHeartbeats 2000000
/-! RwLink: a chain of three comparisons; a loop whose body raises. -/
namespace Rw
open PySem L2 PySem.Spec PyProof.Rows
open Evl (Ex)
def tChain3 (r r' r'' : R2) (ta tb tc td : TE) : TE := fun σ H Q => ta σ H fun x H1 => tb σ H1 fun y H2 => r x y H2 fun z H3 => ∃ k, z = .bl k ∧
  (if k = true then tc σ H3 fun w H4 => r' y w H4 fun z2 H5 => ∃ k2, z2 = .bl k2 ∧ (if k2 = true then td σ H5 fun u H6 => r'' w u H6 Q else Q (.bl false) H5) else Q (.bl false) H3)
section
variable {X : Cx} {a b c d : Expr} {ta tb tc td : TE} {pos : Pos}
theorem pt_chain3 {op op' op'' : CmpOp} {r r' r'' : R2} (ho : OpR X (compareOp op) r) (ho' : OpR X (compareOp op') r') (ho'' : OpR X (compareOp op'') r'') (ha : PE X a ta) (hb : PE X b tb) (hc : PE X c tc) (hd : PE X d td)
    (hm : lastMarks [op, op', op''] [b, c, d] = false := by with_unfolding_all rfl) : PT X (.Compare a [op, op', op''] [b, c, d] pos) (tTest (tChain3 r r' r'' ta tb tc td)) := by
  refine ⟨fun pins s σ H Q I h => ?_⟩
  refine isTrue_chain (thn (ha.run pins s σ H _ I h) fun v s1 ⟨x, H1, I1, r1, q1⟩ => test_link (thn (hb.run pins s1 σ H1 _ I1 q1) fun u s2 ⟨y, H2, I2, r2, q2⟩ =>
    thn (ho pins s2 σ H2 x y v u _ I2 r1 r2 q2) fun d s3 ⟨z, H3, I3, r3, k, e, q3⟩ => ?_)) hm
  subst e
  cases r3
  refine wpAny_truthy_bool ?_
  cases k with
  | false =>
    obtain ⟨k', e', q'⟩ := q3
    cases e'
    exact ite_ff ⟨H3, I3, q'⟩
  | true =>
    refine ite_tt (test_link (thn (hc.run pins s3 σ H3 _ I3 q3) fun w' s4 ⟨z', H4, I4, r4, q4⟩ => thn (ho' pins s4 σ H4 y z' u w' _ I4 r2 r4 q4) fun d' s5 ⟨z2, H5, I5, r5, k2, e2, q5⟩ => ?_))
    subst e2
    cases r5
    refine wpAny_truthy_bool ?_
    cases k2 with
    | false =>
      obtain ⟨k', e', q'⟩ := q5
      cases e'
      exact ite_ff ⟨H5, I5, q'⟩
    | true =>
      refine ite_tt (test_last (thn (hd.run pins s5 σ H5 _ I5 q5) fun w'' s6 ⟨z'', H6, I6, r6, q6⟩ => thn (ho'' pins s6 σ H6 z' z'' w' w'' _ I6 r4 r6 q6) fun d'' s7 ⟨z3, H7, I7, r7, k3, e3, q7⟩ => ?_))
      subst e3
      cases r7
      exact wpAny_truthy_bool ⟨H7, I7, q7⟩
end
section
variable {K : PySem.W.Frag}
theorem sim_chain3 {r r' r'' : R2} {f g h' : O2} {ta tb tc td : TE} {a b c d : DE} (hr : SimR2 K r f) (hr' : SimR2 K r' g) (hr'' : SimR2 K r'' h') (ha : SimE K ta a) (hb : SimE K tb b) (hc : SimE K tc c) (hd : SimE K td d) : SimE K (tChain3 r r' r'' ta tb tc td) (eChain3 f g h' a b c d) := ⟨fun {F κ G σ ρ M H Q z M'} S E h k => by
  unfold eChain3 at h
  split at h
  · rename_i x M1 e
    split at h
    · rename_i y M2 e2
      refine ha.run S E e fun κ1 G1 u H1 l1 S1 r1 => hb.run S1 (E.mono l1) e2 fun κ2 G2 v H2 l2 S2 r2 => ?_
      split at h
      · rename_i M3 e3
        split at h
        · rename_i zz M4 e4
          refine hr S2 (r1.mono l2) r2 e3 fun κ3 G3 w H3 l3 S3 r3 => ⟨true, ?_, ?_⟩
          · cases r3; rfl
          · show (if true = true then _ else _)
            rw [if_pos rfl]
            have E3 := ((E.mono l1).mono l2).mono l3
            refine hc.run S3 E3 e4 fun κ4 G4 w4 H4 l4 S4 r4 => ?_
            split at h
            · rename_i M5 e5
              split at h
              · rename_i w6 M6 e6
                refine hr' S4 ((r2.mono l3).mono l4) r4 e5 fun κ5 G5 w5 H5 l5 S5 r5 => ⟨true, ?_, ?_⟩
                · cases r5; rfl
                · show (if true = true then _ else _)
                  rw [if_pos rfl]
                  exact hd.run S5 ((E3.mono l4).mono l5) e6 fun κ6 G6 w6 H6 l6 S6 r6 => hr'' S6 ((r4.mono l5).mono l6) r6 h (k.weak (((((l1.trans l2).trans l3).trans l4).trans l5).trans l6))
              · cases h
            · rename_i M5 e5
              cases h
              refine hr' S4 ((r2.mono l3).mono l4) r4 e5 fun κ5 G5 w5 H5 l5 S5 r5 => ⟨false, ?_, ?_⟩
              · cases r5; rfl
              · show (if false = true then _ else _)
                rw [if_neg Bool.false_ne_true]
                exact k κ5 G5 (.bl false) H5 ((((l1.trans l2).trans l3).trans l4).trans l5) S5 (Rv.bl false)
            · cases h
        · cases h
      · rename_i M3 e3
        cases h
        refine hr S2 (r1.mono l2) r2 e3 fun κ3 G3 w H3 l3 S3 r3 => ⟨false, ?_, ?_⟩
        · cases r3; rfl
        · show (if false = true then _ else _)
          rw [if_neg Bool.false_ne_true]
          exact k κ3 G3 (.bl false) H3 ((l1.trans l2).trans l3) S3 (Rv.bl false)
      · cases h
    · cases h
  · cases h⟩
end
section
variable {X : Cx} {a b c d : Expr} {da db dc dd : DE} {pos : Pos}
theorem t_chain3 {op op' op'' : CmpOp} {f g h : O2} (hc : CmpR X op f) (hc' : CmpR X op' g) (hc'' : CmpR X op'' h) (ha : PD X a da) (hb : PD X b db) (he : PD X c dc) (hd : PD X d dd) (hm : lastMarks [op, op', op''] [b, c, d] = false := by rfl) :
    PDT X (.Compare a [op, op', op''] [b, c, d] pos) (tVal (eChain3 f g h da db dc dd)) := by
  obtain ⟨r, h0, h9⟩ := hc.ex
  obtain ⟨r', h0', h9'⟩ := hc'.ex
  obtain ⟨r'', h0'', h9''⟩ := hc''.ex
  obtain ⟨t, h1, h2⟩ := ha.ex
  obtain ⟨u, h3, h4⟩ := hb.ex
  obtain ⟨v, h5, h6⟩ := he.ex
  obtain ⟨w, h7, h8⟩ := hd.ex
  exact ⟨_, pt_chain3 h0 h0' h0'' h1 h3 h5 h7 hm, sim_tTest (sim_chain3 h9 h9' h9'' h2 h4 h6 h8)⟩
end
section
variable {X : Cx} {W : WX} {s : DS} {x : DX} {pos : Pos}
/-- what is walked with numbers raises -/
theorem x_forE {a : Expr} {tgt : Tgt} {body : List Stmt} {elts : List Expr} {kk : Nat} {tpos p pos' : Pos} (hm : X.mg "enumerate" = none) (he : PEX X W a x) (hg : PDG X (.Tuple elts kk tpos) tgt) (hgl : Gl X "enumerate" := by rfl) (hse : starEach [a] X.env = [(false, eval a X.env)] := by rfl) (hp : PassesOwn (model X.prog X.w) X.A X.env X.xe := by exact PassesOwn.leaving) (hc : X.calm = true := by rfl) (hs : ∀ x, foldedSetIterable (.Call (.Name "enumerate" p) [a] [] pos') X.env x = pure x := by intro _; rfl) : PDX1 X W (.For (.Tuple elts kk tpos) (.Call (.Name "enumerate" p) [a] [] pos') body [] pos) x := ⟨fun D S E h k => by
  obtain ⟨t, ht, hw⟩ := he.ex
  obtain ⟨u, hu⟩ := pss_some (X := X) body
  exact ⟨_, ps_for hp hc (pi_enum hgl hm (pa_cons ht pa_nil hse) hse) hg.ex hu hs, hw _ S E h k⟩⟩
/-- a body that raises -/
theorem x_forB {tg iter : Expr} {tgt : Tgt} {it : DI} {body : List Stmt} (hi : PDI X tg iter it) (hg : PDG X tg tgt) (hb : PDB X body s) (hx : PDX X W body x) (hp : PassesOwn (model X.prog X.w) X.A X.env X.xe := by exact PassesOwn.leaving) (hc : X.calm = true := by rfl) (hs : ∀ x, foldedSetIterable iter X.env x = pure x := by intro _; rfl) : PDX1 X W (.For tg iter body [] pos) (xFor it tgt s x) := ⟨fun {F κ G σ ρ M H c ρ' M'} D S E h k => by
  obtain ⟨wi, a1, hi2⟩ := hi.ex
  obtain ⟨tb, c1, hs2⟩ := hb.ex
  refine ⟨_, ps_for hp hc a1 hg.ex (pss_any (ss := body)) hs, ?_⟩
  unfold xFor at h
  split at h
  · rename_i xs src M0 e
    refine hi2.run S E e fun κ1 G1 H1 J Gd Y l1 S1 W' hG hY => ?_
    refine for_it (g := tgt.tg X.K) (tb := fun D σ H => ∃ t, PSs X body t ∧ t D σ H) (D := D) W' (fun i σ H => ∃ κ2 G2 ρ2 M3, Le κ1 G1 κ2 G2 ∧ Sm X.K F κ2 G2 M3 H ∧ Se X.K κ2 G2 σ ρ2 ∧ i ≤ xs.length ∧ xForL (stand src M0) (forStep tgt s) (xForStep tgt x) (xs.drop i) ρ2 M3 = some (c, ρ', M')) ?_ ?_ ?_ ?_
    · exact ⟨κ1, G1, ρ, M0, Le.refl _ _, S1, E.mono l1, Nat.zero_le _, h⟩
    · rintro i σ H hi ⟨κ2, G2, ρ2, M3, l2, S2, E2, _, h2⟩
      refine hG F κ2 G2 M3 H l2 S2 ?_
      cases hx : xs.drop i with
      | nil => rw [hx] at h2; unfold xForL at h2; cases h2
      | cons y r => rw [hx] at h2; unfold xForL at h2; exact (grd_some h2).1
    · rintro i x' σ H H' hi ⟨κ2, G2, ρ2, M3, l2, S2, E2, _, h2⟩ hy
      have hx' : xs.drop i = xs[i] :: xs.drop (i + 1) := List.drop_eq_getElem_cons hi
      rw [hx'] at h2
      unfold xForL at h2
      obtain ⟨st, h2⟩ := grd_some h2
      obtain ⟨G3, d, x3, S3, ed, rd⟩ := hY i F κ2 G2 M3 H x' H' hi l2 S2 st hy
      have ed2 : xs[i] = d := by
        rw [List.getElem?_eq_getElem hi] at ed
        exact Option.some.inj ed
      rw [ed2] at h2
      have l3 : Le κ1 G1 κ2 G3 := l2.trans ⟨List.prefix_refl _, x3⟩
      cases ep : tgt.put (.d d) ρ2 with
      | none =>
        simp only [xForStep, forStep, ep] at h2
        cases h2
      | some ρ1 =>
        simp only [xForStep, forStep, ep] at h2
        refine put_ok S3 tgt (x := .d d) rd (E2.mono ⟨List.prefix_refl _, x3⟩) ep fun σ2 E3 _ => ?_
        cases eq : x ρ1 M3 with
        | some q =>
          simp only [eq] at h2
          cases h2
          exact hx.ex _ S3 E3 eq (k.weak (l1.trans l3))
        | none =>
          simp only [eq] at h2
          cases es : s ρ1 M3 with
          | none => simp only [es] at h2; cases h2
          | some q =>
            simp only [es] at h2
            refine ⟨tb, c1, hs2.run S3 E3 es ?_⟩
            cases q with
            | nx ρ4 M4 => exact fun κ' G' σ' H' l S' E' => ⟨κ', G', ρ4, M4, l3.trans l, S', E', by omega, h2⟩
            | ct ρ4 M4 => exact fun κ' G' σ' H' l S' E' => ⟨κ', G', ρ4, M4, l3.trans l, S', E', by omega, h2⟩
            | bk ρ4 M4 => cases h2
            | rt v M4 => cases h2
    · rintro σ H ⟨κ2, G2, ρ2, M3, l2, S2, E2, _, h2⟩
      rw [List.drop_length] at h2
      unfold xForL at h2
      cases h2
  · cases h⟩
end
end Rw
end PRwLink
section PRwSet
set_option Elab.async false
set_option linter.all false
set_option maxRecDepth 100000
set_option maxHeartbeats 2000000
/-! RwSet: len(set(xs)) of whole numbers. -/
namespace Rw
open PySem L2 PySem.Spec PyProof.Rows
open Evl (Ex)
theorem foldDup (ns : List Int) : firstMet (fun i => ns.getD i 0) ns.length = ns.foldl dupStep [] := by
  have e : (List.range ns.length).map (fun i => ns.getD i 0) = ns := by
    apply List.ext_getElem
    · simp
    · intro i h1 h2
      simp [List.getD_eq_getElem?_getD, List.getElem?_eq_getElem h2]
  unfold firstMet
  rw [e]
  rfl
def tLenSetG (K : PySem.W.Frag) (ta : TE) : TE := fun σ H Q => ta σ H fun x H1 => ∃ (l : Addr) (ns : List Int), x = .ref l ∧ SqL K H1 l (ns.map V.int) ∧ ns.length ≤ 4000 ∧ Q (.int (distZ ns : Nat)) H1
theorem pe_lenSetG {X : Cx} {a : Expr} {ta : TE} {p p2 q pos : Pos} (hg : Gl X "len") (hm : X.mg "len" = none) (hg2 : Gl X "set") (hm2 : X.mg "set" = none) (ha : PE X a ta) (hc : X.calm = true := by rfl)
    (na : starEach [a] X.env = (false, eval a X.env) :: starEach [] X.env := by rfl) : PE X (.Call (.Name "len" p) [.Call (.Name "set" p2) [a] [] q] [] pos) (tLenSetG X.K ta) := by
  refine ⟨fun pins s σ H Q I h => ?_⟩
  refine Call_ (ld_blt I hg hm boot_len ?_)
  refine PyProof.Rows.callWith_builtin1 (PyProof.Rows.args_cons ?_ rfl) rfl rfl
  refine Call_ (ld_blt I hg2 hm2 boot_set ?_)
  refine PyProof.Rows.callWith_type1 (PyProof.Rows.args_cons (thn (ha.run pins s σ H _ I h) fun v s1 ⟨x, H1, I1, r1, q1⟩ => PyProof.Rows.args_nil ?_) na) na rfl
  obtain ⟨l, ns, rfl, hq, hl, q1⟩ := q1
  cases r1
  obtain ⟨its, r, pl, hz⟩ := I1.list hq
  have hlen : its.toArray.size = ns.length := by rw [List.size_toArray, ← r.length, List.length_map]
  refine call_set_list (I1.ok.hd hc) pl.isList (by simpa using RZ.intsAre_vals r) (by rw [hlen]; unfold scanBound; omega) fun h' tk hS hk => ?_
  refine PyProof.Rows.args_nil ?_
  rw [hlen, foldDup] at hS
  obtain ⟨o, es, ep, t, ho, hex, hd, _, _, _, hf, hn⟩ := hS
  have I2 : Inv X pins σ H1 { s1 with heap := h', toks := tk } := I1.kept fun b o e => hk b o (Heap.lt_size e) e
  have hle := firstMet_length_le (fun i => ns.getD i 0) ns.length
  rw [foldDup] at hle
  exact call_len_set ho hex hd hf (by rw [hn] <;> omega) ⟨.int (distZ ns : Nat), H1, I2.tok _, ⟨_, by rw [hn]; rfl⟩, q1⟩
theorem sim_dist {K : PySem.W.Frag} {ta : TE} {a : DE} (ha : SimE K ta a) : SimE K (tLenSetG K ta) (e1 oDist a) := ⟨fun {F κ G σ ρ M H Q z M'} S E h k => by
  unfold e1 at h
  split at h
  · rename_i x M1 e
    unfold oDist at h
    split at h
    · rename_i xs ex
      split at h
      · rename_i ns en
        obtain ⟨hp, h⟩ := grd_some h
        cases h
        refine ha.run S E e fun κ1 G1 u H1 l1 S1 r1 => ?_
        obtain ⟨p, vs, rfl, hs, rr⟩ := lv_at S1 r1 ex
        rw [rr.ints_of en] at hs
        exact ⟨p, ns, rfl, hs, hp, (k.weak l1).here S1 (Rv.int _)⟩
      · cases h
    · cases h
  · cases h⟩
theorem d_dist {X : Cx} {a : Expr} {da : DE} {p p2 q pos : Pos} (hm : X.mg "len" = none) (hm2 : X.mg "set" = none) (ha : PD X a da) (hg : Gl X "len" := by rfl) (hg2 : Gl X "set" := by rfl) (hc : X.calm = true := by rfl)
    (na : starEach [a] X.env = (false, eval a X.env) :: starEach [] X.env := by rfl) : PD X (.Call (.Name "len" p) [.Call (.Name "set" p2) [a] [] q] [] pos) (e1 oDist da) := by
  obtain ⟨t, h1, h2⟩ := ha.ex
  exact ⟨_, pe_lenSetG hg hm hg2 hm2 h1 hc na, sim_dist h2⟩
end Rw
end PRwSet
section PRwDeep
set_option Elab.async false
set_option linter.all false
set_option maxRecDepth 100000
set_option maxHeartbeats 2000000
/-! RwDeep: x in xs, things of any depth. -/
namespace Rw
open PySem L2 PySem.Spec PyProof.Rows
open Evl (Ex)
theorem any_toPys {a : D} (ha : a.shp 8 = true) : ∀ {ys : List D}, ys.all (D.shp 8) = true → ((D.toPys ys).any fun z => PyData.eqv z a.toPy) = ys.any fun b => D.eqv b a
  | [], _ => rfl
  | y :: ys, h => by
    rw [List.all_cons, Bool.and_eq_true] at h
    show (PyData.eqv y.toPy a.toPy || (D.toPys ys).any _) = (D.eqv y a || ys.any _)
    rw [eqv_of 8 y a h.1 ha, any_toPys ha h.2]
section
variable {K : PySem.W.Frag}
theorem sr_inD : SimR2 K (rInD K) (oInD false) := fun {F κ G M H Q x y z M' u v} S rx ry h k => by
  unfold oInD at h
  split at h
  · rename_i a ys e1 e2
    obtain ⟨⟨h1, h2⟩, h⟩ := grd_some h
    cases h
    refine ⟨a.toPy, D.toPys ys, dp_dv S rx e1 (n := 7) h1, dp_dv S ry e2 (n := 8) h2, shaped_of h1 (by decide), shaped_of h2 (by decide), ?_⟩
    rw [any_toPys h1 h2]
    have := k.here S (Rv.bl (xor false (ys.any fun b => D.eqv b a)))
    simpa using this
  · cases h
theorem sr_notInD : SimR2 K (rNotInD K) (oInD true) := fun {F κ G M H Q x y z M' u v} S rx ry h k => by
  unfold oInD at h
  split at h
  · rename_i a ys e1 e2
    obtain ⟨⟨h1, h2⟩, h⟩ := grd_some h
    cases h
    refine ⟨a.toPy, D.toPys ys, dp_dv S rx e1 (n := 7) h1, dp_dv S ry e2 (n := 8) h2, shaped_of h1 (by decide), shaped_of h2 (by decide), ?_⟩
    rw [any_toPys h1 h2]
    have := k.here S (Rv.bl (xor true (ys.any fun b => D.eqv b a)))
    simpa using this
  · cases h
end
section
variable {X : Cx}
theorem k_inD {k : Nat} (hr : Room k X.A) : CmpR X .In (oInD false) := ⟨_, op_inD (by have := hr.un; omega), sr_inD⟩
theorem k_notinD {k : Nat} (hr : Room k X.A) : CmpR X .NotIn (oInD true) := ⟨_, op_notInD (by have := hr.un; omega), sr_notInD⟩
end
end Rw
end PRwDeep
section PRwSemZ
set_option autoImplicit false
set_option linter.all false
/-! RwSemZ: is of truths, the order of tuples of whole numbers. -/
namespace Rw
open PySem (Str)
noncomputable section
/-- x is b, truths -/
def oIsB : O2 := fun x y M => match x, y with
  | .d (.bl a), .d (.bl b) => some (.d (.bl (decide (a = b))), M)
  | _, _ => none
def oNotB : O2 := fun x y M => match x, y with
  | .d (.bl a), .d (.bl b) => some (.d (.bl (!decide (a = b))), M)
  | _, _ => none
def lexZ : List Int → List Int → Bool
  | [], [] => false
  | [], _ :: _ => true
  | _ :: _, [] => false
  | x :: xs, y :: ys => if x = y then lexZ xs ys else decide (x < y)
def oLtT : O2 := fun x y M => match x, y with
  | .d (.tup xs), .d (.tup ys) => match intsD xs, intsD ys with
    | some ns, some ms => some (.d (.bl (lexZ ns ms)), M)
    | _, _ => none
  | _, _ => none
def oGtT : O2 := fun x y M => match x, y with
  | .d (.tup xs), .d (.tup ys) => match intsD xs, intsD ys with
    | some ns, some ms => some (.d (.bl (lexZ ms ns)), M)
    | _, _ => none
  | _, _ => none
/-- the list in a slot is data from now on -/
def gFrz (i : Nat) : DS := fun ρ M => match ρ[i]? with
  | some (some (.c n)) => match (M[n]?).join with
    | some xs => some (.nx (ρ.set i (some (.d (.lst xs)))) (M.set n none))
    | none => none
  | _ => none
end
end Rw
end PRwSemZ
section PRwOkZ
set_option linter.all false
set_option maxHeartbeats 1000000
namespace Rw
section
variable {M : DSt} {P : Dv × DSt → Prop}
@[simp ↓] theorem ok_isB {a b : Bool} : Ok (oIsB (.d (.bl a)) (.d (.bl b)) M) P ↔ P (.d (.bl (decide (a = b))), M) := by simp [oIsB]
@[simp ↓] theorem ok_notB {a b : Bool} : Ok (oNotB (.d (.bl a)) (.d (.bl b)) M) P ↔ P (.d (.bl (!decide (a = b))), M) := by simp [oNotB]
/-- two places, in order -/
def pairLt (a b c d : Int) : Bool := if a = c then decide (b < d) else decide (a < c)
theorem lexZ2 (a b c d : Int) : lexZ [a, b] [c, d] = pairLt a b c d := by
  unfold pairLt
  by_cases h : a = c
  · by_cases h2 : b = d <;> simp [lexZ, h, h2]
  · simp [lexZ, h]
@[simp ↓] theorem ok_ltT {a b c d : Int} : Ok (oLtT (.d (.tup [.int a, .int b])) (.d (.tup [.int c, .int d])) M) P ↔ P (.d (.bl (pairLt a b c d)), M) := by simp [oLtT, intsD, lexZ2]
@[simp ↓] theorem ok_gtT {a b c d : Int} : Ok (oGtT (.d (.tup [.int a, .int b])) (.d (.tup [.int c, .int d])) M) P ↔ P (.d (.bl (pairLt c d a b)), M) := by simp [oGtT, intsD, lexZ2]
theorem ok_gFrz {i n : Nat} {ρ : DEnv} {M : DSt} {xs : List D} {P : Out → Prop} (h : ρ[i]? = some (some (.c n))) (hc : M[n]? = some (some xs)) : Ok (gFrz i ρ M) P ↔ P (.nx (ρ.set i (some (.d (.lst xs)))) (M.set n none)) := by
  simp [gFrz, h, hc]
end
end Rw
end PRwOkZ
section PRwMisc
set_option Elab.async false
set_option linter.all false
set_option maxRecDepth 100000
set_option maxHeartbeats 2000000
/-! RwMisc: is of truths, the order of tuples of whole numbers. -/
namespace Rw
open PySem L2 PySem.Spec PyProof.Rows
open Evl (Ex)
theorem lexZ_eq : ∀ (ns ms : List Int), HT.lexLt ns ms = lexZ ns ms
  | [], [] => rfl
  | [], _ :: _ => rfl
  | _ :: _, [] => rfl
  | x :: xs, y :: ys => by
    rw [HT.lexLt_cons, lexZ, lexZ_eq xs ys]
theorem lexAt_shift {e r : Nat → Bool} {z : Bool} : ∀ (k i : Nat), Ob.lexAt e r z (i + 1) k = Ob.lexAt (fun j => e (j + 1)) (fun j => r (j + 1)) z i k
  | 0, _ => rfl
  | k + 1, i => by
    rw [Ob.lexAt_succ, Ob.lexAt_succ, lexAt_shift k (i + 1)]
theorem lexAt_gt : ∀ (ns ms : List Int), Ob.lexAt (fun j => decide (ns.getD j 0 = ms.getD j 0)) (fun j => decide (ms.getD j 0 < ns.getD j 0)) (decide (ns.length > ms.length)) 0 (min ns.length ms.length) = lexZ ms ns
  | [], [] => rfl
  | [], y :: ys => by simp [Ob.lexAt, lexZ]
  | x :: xs, [] => by simp [Ob.lexAt, lexZ]
  | x :: xs, y :: ys => by
    have ih := lexAt_gt xs ys
    rw [show min (x :: xs).length (y :: ys).length = min xs.length ys.length + 1 by simp, Ob.lexAt_succ, lexAt_shift]
    have hz : (decide ((x :: xs).length > (y :: ys).length)) = decide (xs.length > ys.length) := by simp
    rw [hz]
    simp only [List.getD_cons_zero, List.getD_cons_succ, decide_eq_true_eq]
    rw [ih, lexZ]
    by_cases h : x = y
    · simp [h]
    · have h2 : ¬ y = x := fun z => h z.symm
      simp [h, h2]
def rGtT (K : PySem.W.Frag) : R2 := fun x y H Q => ∃ (a b : Addr) (ns ms : List Int), x = .ref a ∧ y = .ref b ∧ SqT K H a (ns.map V.int) ∧ SqT K H b (ms.map V.int) ∧ Q (.bl (lexZ ms ns)) H
theorem op_gtT {X : Cx} (hu : X.A.units < cLine) : OpR X (compareOp .Gt) (rGtT X.K) := by
  rintro pins s σ H x y v u Q I rx ry ⟨a, b, ns, ms, rfl, rfl, ha, hb, q⟩
  cases rx; cases ry
  obtain ⟨us, r1, p1, _⟩ := I.tuple ha
  obtain ⟨ws, r2, p2, _⟩ := I.tuple hb
  have i1 : IntsAre us ns := Vals.ints r1
  have i2 : IntsAre ws ms := Vals.ints r2
  have n1 : us.toArray.size = ns.length := by rw [List.size_toArray, i1.length]
  have n2 : ws.toArray.size = ms.length := by rw [List.size_toArray, i2.length]
  have g1 : ∀ j (h : j < us.toArray.size), ∃ t, us.toArray[j] = .int (ns.getD j 0) t := fun j h => IntsAre.int_at i1 _ _ (by simp at h; simp [h])
  have g2 : ∀ j (h : j < ws.toArray.size), ∃ t, ws.toArray[j] = .int (ms.getD j 0) t := fun j h => IntsAre.int_at i2 _ _ (by simp at h; simp [h])
  have R := Ob.RcOp.tuples_gt (A := X.A) (s := s) (e := fun j => decide (ns.getD j 0 = ms.getD j 0)) (r := fun j => decide (ms.getD j 0 < ns.getD j 0)) p1 p2 hu
    (fun j h1 h2 => by
      obtain ⟨t, et⟩ := g1 j h1
      obtain ⟨t', et'⟩ := g2 j h2
      have z : decide (ns.getD j 0 = ms.getD j 0) = (ns.getD j 0 == ms.getD j 0) := by rw [Bool.beq_eq_decide_eq]
      rw [et, et']
      show SeqAt.EqAt _ _ _ _ (decide (ns.getD j 0 = ms.getD j 0))
      rw [z]
      exact SeqAt.EqAt.int_int _ _ _ _)
    (fun j h1 h2 _ => by
      obtain ⟨t, et⟩ := g1 j h1
      obtain ⟨t', et'⟩ := g2 j h2
      rw [et, et']
      exact Ob.RcOp.gt_int _ _ _ _)
  rw [n1, n2, lexAt_gt] at R
  exact R X.prog X.w X.xe (EP X pins σ Q) ⟨.bl _, H, I, rfl, q⟩
section
variable {K : PySem.W.Frag}
theorem sr_isB : SimR2 K (fun x y H Q => ∃ a b, x = .bl a ∧ y = .bl b ∧ Q (.bl (decide (a = b))) H) oIsB := fun {F κ G M H Q x y z M' u v} S rx ry h k => by
  unfold oIsB at h
  split at h
  · cases h
    exact ⟨_, _, rx_bl rx, rx_bl ry, k.here S (Rv.bl _)⟩
  · cases h
theorem sr_notB : SimR2 K (fun x y H Q => ∃ a b, x = .bl a ∧ y = .bl b ∧ Q (.bl (!decide (a = b))) H) oNotB := fun {F κ G M H Q x y z M' u v} S rx ry h k => by
  unfold oNotB at h
  split at h
  · cases h
    exact ⟨_, _, rx_bl rx, rx_bl ry, k.here S (Rv.bl _)⟩
  · cases h
theorem sr_ltT : SimR2 K (rLtT K) oLtT := fun {F κ G M H Q x y z M' u v} S rx ry h k => by
  unfold oLtT at h
  split at h
  · rename_i xs ys
    split at h
    · rename_i ns ms e1 e2
      cases h
      cases rx with
      | tup sx vx =>
        cases ry with
        | tup sy vy =>
          have q1 := Rvs.ints_of vx e1
          have q2 := Rvs.ints_of vy e2
          subst q1
          subst q2
          refine ⟨_, _, ns, ms, rfl, rfl, Evl.ex_t S.ex sx, Evl.ex_t S.ex sy, ?_⟩
          rw [lexZ_eq]
          exact k.here S (Rv.bl _)
    · cases h
  · cases h
theorem sr_gtT : SimR2 K (rGtT K) oGtT := fun {F κ G M H Q x y z M' u v} S rx ry h k => by
  unfold oGtT at h
  split at h
  · rename_i xs ys
    split at h
    · rename_i ns ms e1 e2
      cases h
      cases rx with
      | tup sx vx =>
        cases ry with
        | tup sy vy =>
          have q1 := Rvs.ints_of vx e1
          have q2 := Rvs.ints_of vy e2
          subst q1
          subst q2
          exact ⟨_, _, ns, ms, rfl, rfl, Evl.ex_t S.ex sx, Evl.ex_t S.ex sy, k.here S (Rv.bl _)⟩
    · cases h
  · cases h
end
section
variable {X : Cx}
theorem k_isB : CmpR X .Is oIsB := ⟨_, op_is_bl, sr_isB⟩
theorem k_notB : CmpR X .IsNot oNotB := ⟨_, op_isnot_bl, sr_notB⟩
theorem k_ltT {k : Nat} (hr : Room k X.A) : CmpR X .Lt oLtT := ⟨_, op_ltT (Nat.lt_of_le_of_lt (Nat.le_add_right _ 64) hr.units), sr_ltT⟩
theorem k_gtT {k : Nat} (hr : Room k X.A) : CmpR X .Gt oGtT := ⟨_, op_gtT (Nat.lt_of_le_of_lt (Nat.le_add_right _ 64) hr.units), sr_gtT⟩
end
theorem ss_frz {K : PySem.W.Frag} {t : TS} {s : DS} {i : Nat} (h : SimS K t s) : SimS K t (dSeq (gFrz i) s) := ⟨fun {F κ G σ ρ M H D o} S E e k => by
  unfold dSeq gFrz at e
  cases e1 : ρ[i]? with
  | none => simp only [e1] at e; cases e
  | some x =>
    cases x with
    | none => simp only [e1] at e; cases e
    | some v =>
      cases v with
      | d y => simp only [e1] at e; cases e
      | r y => simp only [e1] at e; cases e
      | c n =>
        simp only [e1] at e
        cases e2 : (M[n]?).join with
        | none => simp only [e2] at e; cases e
        | some xs =>
          simp only [e2] at e
          obtain ⟨v, hv, a, rfl, ha⟩ := E.at_ i _ e1
          obtain ⟨G', x1, S', r⟩ := S.freeze e2 ha
          have l : Le κ G κ G' := ⟨List.prefix_refl _, x1⟩
          have E2 : Se K κ G' σ (ρ.set i (some (.d (.lst xs)))) := by
            refine ⟨by simp [E.len], fun j y ey => ?_⟩
            by_cases hj : i = j
            · subst hj
              rw [List.getElem?_set_self (List.getElem?_eq_some_iff.mp e1).1] at ey
              cases ey
              exact ⟨_, hv, r⟩
            · rw [List.getElem?_set_ne hj] at ey
              exact (E.mono l).at_ j y ey
          exact h.run S' E2 e (k.weak l)⟩
theorem b_frz {X : Cx} {ss : List Stmt} {d : DS} (i : Nat) (h : PDB X ss d) : PDB X ss (dSeq (gFrz i) d) := by
  obtain ⟨t, h1, h2⟩ := h.ex
  exact ⟨t, h1, ss_frz h2⟩
end Rw
end PRwMisc
section PRwW
set_option autoImplicit false
set_option linter.all false
/-! RwW: the deep reading: lists whose items are lists that may change, tuples of such. -/
namespace Rw
open PySem (Str)
noncomputable section
/-- a value: one of the flat reading, a deep list (a cell whose items stand in N), a tuple with such things in it -/
inductive Wv where
  | v (x : Dv) | l (n : Nat) | t (vs : List Wv)
abbrev WEnv := List (Option Wv)
structure WSt where
  M : DSt
  N : Nat → Option (List Wv)
abbrev WE := WEnv → WSt → Option (Wv × WSt)
abbrev WT := WEnv → WSt → Option (Bool × WSt)
abbrev WA := WEnv → WSt → Option (List Wv × WSt)
abbrev WF := List Wv → WSt → Option (Wv × WSt)
inductive WOut where
  | nx (ρ : WEnv) (S : WSt) | rt (v : Wv) (S : WSt) | bk (ρ : WEnv) (S : WSt) | ct (ρ : WEnv) (S : WSt)
abbrev WS := WEnv → WSt → Option WOut
def upN (N : Nat → Option (List Wv)) (n : Nat) (ws : List Wv) : Nat → Option (List Wv) := fun m => if m = n then some ws else N m
def Wv.fl : Wv → Option Dv
  | .v x => some x
  | _ => none
def flE (ρ : WEnv) : DEnv := ρ.map fun o => o.bind Wv.fl
/-- a flat expression -/
def wE (e : DE) : WE := fun ρ S => match e (flE ρ) S.M with
  | some (x, M') => some (.v x, ⟨M', S.N⟩)
  | none => none
def wT (t : DT) : WT := fun ρ S => match t (flE ρ) S.M with
  | some (b, M') => some (b, ⟨M', S.N⟩)
  | none => none
def wVar (i : Nat) : WE := fun ρ S => match ρ[i]? with
  | some (some x) => some (x, S)
  | _ => none
def wNil : WA := fun _ S => some ([], S)
def wCons (a : WE) (as : WA) : WA := fun ρ S => match a ρ S with
  | some (x, S1) => match as ρ S1 with
    | some (xs, S2) => some (x :: xs, S2)
    | none => none
  | none => none
/-- data alone -/
def allW : List Wv → Option (List D)
  | [] => some []
  | .v (.d x) :: r => (allW r).map (x :: ·)
  | _ :: _ => none
def mkT (ws : List Wv) : Wv := match allW ws with
  | some xs => .v (.d (.tup xs))
  | none => .t ws
def wTup (as : WA) : WE := fun ρ S => match as ρ S with
  | some (ws, S1) => grd (ws.length ≤ big) (some (mkT ws, S1))
  | none => none
/-- a new deep list -/
def newL (ws : List Wv) (S : WSt) : Wv × WSt := (.l S.M.length, ⟨S.M ++ [none], upN S.N S.M.length ws⟩)
def wLst (as : WA) : WE := fun ρ S => match as ρ S with
  | some (ws, S1) => grd (ws.length ≤ big) (some (newL ws S1))
  | none => none
/-- the items of a deep list or tuple -/
def itemsW (S : WSt) : Wv → Option (List Wv)
  | .l n => S.N n
  | .t ws => some ws
  | _ => none
def wIx (a : WE) (i : DE) : WE := fun ρ S => match a ρ S with
  | some (x, S1) => match wE i ρ S1 with
    | some (.v (.d (.int k)), S2) => match itemsW S2 x with
      | some ws => match ixD ws.length k with
        | some j => match ws[j]? with
          | some z => some (z, S2)
          | none => none
        | none => none
      | none => none
    | _ => none
  | none => none
/-- xs.append(e) -/
def wAppend (o e : WE) : WE := fun ρ S => match o ρ S with
  | some (.l n, S1) => match e ρ S1 with
    | some (x, S2) => match S2.N n with
      | some ws => grd (ws.length < big) (some (.v (.d .non), ⟨S2.M, upN S2.N n (ws ++ [x])⟩))
      | none => none
    | none => none
  | _ => none
def wClear (o : WE) : WE := fun ρ S => match o ρ S with
  | some (.l n, S1) => match S1.N n with
    | some _ => some (.v (.d .non), ⟨S1.M, upN S1.N n []⟩)
    | none => none
  | _ => none
def wLen (o : WE) : WE := fun ρ S => match o ρ S with
  | some (x, S1) => match itemsW S1 x with
    | some ws => some (.v (.d (.int ws.length)), S1)
    | none => none
  | none => none
def isNonW : Wv → Bool
  | .v (.d .non) => true
  | _ => false
def wIsN (neg : Bool) (o : WE) : WE := fun ρ S => match o ρ S with
  | some (x, S1) => some (.v (.d (.bl (xor neg (isNonW x)))), S1)
  | none => none
def wTest (a : WE) : WT := fun ρ S => match a ρ S with
  | some (.v (.d (.bl b)), S1) => some (b, S1)
  | _ => none
def wAnd (a b : WT) : WT := fun ρ S => match a ρ S with
  | some (true, S1) => b ρ S1
  | some (false, S1) => some (false, S1)
  | none => none
def wOr (a b : WT) : WT := fun ρ S => match a ρ S with
  | some (true, S1) => some (true, S1)
  | some (false, S1) => b ρ S1
  | none => none
def wNot (a : WT) : WT := fun ρ S => match a ρ S with
  | some (b, S1) => some (!b, S1)
  | none => none
def wCall (f : WF) (as : WA) : WE := fun ρ S => match as ρ S with
  | some (ws, S1) => f ws S1
  | none => none
/-! ### flat operators -/
def allF : List Wv → Option (List Dv)
  | [] => some []
  | .v x :: r => (allF r).map (x :: ·)
  | _ :: _ => none
def w1 (f : O1) (a : WE) : WE := fun ρ S => match a ρ S with
  | some (.v x, S1) => match f x S1.M with
    | some (z, M2) => some (.v z, ⟨M2, S1.N⟩)
    | none => none
  | _ => none
def w2 (f : O2) (a b : WE) : WE := fun ρ S => match a ρ S with
  | some (.v x, S1) => match b ρ S1 with
    | some (.v y, S2) => match f x y S2.M with
      | some (z, M3) => some (.v z, ⟨M3, S2.N⟩)
      | none => none
    | _ => none
  | _ => none
def wOp (f : OA) (as : WA) : WE := fun ρ S => match as ρ S with
  | some (ws, S1) => match allF ws with
    | some xs => match f xs S1.M with
      | some (z, M2) => some (.v z, ⟨M2, S1.N⟩)
      | none => none
    | none => none
  | none => none
/-- a method of a flat cell -/
def wM (f : Dv → List Dv → DSt → Option (Dv × DSt)) (o : WE) (as : WA) : WE := fun ρ S => match o ρ S with
  | some (.v x, S1) => match as ρ S1 with
    | some (ws, S2) => match allF ws with
      | some xs => match f x xs S2.M with
        | some (z, M3) => some (.v z, ⟨M3, S2.N⟩)
        | none => none
      | none => none
    | none => none
  | _ => none
/-- a list of data: a flat cell, or data -/
def wLstC (c : Bool) (as : WA) : WE := wOp (fun vs M => match allD vs with
  | some xs => grd (xs.length ≤ big) (mkL c xs M)
  | none => none) as
/-- a call of a flat def -/
def wCallD (f : DF) (as : WA) : WE := wOp f as
/-! ### as data -/
def rsL (f : Wv → Option D) : List Wv → Option (List D)
  | [] => some []
  | w :: r => match f w, rsL f r with
    | some x, some xs => some (x :: xs)
    | _, _ => none
/-- cells from b on alone -/
def rs (b : Nat) : Nat → WSt → Wv → Option D
  | _, _, .v (.d x) => some x
  | _, S, .v (.c n) => if b ≤ n then ((S.M[n]?).join).map D.lst else none
  | _, _, .v (.r _) => none
  | 0, _, _ => none
  | k + 1, S, .l n => if b ≤ n then match S.N n with
    | some ws => (rsL (rs b k S) ws).map D.lst
    | none => none
    else none
  | k + 1, S, .t ws => (rsL (rs b k S) ws).map D.tup
/-- what was just made is data from now on -/
def wFrz (a : WE) : WE := fun ρ S => match a ρ S with
  | some (w, S1) => match rs S.M.length 5 S1 w with
    | some x => grd (∀ n, n < S.M.length → S1.N n = S.N n) (some (.v (.d x), ⟨S1.M.take S.M.length, fun n => if n < S.M.length then S1.N n else none⟩))
    | none => none
  | none => none
/-- all slots as data -/
def rsE (S : WSt) (ρ : WEnv) : DEnv := ρ.map fun o => o.bind fun w => (rs 0 5 S w).map Dv.d
def deadM (M : DSt) : DSt := M.map fun _ => none
/-- read as if nothing could change: the answer is flat, all stays -/
def wBor (e : DE) : WE := fun ρ S => match e (rsE S ρ) (deadM S.M) with
  | some (.d x, _) => grd (x.flat = true) (some (.v (.d x), S))
  | _ => none
def wBorT (t : DT) : WT := fun ρ S => match t (rsE S ρ) (deadM S.M) with
  | some (b, _) => some (b, S)
  | none => none
/-! ### targets -/
mutual
def Tgt.putW : Tgt → Wv → WEnv → Option WEnv
  | .name i, w, ρ => some (ρ.set i (some w))
  | .tup ts, .v (.d (.tup xs)), ρ => if xs.length = ts.length then Tgt.putsW ts (xs.map fun x => .v (.d x)) ρ else none
  | .tup ts, .v (.d (.lst xs)), ρ => if xs.length = ts.length then Tgt.putsW ts (xs.map fun x => .v (.d x)) ρ else none
  | .tup ts, .t ws, ρ => if ws.length = ts.length then Tgt.putsW ts ws ρ else none
  | .tup _, _, _ => none
def Tgt.putsW : List Tgt → List Wv → WEnv → Option WEnv
  | [], [], ρ => some ρ
  | t :: ts, w :: ws, ρ => match t.putW w ρ with
    | some ρ1 => Tgt.putsW ts ws ρ1
    | none => none
  | _, _, _ => none
end
def wipeW (ρ : WEnv) : List Nat → WEnv
  | [] => ρ
  | v :: vs => (wipeW ρ vs).set v none
/-! ### comprehensions -/
def compW {α : Type} (chk : WSt → Prop) (step : α → WSt → Option (Option Wv × WSt)) : List α → WSt → Option (List Wv × WSt)
  | [], S => grd (chk S) (some ([], S))
  | x :: xs, S => grd (chk S) (match step x S with
    | some (o, S1) => match compW chk step xs S1 with
      | some (ys, S2) => match o with
        | some y => some (y :: ys, S2)
        | none => some (ys, S2)
      | none => none
    | none => none)
def cstepW (tg : Tgt) (t : WT) (el : WE) (ρ : WEnv) (x : D) (S : WSt) : Option (Option Wv × WSt) :=
  match tg.putW (.v (.d x)) ρ with
    | some ρ1 => match t ρ1 S with
      | some (true, S1) => match el ρ1 S1 with
        | some (w, S2) => some (some w, S2)
        | none => none
      | some (false, S1) => some (none, S1)
      | none => none
    | none => none
def wYes : WT := fun _ S => some (true, S)
def wComp (it : DI) (tg : Tgt) (t : WT) (el : WE) (own : List Nat) : WE := fun ρ S => match it (flE ρ) S.M with
  | some (xs, src, M1) => grd (xs.length ≤ big) (match compW (fun S' => stand src M1 S'.M) (cstepW tg t el (wipeW ρ own)) xs ⟨M1, S.N⟩ with
    | some (ws, S2) => some (newL ws S2)
    | none => none)
  | none => none
/-! ### statements -/
def sPass : WS := fun ρ S => some (.nx ρ S)
def sSeq (s t : WS) : WS := fun ρ S => match s ρ S with
  | some (.nx ρ1 S1) => t ρ1 S1
  | o => o
def sAsg (tg : Tgt) (a : WE) : WS := fun ρ S => match a ρ S with
  | some (w, S1) => match tg.putW w ρ with
    | some ρ1 => some (.nx ρ1 S1)
    | none => none
  | none => none
def sPar (i j : Nat) (a b : WE) : WS := fun ρ S => match a ρ S with
  | some (x, S1) => match b ρ S1 with
    | some (y, S2) => some (.nx ((ρ.set i (some x)).set j (some y)) S2)
    | none => none
  | none => none
def sAug (i : Nat) (f : O2) (a : WE) : WS := fun ρ S => match ρ[i]? with
  | some (some (.v x)) => match a ρ S with
    | some (.v y, S1) => match f x y S1.M with
      | some (z, M2) => some (.nx (ρ.set i (some (.v z))) ⟨M2, S1.N⟩)
      | none => none
    | _ => none
  | _ => none
/-- o[i] = e: a flat cell, or a deep list -/
def sPut (o : WE) (i : DE) (e : WE) : WS := fun ρ S => match e ρ S with
  | some (w, S1) => match o ρ S1 with
    | some (x, S2) => match wE i ρ S2 with
      | some (.v (.d (.int k)), S3) => match x with
        | .v (.c n) => match w with
          | .v (.d y) => match (S3.M[n]?).join with
            | some xs => match ixD xs.length k with
              | some j => some (.nx ρ ⟨setC S3.M n (xs.set j y), S3.N⟩)
              | none => none
            | none => none
          | _ => none
        | .l n => match S3.N n with
          | some ws => match ixD ws.length k with
            | some j => some (.nx ρ ⟨S3.M, upN S3.N n (ws.set j w)⟩)
            | none => none
          | none => none
        | _ => none
      | _ => none
    | none => none
  | none => none
/-- o[i] op= e, o a flat cell -/
def sAugS (f : O2) (o : WE) (i : DE) (e : WE) : WS := fun ρ S => match o ρ S with
  | some (.v (.c n), S1) => match wE i ρ S1 with
    | some (.v (.d (.int k)), S2) => match (S2.M[n]?).join with
      | some xs => match ixD xs.length k with
        | some j => match xs[j]? with
          | some x => match e ρ S2 with
            | some (.v y, S3) => match f (.d x) y S3.M with
              | some (.d z, M4) => match (M4[n]?).join with
                | some ys => if ys.length = xs.length then some (.nx ρ ⟨setC M4 n (ys.set j z), S3.N⟩) else none
                | none => none
              | _ => none
            | _ => none
          | none => none
        | none => none
      | none => none
    | _ => none
  | _ => none
def sExpr (a : WE) : WS := fun ρ S => match a ρ S with
  | some (_, S1) => some (.nx ρ S1)
  | none => none
def sRet (a : WE) : WS := fun ρ S => match a ρ S with
  | some (w, S1) => some (.rt w S1)
  | none => none
def sIf (t : WT) (a b : WS) : WS := fun ρ S => match t ρ S with
  | some (true, S1) => a ρ S1
  | some (false, S1) => b ρ S1
  | none => none
def sBreak : WS := fun ρ S => some (.bk ρ S)
def sCont : WS := fun ρ S => some (.ct ρ S)
def sNever : WS := fun _ _ => none
def wipeWO (vs : List Nat) : WOut → WOut
  | .nx ρ S => .nx (wipeW ρ vs) S
  | .bk ρ S => .bk (wipeW ρ vs) S
  | .ct ρ S => .ct (wipeW ρ vs) S
  | .rt v S => .rt v S
def sWipe (vs : List Nat) (s : WS) : WS := fun ρ S => match s ρ S with
  | some o => some (wipeWO vs o)
  | none => none
def sPre (vs : List Nat) (s : WS) : WS := fun ρ S => s (wipeW ρ vs) S
def forW {α : Type} (chk : WSt → Prop) (step : α → WEnv → WSt → Option WOut) : List α → WEnv → WSt → Option WOut
  | [], ρ, S => grd (chk S) (some (.nx ρ S))
  | x :: xs, ρ, S => grd (chk S) (match step x ρ S with
    | some (.nx ρ1 S1) => forW chk step xs ρ1 S1
    | some (.ct ρ1 S1) => forW chk step xs ρ1 S1
    | some (.bk ρ1 S1) => some (.nx ρ1 S1)
    | some (.rt v S1) => some (.rt v S1)
    | none => none)
def stepW (tg : Tgt) (s : WS) (w : Wv) (ρ : WEnv) (S : WSt) : Option WOut := match tg.putW w ρ with
  | some ρ1 => s ρ1 S
  | none => none
/-- a loop over flat things -/
def sFor (it : DI) (tg : Tgt) (s : WS) : WS := fun ρ S => match it (flE ρ) S.M with
  | some (xs, src, M1) => forW (fun S' => stand src M1 S'.M) (fun x => stepW tg s (.v (.d x))) xs ρ ⟨M1, S.N⟩
  | none => none
/-- a loop over a deep list, which stays as long -/
def sForL (a : WE) (tg : Tgt) (s : WS) : WS := fun ρ S => match a ρ S with
  | some (.l n, S1) => match S1.N n with
    | some ws => forW (fun S' => S'.N n = some ws) (stepW tg s) ws ρ S1
    | none => none
  | _ => none
def whileW (t : WT) (s : WS) : Nat → WEnv → WSt → Option WOut
  | 0, _, _ => none
  | n + 1, ρ, S => match t ρ S with
    | some (true, S1) => match s ρ S1 with
      | some (.nx ρ1 S2) => whileW t s n ρ1 S2
      | some (.ct ρ1 S2) => whileW t s n ρ1 S2
      | some (.bk ρ1 S2) => some (.nx ρ1 S2)
      | some (.rt v S2) => some (.rt v S2)
      | none => none
    | some (false, S1) => some (.nx ρ S1)
    | none => none
open Classical in
def sWhile (t : WT) (s : WS) : WS := fun ρ S => if h : ∃ o n, whileW t s n ρ S = some o then some h.choose else none
theorem whileW_mono {t : WT} {s : WS} : ∀ {n : Nat} {ρ : WEnv} {S : WSt} {o : WOut}, whileW t s n ρ S = some o → whileW t s (n + 1) ρ S = some o
  | 0, _, _, _, h => by cases h
  | n + 1, ρ, S, o, h => by
    unfold whileW at h ⊢
    cases e : t ρ S with
    | none => simp only [e] at h; cases h
    | some p =>
      obtain ⟨b, M1⟩ := p
      simp only [e] at h ⊢
      cases b with
      | false => exact h
      | true =>
        simp only at h ⊢
        cases e2 : s ρ M1 with
        | none => simp only [e2] at h; cases h
        | some q =>
          simp only [e2] at h ⊢
          cases q with
          | nx ρ1 M2 => exact whileW_mono h
          | ct ρ1 M2 => exact whileW_mono h
          | bk ρ1 M2 => exact h
          | rt v M2 => exact h
theorem whileW_le {t : WT} {s : WS} {n m : Nat} {ρ : WEnv} {S : WSt} {o : WOut} (h : whileW t s n ρ S = some o) (l : n ≤ m) : whileW t s m ρ S = some o := by
  induction l with
  | refl => exact h
  | step _ ih => exact whileW_mono ih
theorem sWhile_of {t : WT} {s : WS} {n : Nat} {ρ : WEnv} {S : WSt} {o : WOut} (h : whileW t s n ρ S = some o) : sWhile t s ρ S = some o := by
  have hx : ∃ o n, whileW t s n ρ S = some o := ⟨o, n, h⟩
  unfold sWhile
  rw [dif_pos hx]
  obtain ⟨m, hm⟩ := hx.choose_spec
  have a := whileW_le hm (Nat.le_max_left m n)
  have b := whileW_le h (Nat.le_max_right m n)
  rw [a] at b
  exact b
theorem sWhile_some {t : WT} {s : WS} {ρ : WEnv} {S : WSt} {o : WOut} (h : sWhile t s ρ S = some o) : ∃ n, whileW t s n ρ S = some o := by
  unfold sWhile at h
  split at h
  · rename_i hx
    cases h
    exact hx.choose_spec
  · cases h
/-! ### defs -/
def startW (n : Nat) (as : List Wv) : WEnv := as.map some ++ List.replicate (n - as.length) none
/-- a def of the deep reading: all that it made stays -/
def fnW (n : Nat) (s : WS) : WF := fun as S => match s (startW n as) S with
  | some (.rt v S1) => some (v, S1)
  | some (.nx _ S1) => some (.v (.d .non), S1)
  | _ => none
/-- a def of the flat reading with a deep body: what it hands back is data -/
def fnF (n : Nat) (s : WS) : DF := fun as M => match s (startW n (as.map Wv.v)) ⟨M, fun _ => none⟩ with
  | some (.rt w S1) => match rs M.length 5 S1 w with
    | some x => some (.d x, S1.M.take M.length)
    | none => none
  | some (.nx _ S1) => some (.d .non, S1.M.take M.length)
  | _ => none
end
end Rw
end PRwW
section PRwWOk
set_option autoImplicit false
set_option linter.all false
set_option maxRecDepth 100000
set_option maxHeartbeats 1000000
/-! RwWOk: what a deep reading comes to. -/
namespace Rw
def getW : WEnv → Nat → Option Wv
  | [], _ => none
  | x :: _, 0 => x
  | _ :: r, i + 1 => getW r i
theorem getW_eq : ∀ (ρ : WEnv) (i : Nat), getW ρ i = (ρ[i]?).join
  | [], _ => by simp [getW]
  | x :: r, 0 => by simp [getW]
  | x :: r, i + 1 => by simp [getW, getW_eq r i]
def asV : Wv → Option Dv
  | .v x => some x
  | _ => none
def asL : Wv → Option Nat
  | .l n => some n
  | _ => none
def atW (ws : List Wv) (i : Int) : Option Wv := match ixD ws.length i with
  | some k => ws[k]?
  | none => none
section
variable {x : Wv} {y : Option Wv} {r : WEnv} {i : Nat} {P : Wv → Prop}
@[simp ↓] theorem ok_getW0 : Ok (getW (some x :: r) 0) P ↔ P x := by simp [getW]
@[simp ↓] theorem ok_getW0n : Ok (getW (none :: r) 0) P ↔ False := by simp [getW]
@[simp ↓] theorem ok_getWs : Ok (getW (y :: r) (i + 1)) P ↔ Ok (getW r i) P := by simp [getW]
@[simp ↓] theorem ok_asV {b : Dv} {P : Dv → Prop} : Ok (asV (.v b)) P ↔ P b := by simp [asV]
@[simp ↓] theorem ok_asL {b : Nat} {P : Nat → Prop} : Ok (asL (.l b)) P ↔ P b := by simp [asL]
@[simp ↓] theorem ok_atW0 {ws : List Wv} : Ok (atW (x :: ws) 0) P ↔ P x := by simp [atW]
@[simp ↓] theorem ok_atW1 {z : Wv} {ws : List Wv} : Ok (atW (x :: z :: ws) 1) P ↔ P z := by simp [atW]
@[simp] theorem flE_nil : flE [] = [] := rfl
@[simp] theorem flE_v {d : Dv} : flE (some (.v d) :: r) = some d :: flE r := rfl
@[simp] theorem flE_l {n : Nat} : flE (some (.l n) :: r) = none :: flE r := rfl
@[simp] theorem flE_t {ws : List Wv} : flE (some (.t ws) :: r) = none :: flE r := rfl
@[simp] theorem flE_n : flE (none :: r) = none :: flE r := rfl
@[simp] theorem upN_same {N : Nat → Option (List Wv)} {n : Nat} {ws : List Wv} : upN N n ws n = some ws := by simp [upN]
theorem upN_ne {N : Nat → Option (List Wv)} {n m : Nat} {ws : List Wv} (h : m ≠ n) : upN N n ws m = N m := by simp [upN, h]
end
section
variable {ρ : WEnv} {S : WSt} {P : Wv × WSt → Prop}
@[simp ↓] theorem ok_wE {e : DE} : Ok (wE e ρ S) P ↔ Ok (e (flE ρ) S.M) fun p => P (.v p.1, ⟨p.2, S.N⟩) := by
  unfold wE
  cases e (flE ρ) S.M <;> simp
@[simp ↓] theorem ok_wT {e : DT} {P : Bool × WSt → Prop} : Ok (wT e ρ S) P ↔ Ok (e (flE ρ) S.M) fun p => P (p.1, ⟨p.2, S.N⟩) := by
  unfold wT
  cases e (flE ρ) S.M <;> simp
@[simp ↓] theorem ok_wVar {i : Nat} : Ok (wVar i ρ S) P ↔ Ok (getW ρ i) fun x => P (x, S) := by
  unfold wVar
  rw [getW_eq]
  cases e : ρ[i]? with
  | none => simp
  | some o => cases o <;> simp
@[simp ↓] theorem ok_wNil {P : List Wv × WSt → Prop} : Ok (wNil ρ S) P ↔ P ([], S) := by simp [wNil]
@[simp ↓] theorem ok_wCons {a : WE} {as : WA} {P : List Wv × WSt → Prop} : Ok (wCons a as ρ S) P ↔ Ok (a ρ S) fun p => Ok (as ρ p.2) fun q => P (p.1 :: q.1, q.2) := by
  unfold wCons
  cases a ρ S with
  | none => simp
  | some p =>
    obtain ⟨x, S1⟩ := p
    simp only [ok_some]
    cases as ρ S1 <;> simp
@[simp ↓] theorem ok_wTup {as : WA} : Ok (wTup as ρ S) P ↔ Ok (as ρ S) fun p => p.1.length ≤ big ∧ P (mkT p.1, p.2) := by
  unfold wTup
  cases as ρ S <;> simp
@[simp ↓] theorem ok_wLst {as : WA} : Ok (wLst as ρ S) P ↔ Ok (as ρ S) fun p => p.1.length ≤ big ∧ P (newL p.1 p.2) := by
  unfold wLst
  cases as ρ S <;> simp
@[simp ↓] theorem ok_wOp {f : OA} {as : WA} : Ok (wOp f as ρ S) P ↔ Ok (as ρ S) fun p => Ok (allF p.1) fun xs => Ok (f xs p.2.M) fun q => P (.v q.1, ⟨q.2, p.2.N⟩) := by
  unfold wOp
  cases as ρ S with
  | none => simp
  | some p =>
    obtain ⟨ws, S1⟩ := p
    simp only [ok_some]
    cases allF ws with
    | none => simp
    | some xs =>
      simp only [ok_some]
      cases f xs S1.M <;> simp
@[simp ↓] theorem ok_wM {f : Dv → List Dv → DSt → Option (Dv × DSt)} {o : WE} {as : WA} : Ok (wM f o as ρ S) P ↔ Ok (o ρ S) fun p => Ok (asV p.1) fun x => Ok (as ρ p.2) fun q => Ok (allF q.1) fun xs => Ok (f x xs q.2.M) fun r => P (.v r.1, ⟨r.2, q.2.N⟩) := by
  unfold wM
  cases o ρ S with
  | none => simp
  | some p =>
    obtain ⟨x, S1⟩ := p
    cases x with
    | v x =>
      simp only [ok_some, ok_asV]
      cases as ρ S1 with
      | none => simp
      | some q =>
        obtain ⟨ws, S2⟩ := q
        simp only [ok_some]
        cases allF ws with
        | none => simp
        | some xs =>
          simp only [ok_some]
          cases f x xs S2.M <;> simp
    | _ => simp [asV]
@[simp ↓] theorem ok_wCallD {f : DF} {as : WA} : Ok (wCallD f as ρ S) P ↔ Ok (as ρ S) fun p => Ok (allF p.1) fun xs => Ok (f xs p.2.M) fun q => P (.v q.1, ⟨q.2, p.2.N⟩) := ok_wOp
@[simp ↓] theorem ok_wLstC {c : Bool} {as : WA} : Ok (wLstC c as ρ S) P ↔ Ok (as ρ S) fun p => Ok (allF p.1) fun vs => Ok (allD vs) fun xs => xs.length ≤ big ∧ Ok (mkL c xs p.2.M) fun q => P (.v q.1, ⟨q.2, p.2.N⟩) := by
  unfold wLstC wOp
  cases as ρ S with
  | none => simp
  | some p =>
    obtain ⟨ws, S1⟩ := p
    simp only [ok_some]
    cases allF ws with
    | none => simp
    | some vs =>
      simp only [ok_some]
      cases allD vs with
      | none => simp
      | some xs =>
        simp only [ok_some]
        by_cases hb : xs.length ≤ big
        · rw [grd_ok hb]
          simp only [hb, true_and]
          cases mkL c xs S1.M <;> simp
        · have : grd (xs.length ≤ big) (mkL c xs S1.M) = none := if_neg hb
          rw [this]
          simp [hb]
@[simp ↓] theorem ok_allF0 {P : List Dv → Prop} : Ok (allF []) P ↔ P [] := by simp [allF]
@[simp ↓] theorem ok_allFC {x : Dv} {r : List Wv} {P : List Dv → Prop} : Ok (allF (.v x :: r)) P ↔ Ok (allF r) fun xs => P (x :: xs) := by
  simp only [allF]
  cases allF r <;> simp
@[simp ↓] theorem ok_w1 {f : O1} {a : WE} : Ok (w1 f a ρ S) P ↔ Ok (a ρ S) fun p => Ok (asV p.1) fun x => Ok (f x p.2.M) fun q => P (.v q.1, ⟨q.2, p.2.N⟩) := by
  unfold w1
  cases a ρ S with
  | none => simp
  | some p =>
    obtain ⟨x, S1⟩ := p
    cases x with
    | v x =>
      simp only [ok_some, ok_asV]
      cases f x S1.M <;> simp
    | _ => simp [asV]
@[simp ↓] theorem ok_w2 {f : O2} {a b : WE} : Ok (w2 f a b ρ S) P ↔ Ok (a ρ S) fun p => Ok (asV p.1) fun x => Ok (b ρ p.2) fun q => Ok (asV q.1) fun y => Ok (f x y q.2.M) fun r => P (.v r.1, ⟨r.2, q.2.N⟩) := by
  unfold w2
  cases a ρ S with
  | none => simp
  | some p =>
    obtain ⟨x, S1⟩ := p
    cases x with
    | v x =>
      simp only [ok_some, ok_asV]
      cases b ρ S1 with
      | none => simp
      | some q =>
        obtain ⟨y, S2⟩ := q
        cases y with
        | v y =>
          simp only [ok_some, ok_asV]
          cases f x y S2.M <;> simp
        | _ => simp [asV]
    | _ => simp [asV]
@[simp ↓] theorem ok_wIx {a : WE} {i : DE} : Ok (wIx a i ρ S) P ↔ Ok (a ρ S) fun p => Ok (i (flE ρ) p.2.M) fun q => Ok (asI q.1) fun k => Ok (itemsW ⟨q.2, p.2.N⟩ p.1) fun ws => Ok (atW ws k) fun z => P (z, ⟨q.2, p.2.N⟩) := by
  unfold wIx
  cases a ρ S with
  | none => simp
  | some p =>
    obtain ⟨x, S1⟩ := p
    simp only [ok_some]
    unfold wE
    cases i (flE ρ) S1.M with
    | none => simp
    | some q =>
      obtain ⟨y, M2⟩ := q
      simp only [ok_some]
      cases y with
      | c n => simp [asI]
      | r n => simp [asI]
      | d y =>
        cases y with
        | int k =>
          simp only [ok_asI]
          cases itemsW ⟨M2, S1.N⟩ x with
          | none => simp
          | some ws =>
            simp only [ok_some]
            unfold atW
            cases ixD ws.length k with
            | none => simp
            | some j =>
              simp only
              cases ws[j]? <;> simp
        | _ => simp [asI]
@[simp ↓] theorem ok_items_l {n : Nat} {P : List Wv → Prop} : Ok (itemsW S (.l n)) P ↔ Ok (S.N n) P := Iff.rfl
@[simp ↓] theorem ok_items_t {ws : List Wv} {P : List Wv → Prop} : Ok (itemsW S (.t ws)) P ↔ P ws := by simp [itemsW]
@[simp ↓] theorem ok_wAppend {o e : WE} : Ok (wAppend o e ρ S) P ↔ Ok (o ρ S) fun p => Ok (asL p.1) fun n => Ok (e ρ p.2) fun q => Ok (q.2.N n) fun ws => ws.length < big ∧ P (.v (.d .non), ⟨q.2.M, upN q.2.N n (ws ++ [q.1])⟩) := by
  unfold wAppend
  cases o ρ S with
  | none => simp
  | some p =>
    obtain ⟨x, S1⟩ := p
    cases x with
    | l n =>
      simp only [ok_some, ok_asL]
      cases e ρ S1 with
      | none => simp
      | some q =>
        obtain ⟨y, S2⟩ := q
        simp only [ok_some]
        cases S2.N n <;> simp
    | _ => simp [asL]
@[simp ↓] theorem ok_wClear {o : WE} : Ok (wClear o ρ S) P ↔ Ok (o ρ S) fun p => Ok (asL p.1) fun n => Ok (p.2.N n) fun _ => P (.v (.d .non), ⟨p.2.M, upN p.2.N n []⟩) := by
  unfold wClear
  cases o ρ S with
  | none => simp
  | some p =>
    obtain ⟨x, S1⟩ := p
    cases x with
    | l n =>
      simp only [ok_some, ok_asL]
      cases S1.N n <;> simp
    | _ => simp [asL]
@[simp ↓] theorem ok_wLen {o : WE} : Ok (wLen o ρ S) P ↔ Ok (o ρ S) fun p => Ok (itemsW p.2 p.1) fun ws => P (.v (.d (.int ws.length)), p.2) := by
  unfold wLen
  cases o ρ S with
  | none => simp
  | some p =>
    obtain ⟨x, S1⟩ := p
    simp only [ok_some]
    cases itemsW S1 x <;> simp
@[simp ↓] theorem ok_wIsN {b : Bool} {o : WE} : Ok (wIsN b o ρ S) P ↔ Ok (o ρ S) fun p => P (.v (.d (.bl (xor b (isNonW p.1)))), p.2) := by
  unfold wIsN
  cases o ρ S <;> simp
@[simp] theorem isNonW_l {n : Nat} : isNonW (.l n) = false := rfl
@[simp] theorem isNonW_t {ws : List Wv} : isNonW (.t ws) = false := rfl
@[simp] theorem isNonW_non : isNonW (.v (.d .non)) = true := rfl
@[simp] theorem isNonW_tup {xs : List D} : isNonW (.v (.d (.tup xs))) = false := rfl
@[simp] theorem isNonW_c {n : Nat} : isNonW (.v (.c n)) = false := rfl
@[simp ↓] theorem ok_wCall {f : WF} {as : WA} : Ok (wCall f as ρ S) P ↔ Ok (as ρ S) fun p => Ok (f p.1 p.2) P := by
  unfold wCall
  cases as ρ S <;> simp
@[simp ↓] theorem ok_wBor {e : DE} : Ok (wBor e ρ S) P ↔ Ok (e (rsE S ρ) (deadM S.M)) fun p => Ok (asD p.1) fun x => x.flat = true ∧ P (.v (.d x), S) := by
  unfold wBor
  cases e (rsE S ρ) (deadM S.M) with
  | none => simp
  | some p =>
    obtain ⟨y, M2⟩ := p
    cases y <;> simp [asD]
@[simp ↓] theorem ok_wFrz {a : WE} : Ok (wFrz a ρ S) P ↔ Ok (a ρ S) fun p => Ok (rs S.M.length 5 p.2 p.1) fun x => (∀ n, n < S.M.length → p.2.N n = S.N n) ∧ P (.v (.d x), ⟨p.2.M.take S.M.length, fun n => if n < S.M.length then p.2.N n else none⟩) := by
  unfold wFrz
  cases a ρ S with
  | none => simp
  | some p =>
    obtain ⟨w, S1⟩ := p
    simp only [ok_some]
    cases rs S.M.length 5 S1 w <;> simp
end
section
variable {ρ : WEnv} {S : WSt} {P : Bool × WSt → Prop}
@[simp ↓] theorem ok_wBorT {e : DT} : Ok (wBorT e ρ S) P ↔ Ok (e (rsE S ρ) (deadM S.M)) fun p => P (p.1, S) := by
  unfold wBorT
  cases e (rsE S ρ) (deadM S.M) <;> simp
@[simp ↓] theorem ok_wTest {a : WE} : Ok (wTest a ρ S) P ↔ Ok (a ρ S) fun p => Ok (asV p.1) fun x => Ok (asB x) fun b => P (b, p.2) := by
  unfold wTest
  cases a ρ S with
  | none => simp
  | some p =>
    obtain ⟨x, S1⟩ := p
    cases x with
    | v x =>
      cases x with
      | c n => simp [asB]
      | r n => simp [asB]
      | d x => cases x <;> simp [asB]
    | _ => simp [asV]
@[simp ↓] theorem ok_wAnd {a b : WT} : Ok (wAnd a b ρ S) P ↔ Ok (a ρ S) fun p => if p.1 = true then Ok (b ρ p.2) P else P (false, p.2) := by
  unfold wAnd
  cases a ρ S with
  | none => simp
  | some p =>
    obtain ⟨k, S1⟩ := p
    cases k <;> simp
@[simp ↓] theorem ok_wOr {a b : WT} : Ok (wOr a b ρ S) P ↔ Ok (a ρ S) fun p => if p.1 = true then P (true, p.2) else Ok (b ρ p.2) P := by
  unfold wOr
  cases a ρ S with
  | none => simp
  | some p =>
    obtain ⟨k, S1⟩ := p
    cases k <;> simp
@[simp ↓] theorem ok_wNot {a : WT} : Ok (wNot a ρ S) P ↔ Ok (a ρ S) fun p => P (!p.1, p.2) := by
  unfold wNot
  cases a ρ S <;> simp
@[simp ↓] theorem ok_wYes : Ok (wYes ρ S) P ↔ P (true, S) := by simp [wYes]
end
/-! ### statements -/
def seqPW (t : WS) (P : WOut → Prop) : WOut → Prop
  | .nx ρ S => Ok (t ρ S) P
  | .rt v S => P (.rt v S)
  | .bk ρ S => P (.bk ρ S)
  | .ct ρ S => P (.ct ρ S)
section
variable {ρ : WEnv} {S : WSt} {P : WOut → Prop}
@[simp ↓] theorem seqPW_nx {t : WS} : seqPW t P (.nx ρ S) ↔ Ok (t ρ S) P := Iff.rfl
@[simp ↓] theorem seqPW_rt {t : WS} {v : Wv} : seqPW t P (.rt v S) ↔ P (.rt v S) := Iff.rfl
@[simp ↓] theorem seqPW_bk {t : WS} : seqPW t P (.bk ρ S) ↔ P (.bk ρ S) := Iff.rfl
@[simp ↓] theorem seqPW_ct {t : WS} : seqPW t P (.ct ρ S) ↔ P (.ct ρ S) := Iff.rfl
@[simp ↓] theorem ok_sSeq {s t : WS} : Ok (sSeq s t ρ S) P ↔ Ok (s ρ S) (seqPW t P) := by
  unfold sSeq
  cases s ρ S with
  | none => simp
  | some o => cases o <;> simp
theorem seqW_by {s t : WS} (Q : WOut → Prop) (h : Ok (s ρ S) Q) (k : ∀ o, Q o → seqPW t P o) : Ok (sSeq s t ρ S) P := by
  rw [ok_sSeq]
  exact h.mono k
@[simp ↓] theorem ok_sPass : Ok (sPass ρ S) P ↔ P (.nx ρ S) := by simp [sPass]
@[simp ↓] theorem ok_sBreak : Ok (sBreak ρ S) P ↔ P (.bk ρ S) := by simp [sBreak]
@[simp ↓] theorem ok_sCont : Ok (sCont ρ S) P ↔ P (.ct ρ S) := by simp [sCont]
@[simp ↓] theorem ok_sNever : Ok (sNever ρ S) P ↔ False := by simp [sNever]
@[simp ↓] theorem ok_sAsg {tg : Tgt} {a : WE} : Ok (sAsg tg a ρ S) P ↔ Ok (a ρ S) fun p => Ok (tg.putW p.1 ρ) fun ρ1 => P (.nx ρ1 p.2) := by
  unfold sAsg
  cases a ρ S with
  | none => simp
  | some p =>
    obtain ⟨x, S1⟩ := p
    simp only [ok_some]
    cases tg.putW x ρ <;> simp
@[simp ↓] theorem ok_putWN {i : Nat} {w : Wv} {P : WEnv → Prop} : Ok (Tgt.putW (.name i) w ρ) P ↔ P (ρ.set i (some w)) := by simp [Tgt.putW]
@[simp ↓] theorem ok_putWT {ts : List Tgt} {ws : List Wv} {P : WEnv → Prop} : Ok (Tgt.putW (.tup ts) (.t ws) ρ) P ↔ ws.length = ts.length ∧ Ok (Tgt.putsW ts ws ρ) P := by
  simp only [Tgt.putW]
  split <;> simp_all
@[simp ↓] theorem ok_putWD {ts : List Tgt} {xs : List D} {P : WEnv → Prop} : Ok (Tgt.putW (.tup ts) (.v (.d (.tup xs))) ρ) P ↔ xs.length = ts.length ∧ Ok (Tgt.putsW ts (xs.map fun x => .v (.d x)) ρ) P := by
  simp only [Tgt.putW]
  split <;> simp_all
@[simp ↓] theorem ok_putWL {ts : List Tgt} {xs : List D} {P : WEnv → Prop} : Ok (Tgt.putW (.tup ts) (.v (.d (.lst xs))) ρ) P ↔ xs.length = ts.length ∧ Ok (Tgt.putsW ts (xs.map fun x => .v (.d x)) ρ) P := by
  simp only [Tgt.putW]
  split <;> simp_all
@[simp ↓] theorem ok_putsW0 {P : WEnv → Prop} : Ok (Tgt.putsW [] [] ρ) P ↔ P ρ := by simp [Tgt.putsW]
@[simp ↓] theorem ok_putsWC {t : Tgt} {ts : List Tgt} {w : Wv} {ws : List Wv} {P : WEnv → Prop} : Ok (Tgt.putsW (t :: ts) (w :: ws) ρ) P ↔ Ok (t.putW w ρ) fun ρ1 => Ok (Tgt.putsW ts ws ρ1) P := by
  simp only [Tgt.putsW]
  cases t.putW w ρ <;> simp
@[simp ↓] theorem ok_sPar {i j : Nat} {a b : WE} : Ok (sPar i j a b ρ S) P ↔ Ok (a ρ S) fun p => Ok (b ρ p.2) fun q => P (.nx ((ρ.set i (some p.1)).set j (some q.1)) q.2) := by
  unfold sPar
  cases a ρ S with
  | none => simp
  | some p =>
    obtain ⟨x, S1⟩ := p
    simp only [ok_some]
    cases b ρ S1 <;> simp
@[simp ↓] theorem ok_sAug {i : Nat} {f : O2} {a : WE} : Ok (sAug i f a ρ S) P ↔ Ok (getW ρ i) fun w => Ok (asV w) fun x => Ok (a ρ S) fun p => Ok (asV p.1) fun y => Ok (f x y p.2.M) fun q => P (.nx (ρ.set i (some (.v q.1))) ⟨q.2, p.2.N⟩) := by
  unfold sAug
  rw [getW_eq]
  cases e : ρ[i]? with
  | none => simp
  | some o =>
    cases o with
    | none => simp
    | some w =>
      cases w with
      | v x =>
        simp only [Option.join_some, ok_some, ok_asV]
        cases a ρ S with
        | none => simp
        | some p =>
          obtain ⟨y, S1⟩ := p
          cases y with
          | v y =>
            simp only [ok_some, ok_asV]
            cases f x y S1.M <;> simp
          | _ => simp [asV]
      | _ => simp [asV]
@[simp ↓] theorem ok_sExpr {a : WE} : Ok (sExpr a ρ S) P ↔ Ok (a ρ S) fun p => P (.nx ρ p.2) := by
  unfold sExpr
  cases a ρ S <;> simp
@[simp ↓] theorem ok_sRet {a : WE} : Ok (sRet a ρ S) P ↔ Ok (a ρ S) fun p => P (.rt p.1 p.2) := by
  unfold sRet
  cases a ρ S <;> simp
@[simp ↓] theorem ok_sIf {t : WT} {a b : WS} : Ok (sIf t a b ρ S) P ↔ Ok (t ρ S) fun p => if p.1 = true then Ok (a ρ p.2) P else Ok (b ρ p.2) P := by
  unfold sIf
  cases t ρ S with
  | none => simp
  | some p =>
    obtain ⟨k, S1⟩ := p
    cases k <;> simp
@[simp ↓] theorem ok_sWipe {vs : List Nat} {s : WS} : Ok (sWipe vs s ρ S) P ↔ Ok (s ρ S) fun o => P (wipeWO vs o) := by
  unfold sWipe
  cases s ρ S <;> simp
@[simp ↓] theorem ok_sPre {vs : List Nat} {s : WS} : Ok (sPre vs s ρ S) P ↔ Ok (s (wipeW ρ vs) S) P := Iff.rfl
@[simp] theorem wipeWO_nx {vs : List Nat} : wipeWO vs (.nx ρ S) = .nx (wipeW ρ vs) S := rfl
@[simp] theorem wipeWO_bk {vs : List Nat} : wipeWO vs (.bk ρ S) = .bk (wipeW ρ vs) S := rfl
@[simp] theorem wipeWO_ct {vs : List Nat} : wipeWO vs (.ct ρ S) = .ct (wipeW ρ vs) S := rfl
@[simp] theorem wipeWO_rt {vs : List Nat} {v : Wv} : wipeWO vs (.rt v S) = .rt v S := rfl
@[simp] theorem wipeW_nil : wipeW ρ [] = ρ := rfl
@[simp] theorem wipeW_cons {v : Nat} {vs : List Nat} : wipeW ρ (v :: vs) = (wipeW ρ vs).set v none := rfl
@[simp ↓] theorem ok_sFor {it : DI} {tg : Tgt} {s : WS} : Ok (sFor it tg s ρ S) P ↔ Ok (it (flE ρ) S.M) fun p => Ok (forW (fun S' => stand p.2.1 p.2.2 S'.M) (fun x => stepW tg s (.v (.d x))) p.1 ρ ⟨p.2.2, S.N⟩) P := by
  unfold sFor
  cases it (flE ρ) S.M <;> simp
@[simp ↓] theorem ok_sForL {a : WE} {tg : Tgt} {s : WS} : Ok (sForL a tg s ρ S) P ↔ Ok (a ρ S) fun p => Ok (asL p.1) fun n => Ok (p.2.N n) fun ws => Ok (forW (fun S' => S'.N n = some ws) (stepW tg s) ws ρ p.2) P := by
  unfold sForL
  cases a ρ S with
  | none => simp
  | some p =>
    obtain ⟨x, S1⟩ := p
    cases x with
    | l n =>
      simp only [ok_some, ok_asL]
      cases S1.N n <;> simp
    | _ => simp [asL]
@[simp ↓] theorem ok_stepW {tg : Tgt} {s : WS} {w : Wv} : Ok (stepW tg s w ρ S) P ↔ Ok (tg.putW w ρ) fun ρ1 => Ok (s ρ1 S) P := by
  unfold stepW
  cases tg.putW w ρ <;> simp
def turnPW (Nx : WEnv → WSt → Prop) (P : WOut → Prop) : WOut → Prop
  | .nx ρ S => Nx ρ S
  | .ct ρ S => Nx ρ S
  | .bk ρ S => P (.nx ρ S)
  | .rt v S => P (.rt v S)
@[simp ↓] theorem turnPW_nx {Nx : WEnv → WSt → Prop} : turnPW Nx P (.nx ρ S) ↔ Nx ρ S := Iff.rfl
@[simp ↓] theorem turnPW_ct {Nx : WEnv → WSt → Prop} : turnPW Nx P (.ct ρ S) ↔ Nx ρ S := Iff.rfl
@[simp ↓] theorem turnPW_bk {Nx : WEnv → WSt → Prop} : turnPW Nx P (.bk ρ S) ↔ P (.nx ρ S) := Iff.rfl
@[simp ↓] theorem turnPW_rt {Nx : WEnv → WSt → Prop} {v : Wv} : turnPW Nx P (.rt v S) ↔ P (.rt v S) := Iff.rfl
theorem forW_by {α : Type} {chk : WSt → Prop} {step : α → WEnv → WSt → Option WOut} : ∀ (xs : List α) {ρ : WEnv} {S : WSt} (I : Nat → WEnv → WSt → Prop), I 0 ρ S →
    (∀ i x ρ S, xs[i]? = some x → I i ρ S → chk S ∧ Ok (step x ρ S) (turnPW (I (i + 1)) P)) → (∀ ρ S, I xs.length ρ S → chk S ∧ P (.nx ρ S)) → Ok (forW chk step xs ρ S) P
  | [], ρ, S, I, h0, _, hd => by
    unfold forW
    rw [ok_grd]
    obtain ⟨a, b⟩ := hd ρ S h0
    exact ⟨a, by simpa using b⟩
  | x :: xs, ρ, S, I, h0, hs, hd => by
    unfold forW
    rw [ok_grd]
    obtain ⟨a, o, e, b⟩ := hs 0 x ρ S rfl h0
    refine ⟨a, ?_⟩
    rw [e]
    cases o with
    | nx ρ1 M1 => exact forW_by xs (fun i => I (i + 1)) b (fun i y ρ M hy hI => hs (i + 1) y ρ M (by simpa using hy) hI) (fun ρ M hI => hd ρ M hI)
    | ct ρ1 M1 => exact forW_by xs (fun i => I (i + 1)) b (fun i y ρ M hy hI => hs (i + 1) y ρ M (by simpa using hy) hI) (fun ρ M hI => hd ρ M hI)
    | bk ρ1 M1 => simpa using b
    | rt v M1 => simpa using b
theorem whileW_by {t : WT} {s : WS} (I : Nat → WEnv → WSt → Prop) : ∀ (n : Nat) {ρ : WEnv} {S : WSt}, I n ρ S →
    (∀ n ρ S, I n ρ S → Ok (t ρ S) fun p => if p.1 = true then Ok (s ρ p.2) (turnPW (fun ρ' S' => ∃ m, m < n ∧ I m ρ' S') P) else P (.nx ρ p.2)) → Ok (sWhile t s ρ S) P := by
  intro n
  induction n using Nat.strongRecOn with
  | _ n ih =>
    intro ρ S h hs
    have one : ∀ o m, whileW t s m ρ S = some o → sWhile t s ρ S = some o := fun o m e => sWhile_of e
    obtain ⟨⟨b, S1⟩, e1, h1⟩ := hs n ρ S h
    cases b with
    | false =>
      refine ⟨.nx ρ S1, one _ 1 ?_, h1⟩
      unfold whileW
      rw [e1]
    | true =>
      simp only [if_true] at h1
      obtain ⟨o, e2, h2⟩ := h1
      cases o with
      | nx ρ1 S2 =>
        obtain ⟨m, hm, hI⟩ := h2
        obtain ⟨o2, e3, h3⟩ := ih m hm hI hs
        obtain ⟨q, hq⟩ := sWhile_some e3
        refine ⟨o2, one _ (q + 1) ?_, h3⟩
        unfold whileW
        rw [e1]
        simp only
        rw [e2]
        exact hq
      | ct ρ1 S2 =>
        obtain ⟨m, hm, hI⟩ := h2
        obtain ⟨o2, e3, h3⟩ := ih m hm hI hs
        obtain ⟨q, hq⟩ := sWhile_some e3
        refine ⟨o2, one _ (q + 1) ?_, h3⟩
        unfold whileW
        rw [e1]
        simp only
        rw [e2]
        exact hq
      | bk ρ1 S2 =>
        refine ⟨.nx ρ1 S2, one _ 1 ?_, h2⟩
        unfold whileW
        rw [e1]
        simp only
        rw [e2]
      | rt v S2 =>
        refine ⟨.rt v S2, one _ 1 ?_, h2⟩
        unfold whileW
        rw [e1]
        simp only
        rw [e2]
end
/-! ### comprehensions -/
@[simp ↓] theorem ok_wComp {ρ : WEnv} {S : WSt} {P : Wv × WSt → Prop} {it : DI} {tg : Tgt} {t : WT} {el : WE} {own : List Nat} : Ok (wComp it tg t el own ρ S) P ↔ Ok (it (flE ρ) S.M) fun p => p.1.length ≤ big ∧ Ok (compW (fun S' => stand p.2.1 p.2.2 S'.M) (cstepW tg t el (wipeW ρ own)) p.1 ⟨p.2.2, S.N⟩) fun q => P (newL q.1 q.2) := by
  unfold wComp
  cases it (flE ρ) S.M with
  | none => simp
  | some p =>
    obtain ⟨xs, src, M1⟩ := p
    simp only [ok_some, ok_grd]
    cases compW (fun S' => stand src M1 S'.M) (cstepW tg t el (wipeW ρ own)) xs ⟨M1, S.N⟩ <;> simp
@[simp ↓] theorem ok_cstepW {tg : Tgt} {t : WT} {el : WE} {ρ : WEnv} {x : D} {S : WSt} {P : Option Wv × WSt → Prop} : Ok (cstepW tg t el ρ x S) P ↔ Ok (tg.putW (.v (.d x)) ρ) fun ρ1 => Ok (t ρ1 S) fun p => if p.1 = true then Ok (el ρ1 p.2) fun q => P (some q.1, q.2) else P (none, p.2) := by
  unfold cstepW
  cases tg.putW (.v (.d x)) ρ with
  | none => simp
  | some ρ1 =>
    simp only [ok_some]
    cases t ρ1 S with
    | none => simp
    | some p =>
      obtain ⟨k, S1⟩ := p
      cases k with
      | false => simp
      | true =>
        simp only [ok_some, if_true]
        cases el ρ1 S1 <;> simp
/-- a comprehension, item by item -/
theorem compW_by {chk : WSt → Prop} {step : D → WSt → Option (Option Wv × WSt)} {P : List Wv × WSt → Prop} : ∀ (xs : List D) {S : WSt} (I : List Wv → WSt → Prop) (acc : List Wv), I acc S →
    (∀ acc x S, x ∈ xs → I acc S → chk S ∧ Ok (step x S) fun p => I (acc ++ p.1.toList) p.2) → (∀ ys S, I (acc ++ ys) S → chk S ∧ P (ys, S)) → Ok (compW chk step xs S) P
  | [], S, I, acc, h0, _, hd => by
    unfold compW
    rw [ok_grd]
    obtain ⟨a, b⟩ := hd [] S (by simpa using h0)
    exact ⟨a, by simpa using b⟩
  | x :: xs, S, I, acc, h0, hs, hd => by
    unfold compW
    rw [ok_grd]
    obtain ⟨a, ⟨o, S1⟩, e, b⟩ := hs acc x S (by simp) h0
    refine ⟨a, ?_⟩
    rw [e]
    have r := compW_by (P := fun q => P ((o.toList ++ q.1), q.2)) xs I (acc ++ o.toList) b (fun acc y S hy hI => hs acc y S (by simp [hy]) hI) (fun ys S hI => hd (o.toList ++ ys) S (by simpa using hI))
    obtain ⟨⟨ys, S2⟩, e2, h2⟩ := r
    simp only [e2]
    cases o <;> simpa using h2
/-! ### defs -/
def finPW (P : Wv × WSt → Prop) : WOut → Prop
  | .rt v S => P (v, S)
  | .nx _ S => P (.v (.d .non), S)
  | _ => False
def finPF (b : Nat) (P : Dv × DSt → Prop) : WOut → Prop
  | .rt w S => Ok (rs b 5 S w) fun x => P (.d x, S.M.take b)
  | .nx _ S => P (.d .non, S.M.take b)
  | _ => False
section
variable {ρ : WEnv} {S : WSt} {b : Nat} {w : Wv}
@[simp ↓] theorem finPW_rt {P : Wv × WSt → Prop} : finPW P (.rt w S) ↔ P (w, S) := Iff.rfl
@[simp ↓] theorem finPW_nx {P : Wv × WSt → Prop} : finPW P (.nx ρ S) ↔ P (.v (.d .non), S) := Iff.rfl
@[simp ↓] theorem finPF_rt {P : Dv × DSt → Prop} : finPF b P (.rt w S) ↔ Ok (rs b 5 S w) fun x => P (.d x, S.M.take b) := Iff.rfl
@[simp ↓] theorem finPF_nx {P : Dv × DSt → Prop} : finPF b P (.nx ρ S) ↔ P (.d .non, S.M.take b) := Iff.rfl
theorem ok_fnW {n : Nat} {s : WS} {as : List Wv} {P : Wv × WSt → Prop} : Ok (fnW n s as S) P ↔ Ok (s (startW n as) S) (finPW P) := by
  unfold fnW
  cases s (startW n as) S with
  | none => simp
  | some o => cases o <;> simp [finPW]
theorem ok_fnF {n : Nat} {s : WS} {as : List Dv} {M : DSt} {P : Dv × DSt → Prop} : Ok (fnF n s as M) P ↔ Ok (s (startW n (as.map Wv.v)) ⟨M, fun _ => none⟩) (finPF M.length P) := by
  unfold fnF
  cases s (startW n (as.map Wv.v)) ⟨M, fun _ => none⟩ with
  | none => simp
  | some o =>
    cases o with
    | rt w S1 =>
      simp only [ok_some, finPF_rt]
      cases rs M.length 5 S1 w <;> simp
    | nx ρ1 S1 => simp
    | bk ρ1 S1 => simp [finPF]
    | ct ρ1 S1 => simp [finPF]
@[simp] theorem rs_d {k : Nat} {x : D} : rs b k S (.v (.d x)) = some x := by cases k <;> rfl
@[simp ↓] theorem ok_rs_d {k : Nat} {x : D} {P : D → Prop} : Ok (rs b k S (.v (.d x))) P ↔ P x := by simp
end
/-! ### folds -/
theorem forW_fold {α β γ : Type} {chk : WSt → Prop} {step : γ → WEnv → WSt → Option WOut} {P : WOut → Prop} {e : α → γ} (I : β → WEnv → WSt → Prop) (f : β → α → β) : ∀ {xs : List α} {b : β} {ρ : WEnv} {S : WSt}, I b ρ S →
    (∀ b x ρ S, x ∈ xs → I b ρ S → chk S ∧ Ok (step (e x) ρ S) (turnPW (I (f b x)) P)) → (∀ ρ S, I (xs.foldl f b) ρ S → chk S ∧ P (.nx ρ S)) → Ok (forW chk step (xs.map e) ρ S) P
  | [], b, ρ, S, h0, _, hd => by
    unfold forW
    simp only [List.map_nil]
    rw [ok_grd]
    obtain ⟨a, c⟩ := hd ρ S h0
    exact ⟨a, by simpa using c⟩
  | x :: xs, b, ρ, S, h0, hs, hd => by
    unfold forW
    simp only [List.map_cons]
    rw [ok_grd]
    obtain ⟨a, o, q, c⟩ := hs b x ρ S (by simp) h0
    refine ⟨a, ?_⟩
    rw [q]
    cases o with
    | nx ρ1 M1 => exact forW_fold I f c (fun b y ρ M hy hI => hs b y ρ M (by simp [hy]) hI) (fun ρ M hI => hd ρ M hI)
    | ct ρ1 M1 => exact forW_fold I f c (fun b y ρ M hy hI => hs b y ρ M (by simp [hy]) hI) (fun ρ M hI => hd ρ M hI)
    | bk ρ1 M1 => simpa using c
    | rt v M1 => simpa using c
@[simp] theorem upN_up {N : Nat → Option (List Wv)} {n : Nat} {a b : List Wv} : upN (upN N n a) n b = upN N n b := by
  funext m
  by_cases h : m = n <;> simp [upN, h]
@[simp ↓] theorem ok_upN {N : Nat → Option (List Wv)} {n : Nat} {ws : List Wv} {P : List Wv → Prop} : Ok (upN N n ws n) P ↔ P ws := by simp
theorem rsL_map {α : Type} {f : Wv → Option D} {g : α → Wv} {h : α → D} : ∀ {l : List α}, (∀ a ∈ l, f (g a) = some (h a)) → rsL f (l.map g) = some (l.map h)
  | [], _ => rfl
  | a :: l, k => by
    simp only [List.map_cons, rsL, k a (by simp), rsL_map (l := l) fun b hb => k b (by simp [hb])]
theorem rs_c {b k n : Nat} {S : WSt} {xs : List D} (hb : b ≤ n) (h : S.M[n]? = some (some xs)) : rs b k S (.v (.c n)) = some (.lst xs) := by
  cases k <;> simp [rs, hb, h]
theorem rs_l {b k n : Nat} {S : WSt} {ws : List Wv} (hb : b ≤ n) (h : S.N n = some ws) : rs b (k + 1) S (.l n) = (rsL (rs b k S) ws).map D.lst := by
  simp [rs, hb, h]
theorem rs_t {b k : Nat} {S : WSt} {ws : List Wv} : rs b (k + 1) S (.t ws) = (rsL (rs b k S) ws).map D.tup := by
  simp [rs]
@[simp] theorem rsE_nil {S : WSt} : rsE S [] = [] := rfl
@[simp] theorem rsE_cons {S : WSt} {o : Option Wv} {r : WEnv} : rsE S (o :: r) = (o.bind fun w => (rs 0 5 S w).map Dv.d) :: rsE S r := rfl
@[simp] theorem rs_r {b k : Nat} {S : WSt} {xs : List D} : rs b k S (.v (.r xs)) = none := by cases k <;> rfl
@[simp] theorem mkT_c {x : D} {n : Nat} : mkT [.v (.d x), .v (.c n)] = .t [.v (.d x), .v (.c n)] := rfl
theorem ifW_pass {t : WT} {a : WS} {r : WS} {ρ : WEnv} {S : WSt} {P : WOut → Prop} (h : Ok (t ρ S) fun p => p = (false, S)) (k : Ok (r ρ S) P) : Ok (sSeq (sIf t a sPass) r ρ S) P := by
  obtain ⟨p, e, rfl⟩ := h
  simp only [ok_sSeq, ok_sIf, e, ok_some]
  simpa using k
theorem rs_pair {b k n : Nat} {S : WSt} {B : D} {xs : List D} (hb : b ≤ n) (h : S.M[n]? = some (some xs)) : rs b (k + 1) S (.t [.v (.d B), .v (.c n)]) = some (.tup [B, .lst xs]) := by
  rw [rs_t]
  simp [rsL, rs_c hb h]
end Rw
end PRwWOk
section PRwWSim
set_option Elab.async false
set_option linter.all false
set_option maxRecDepth 100000
set_option maxHeartbeats 2000000
/-! RwWSim: the deep reading is kept by the layer's readings. -/
namespace Rw
open PySem L2 PySem.Spec PyProof.Rows
open Evl (Ex)
mutual
inductive RxW (K : PySem.W.Frag) (κ : List Addr) (G : Hp) : V → Wv → Prop
  | v {u : V} {x : Dv} : Rx K κ G u x → RxW K κ G u (.v x)
  | l {a : Addr} {n : Nat} : κ[n]? = some a → RxW K κ G (.ref a) (.l n)
  | t {a : Addr} {us : List V} {ws : List Wv} : SqT K G a us → RxWs K κ G us ws → RxW K κ G (.ref a) (.t ws)
inductive RxWs (K : PySem.W.Frag) (κ : List Addr) (G : Hp) : List V → List Wv → Prop
  | nil : RxWs K κ G [] []
  | cons {u : V} {us : List V} {w : Wv} {ws : List Wv} : RxW K κ G u w → RxWs K κ G us ws → RxWs K κ G (u :: us) (w :: ws)
end
section
variable {K : PySem.W.Frag} {κ κ' : List Addr} {G G' : Hp}
theorem RxW.mono (l : Le κ G κ' G') {u : V} {w : Wv} (h : RxW K κ G u w) : RxW K κ' G' u w :=
  RxW.rec (motive_1 := fun u w _ => RxW K κ' G' u w) (motive_2 := fun us ws _ => RxWs K κ' G' us ws) (fun h => .v (h.mono l)) (fun h => .l (l.at_ h)) (fun h _ ih => .t (Evl.ex_t l.ex h) ih) .nil (fun _ _ a b => .cons a b) h
theorem RxWs.mono (l : Le κ G κ' G') : ∀ {us : List V} {ws : List Wv}, RxWs K κ G us ws → RxWs K κ' G' us ws
  | _, _, .nil => .nil
  | _, _, .cons h r => .cons (h.mono l) (r.mono l)
theorem RxWs.length : ∀ {us : List V} {ws : List Wv}, RxWs K κ G us ws → us.length = ws.length
  | _, _, .nil => rfl
  | _, _, .cons _ r => by simp [r.length]
theorem RxWs.get : ∀ {us : List V} {ws : List Wv} {i : Nat} {w : Wv}, RxWs K κ G us ws → ws[i]? = some w → ∃ u, us[i]? = some u ∧ RxW K κ G u w
  | _, _, _, _, .nil, e => by simp at e
  | _, _, 0, _, .cons h _, e => by simp at e; subst e; exact ⟨_, rfl, h⟩
  | _, _, i + 1, w, .cons _ r, e => by
    obtain ⟨u, h1, h2⟩ := RxWs.get (i := i) (w := w) r (by simpa using e)
    exact ⟨u, by simpa using h1, h2⟩
theorem RxWs.get' : ∀ {us : List V} {ws : List Wv} {i : Nat} {u : V}, RxWs K κ G us ws → us[i]? = some u → ∃ w, ws[i]? = some w ∧ RxW K κ G u w
  | _, _, _, _, .nil, e => by simp at e
  | _, _, 0, _, .cons h _, e => by simp at e; subst e; exact ⟨_, rfl, h⟩
  | _, _, i + 1, u, .cons _ r, e => by
    obtain ⟨w, h1, h2⟩ := RxWs.get' (i := i) (u := u) r (by simpa using e)
    exact ⟨w, by simpa using h1, h2⟩
theorem RxWs.append : ∀ {us vs : List V} {ws zs : List Wv}, RxWs K κ G us ws → RxWs K κ G vs zs → RxWs K κ G (us ++ vs) (ws ++ zs)
  | _, _, _, _, .nil, s => s
  | _, _, _, _, .cons h r, s => .cons h (r.append s)
theorem RxWs.set {u : V} {w : Wv} (h : RxW K κ G u w) : ∀ {us : List V} {ws : List Wv} (i : Nat), RxWs K κ G us ws → RxWs K κ G (us.set i u) (ws.set i w)
  | _, _, _, .nil => .nil
  | _, _, 0, .cons _ r => .cons h r
  | _, _, i + 1, .cons q r => .cons q (RxWs.set h i r)
theorem RxWs.of_rvs : ∀ {us : List V} {ds : List D}, Rvs K G us ds → RxWs K κ G us (ds.map fun x => .v (.d x))
  | _, _, .nil => .nil
  | _, _, .cons h r => .cons (.v h) (RxWs.of_rvs r)
theorem RxWs.of_rxs : ∀ {us : List V} {ds : List Dv}, Rxs K κ G us ds → RxWs K κ G us (ds.map Wv.v)
  | _, _, .nil => .nil
  | _, _, .cons h r => .cons (.v h) (RxWs.of_rxs r)
theorem allW_of : ∀ {us : List V} {ws : List Wv} {xs : List D}, RxWs K κ G us ws → allW ws = some xs → Rvs K G us xs
  | _, _, _, .nil, h => by cases h; exact .nil
  | _, _, xs, .cons (w := w) (ws := ws) a r, h => by
    cases w with
    | l n => cases h
    | t vs => cases h
    | v x =>
      cases x with
      | c n => cases h
      | r n => cases h
      | d y =>
        simp only [allW] at h
        cases e : allW ws with
        | none => rw [e] at h; cases h
        | some ys =>
          rw [e] at h
          cases h
          cases a with
          | v a => exact .cons a (allW_of r e)
end
structure SeW (K : PySem.W.Frag) (κ : List Addr) (G : Hp) (σ : L2.St) (ρ : WEnv) : Prop where
  len : σ.length = ρ.length
  at_ : ∀ (i : Nat) (w : Wv), ρ[i]? = some (some w) → ∃ v, σ[i]? = some (some v) ∧ RxW K κ G v w
section
variable {K : PySem.W.Frag} {κ κ' : List Addr} {G G' : Hp} {σ : L2.St} {ρ : WEnv}
theorem SeW.mono (l : Le κ G κ' G') (h : SeW K κ G σ ρ) : SeW K κ' G' σ ρ := ⟨h.len, fun i x e => let ⟨v, a, b⟩ := h.at_ i x e; ⟨v, a, b.mono l⟩⟩
theorem SeW.set {u : V} {w : Wv} (h : SeW K κ G σ ρ) (r : RxW K κ G u w) (i : Nat) : SeW K κ G (σ.set i (some u)) (ρ.set i (some w)) := by
  refine ⟨by simp [h.len], fun j y e => ?_⟩
  by_cases hj : i = j
  · subst hj
    by_cases hi : i < ρ.length
    · rw [List.getElem?_set_self hi] at e
      cases e
      exact ⟨u, List.getElem?_set_self (by rw [h.len]; exact hi), r⟩
    · rw [List.getElem?_eq_none (by simpa using hi)] at e
      cases e
  · rw [List.getElem?_set_ne hj] at e
    obtain ⟨v, a, b⟩ := h.at_ j y e
    exact ⟨v, by rw [List.getElem?_set_ne hj]; exact a, b⟩
theorem SeW.unset (h : SeW K κ G σ ρ) (i : Nat) : SeW K κ G σ (ρ.set i none) := by
  refine ⟨by simp [h.len], fun j y e => ?_⟩
  by_cases hj : i = j
  · subst hj
    by_cases hi : i < ρ.length
    · rw [List.getElem?_set_self hi] at e
      cases e
    · rw [List.getElem?_eq_none (by simpa using hi)] at e
      cases e
  · rw [List.getElem?_set_ne hj] at e
    exact h.at_ j y e
theorem SeW.wipe (h : SeW K κ G σ ρ) : ∀ vs : List Nat, SeW K κ G σ (wipeW ρ vs)
  | [] => h
  | v :: vs => (h.wipe vs).unset v
/-- the flat slots -/
theorem SeW.flat (h : SeW K κ G σ ρ) : Se K κ G σ (flE ρ) := by
  refine ⟨by simp [flE, h.len], fun i x e => ?_⟩
  simp only [flE, List.getElem?_map] at e
  cases e1 : ρ[i]? with
  | none => rw [e1] at e; cases e
  | some o =>
    rw [e1] at e
    cases o with
    | none => cases e
    | some w =>
      cases w with
      | l n => simp [Wv.fl] at e
      | t vs => simp [Wv.fl] at e
      | v y =>
        simp [Wv.fl] at e
        subst e
        obtain ⟨v, a, b⟩ := h.at_ i _ e1
        cases b with
        | v b => exact ⟨v, a, b⟩
end
/-! ### the state -/
structure SmW (K : PySem.W.Frag) (F : Fz) (κ : List Addr) (G : Hp) (S : WSt) (H : Hp) : Prop where
  ex : ∃ Z : Hp, Sm K ⟨F.f, Z⟩ κ G S.M H ∧ (∀ a o, F.z a = some o → Z a = some o) ∧
    ∀ (n : Nat) (ws : List Wv), S.N n = some ws → ∃ a us, κ[n]? = some a ∧ F.z a = none ∧ Z a = some (.lst us) ∧ RxWs K κ G us ws
abbrev PVW (K : PySem.W.Frag) (F : Fz) (κ : List Addr) (G : Hp) (Q : VK) (w : Wv) (S' : WSt) : Prop := ∀ κ' G' u H', Le κ G κ' G' → SmW K F κ' G' S' H' → RxW K κ' G' u w → Q u H'
structure SimWE (K : PySem.W.Frag) (t : TE) (e : WE) : Prop where
  run : ∀ {F κ G σ ρ S H Q w S'}, SmW K F κ G S H → SeW K κ G σ ρ → e ρ S = some (w, S') → PVW K F κ G Q w S' → t σ H Q
structure SimWT (K : PySem.W.Frag) (t : TT) (e : WT) : Prop where
  run : ∀ {F κ G σ ρ S H b S'} {Q : Bool → Hp → Prop}, SmW K F κ G S H → SeW K κ G σ ρ → e ρ S = some (b, S') → (∀ κ' G' H', Le κ G κ' G' → SmW K F κ' G' S' H' → Q b H') → t σ H Q
structure SimWA (K : PySem.W.Frag) (t : TA) (e : WA) : Prop where
  run : ∀ {F κ G σ ρ S H ws S'} {Q : List V → Hp → Prop}, SmW K F κ G S H → SeW K κ G σ ρ → e ρ S = some (ws, S') → (∀ κ' G' us H', Le κ G κ' G' → SmW K F κ' G' S' H' → RxWs K κ' G' us ws → Q us H') → t σ H Q
section
variable {K : PySem.W.Frag} {F : Fz} {κ : List Addr} {G : Hp} {S : WSt} {H : Hp}
theorem PVW.weak {κ1 : List Addr} {G1 : Hp} {Q : VK} {w : Wv} {S' : WSt} (l : Le κ G κ1 G1) (k : PVW K F κ G Q w S') : PVW K F κ1 G1 Q w S' := fun κ' G' u H' l' S r => k κ' G' u H' (l.trans l') S r
theorem PVW.here {Q : VK} {w : Wv} {S' : WSt} {u : V} (k : PVW K F κ G Q w S') (S : SmW K F κ G S' H) (r : RxW K κ G u w) : Q u H := k κ G u H (Le.refl _ _) S r
/-! ### steps -/
/-- the flat part changes -/
theorem SmW.flat {Z : Hp} {κ1 : List Addr} {G1 : Hp} {M1 : DSt} {H1 : Hp} {N : Nat → Option (List Wv)} (hz : ∀ a o, F.z a = some o → Z a = some o) (hn : ∀ (n : Nat) (ws : List Wv), N n = some ws → ∃ a us, κ[n]? = some a ∧ F.z a = none ∧ Z a = some (.lst us) ∧ RxWs K κ G us ws) (l : Le κ G κ1 G1) (S1 : Sm K ⟨F.f, Z⟩ κ1 G1 M1 H1) : SmW K F κ1 G1 ⟨M1, N⟩ H1 :=
  ⟨Z, S1, hz, fun n ws e => let ⟨a, us, h1, h2, h3, h4⟩ := hn n ws e; ⟨a, us, l.at_ h1, h2, h3, h4.mono l⟩⟩
/-- a dead cell is under the frame -/
theorem Sm.toZ {f Z : Hp} {M : DSt} {p : Addr} {o : HO} (S : Sm K ⟨f, Z⟩ κ G M H) (hp : H p = some o) (g : G p = none) (hf : f p = none) (hd : ∀ (n : Nat) (ds : List D), κ[n]? = some p → M[n]? ≠ some (some ds)) : Sm K ⟨f, upd Z p o⟩ κ G M H := by
  refine ⟨S.ex, S.fx, fun a u e => ?_, S.dj, fun a u e => ?_, fun a u e => ?_, S.fk, fun n a ds h1 h2 => ?_, S.len, S.nd, S.th, S.cel⟩
  · by_cases ha : a = p
    · subst ha
      simp only [upd_same] at e
      cases e
      exact hp
    · simp only [upd_ne ha] at e
      exact S.zx a u e
  · by_cases ha : a = p
    · subst ha
      exact g
    · simp only [upd_ne ha] at e
      exact S.zj a u e
  · have ha : a ≠ p := ne_of_none e hf
    show upd Z p o a = none
    rw [upd_ne ha]
    exact S.fd a u e
  · have ha : a ≠ p := fun z => hd n ds (z ▸ h1) h2
    show upd Z p o a = none
    rw [upd_ne ha]
    exact S.zk n a ds h1 h2
/-- what is under the frame changes -/
theorem Sm.putZ {f Z : Hp} {M : DSt} {p : Addr} {o : HO} {vs : List V} (S : Sm K ⟨f, Z⟩ κ G M H) (hp : Z p = some o) (hf : f p = none) : Sm K ⟨f, upd Z p (.lst vs)⟩ κ G M (upd H p (.lst vs)) := by
  have g : G p = none := S.zj p o hp
  refine ⟨Ex.mut S.ex g, Ex.mut S.fx hf, fun a u e => ?_, S.dj, fun a u e => ?_, fun a u e => ?_, S.fk, fun n a ds h1 h2 => ?_, S.len, S.nd, fun a h => ?_, fun n ds e => ?_⟩
  · by_cases ha : a = p
    · subst ha
      simp only [upd_same] at e ⊢
      exact e
    · simp only [upd_ne ha] at e ⊢
      exact S.zx a u e
  · by_cases ha : a = p
    · subst ha
      exact g
    · simp only [upd_ne ha] at e
      exact S.zj a u e
  · have ha : a ≠ p := ne_of_none e hf
    show upd Z p _ a = none
    rw [upd_ne ha]
    exact S.fd a u e
  · have z := S.zk n a ds h1 h2
    have ha : a ≠ p := fun q => by
      subst q
      have : (⟨f, Z⟩ : Fz).z a = Z a := rfl
      rw [this, hp] at z
      cases z
    show upd Z p _ a = none
    rw [upd_ne ha]
    exact z
  · by_cases ha : a = p
    · subst ha
      exact ⟨_, upd_same⟩
    · obtain ⟨q, hq⟩ := S.th a h
      exact ⟨q, by rw [upd_ne ha]; exact hq⟩
  · obtain ⟨a, xs, e1, e2, e4, e5⟩ := S.cel n ds e
    have z := S.zk n a ds e1 e
    have ha : a ≠ p := fun q => by
      subst q
      have : (⟨f, Z⟩ : Fz).z a = Z a := rfl
      rw [this, hp] at z
      cases z
    exact ⟨a, xs, e1, e2, by rw [upd_ne ha]; exact e4, e5⟩
theorem nodup_at {l : List Addr} (hn : l.Nodup) {n m : Nat} {a : Addr} (h1 : l[n]? = some a) (h2 : l[m]? = some a) : n = m := by
  obtain ⟨l1, g1⟩ := List.getElem?_eq_some_iff.mp h1
  obtain ⟨l2, g2⟩ := List.getElem?_eq_some_iff.mp h2
  exact (List.getElem_inj hn).mp (g1.trans g2.symm)
/-- a new deep list -/
theorem SmW.newL (W : SmW K F κ G S H) {p : Addr} {us : List V} {ws : List Wv} (hp : H p = none) (r : RxWs K κ G us ws) :
    Le κ G (κ ++ [p]) G ∧ SmW K F (κ ++ [p]) G (newL ws S).2 (upd H p (.lst us)) ∧ RxW K (κ ++ [p]) G (.ref p) (newL ws S).1 := by
  obtain ⟨Z, S0, hz, hn⟩ := W.ex
  obtain ⟨g, f, nk⟩ := S0.fresh hp
  have z := S0.freshZ hp
  have S1 : Sm K ⟨F.f, Z⟩ (κ ++ [p]) G (S.M ++ [none]) (upd H p (.lst us)) := (S0.laid (.lst us) hp).cell nk g f z upd_same fun ds e => by cases e
  have pl : (κ ++ [p])[S.M.length]? = some p := last_at S0.len
  have l : Le κ G (κ ++ [p]) G := Le.newC
  refine ⟨l, ⟨upd Z p (.lst us), S1.toZ upd_same g f ?_, fun a o e => ?_, fun n zs e => ?_⟩, .l pl⟩
  · intro n ds h1 h2
    have := nodup_at S1.nd h1 pl
    subst this
    rw [last_at rfl] at h2
    cases h2
  · have ha : a ≠ p := fun q => by
      subst q
      have := hz a o e
      have z' : Z a = none := z
      rw [z'] at this
      cases this
    rw [upd_ne ha]
    exact hz a o e
  · unfold Rw.newL at e
    simp only [upN] at e
    split at e
    · rename_i hm
      subst hm
      cases e
      refine ⟨p, us, pl, ?_, upd_same, r.mono l⟩
      cases q : F.z p with
      | none => rfl
      | some o =>
        have := hz p o q
        have z' : Z p = none := z
        rw [z'] at this
        cases this
    · obtain ⟨a, vs, h1, h2, h3, h4⟩ := hn n zs e
      have ha : a ≠ p := fun q => by
        subst q
        have z' : Z a = none := z
        rw [z'] at h3
        cases h3
      exact ⟨a, vs, l.at_ h1, h2, by rw [upd_ne ha]; exact h3, h4.mono l⟩
/-- a deep list changes -/
theorem SmW.putL (W : SmW K F κ G S H) {n : Nat} {ws zs : List Wv} (h : S.N n = some ws) : ∃ a us, κ[n]? = some a ∧ H a = some (.lst us) ∧ RxWs K κ G us ws ∧
    ∀ vs, RxWs K κ G vs zs → SmW K F κ G ⟨S.M, upN S.N n zs⟩ (upd H a (.lst vs)) := by
  obtain ⟨Z, S0, hz, hn⟩ := W.ex
  obtain ⟨a, us, h1, h2, h3, h4⟩ := hn n ws h
  refine ⟨a, us, h1, S0.zx a _ h3, h4, fun vs r => ⟨upd Z a (.lst vs), S0.putZ h3 (S0.fk a (List.mem_of_getElem? h1)), fun b o e => ?_, fun m xs e => ?_⟩⟩
  · have hb : b ≠ a := ne_of_none e h2
    rw [upd_ne hb]
    exact hz b o e
  · simp only [upN] at e
    split at e
    · rename_i hm
      subst hm
      cases e
      exact ⟨a, vs, h1, h2, upd_same, r⟩
    · rename_i hm
      obtain ⟨b, ys, q1, q2, q3, q4⟩ := hn m xs e
      have hb : b ≠ a := fun q => by
        subst q
        exact hm (nodup_at S0.nd q1 h1)
      exact ⟨b, ys, q1, q2, by rw [upd_ne hb]; exact q3, q4⟩
theorem SmW.getL (W : SmW K F κ G S H) {n : Nat} {ws : List Wv} {a : Addr} (h : S.N n = some ws) (ha : κ[n]? = some a) : ∃ us, H a = some (.lst us) ∧ RxWs K κ G us ws := by
  obtain ⟨Z, S0, hz, hn⟩ := W.ex
  obtain ⟨b, us, h1, h2, h3, h4⟩ := hn n ws h
  rw [ha] at h1
  cases h1
  exact ⟨us, S0.zx a _ h3, h4⟩
theorem SmW.newG (W : SmW K F κ G S H) {p : Addr} (o : HO) (hp : H p = none) : G p = none ∧ Le κ G κ (upd G p o) ∧ SmW K F κ (upd G p o) S (upd H p o) := by
  obtain ⟨Z, S0, hz, hn⟩ := W.ex
  have g := (S0.fresh hp).1
  exact ⟨g, Le.newG g, SmW.flat (F := F) hz hn (Le.newG g) (S0.newG o hp)⟩
end
/-! ### expressions -/
section
variable {K : PySem.W.Frag}
theorem wsim_E {t : TE} {e : DE} (he : SimE K t e) : SimWE K t (wE e) := ⟨fun {F κ G σ ρ S H Q w S'} W E h k => by
  obtain ⟨Z, S0, hz, hn⟩ := W.ex
  unfold wE at h
  split at h
  · rename_i x M' e1
    cases h
    exact he.run S0 E.flat e1 fun κ1 G1 u H1 l1 S1 r1 => k κ1 G1 u H1 l1 (SmW.flat hz hn l1 S1) (.v r1)
  · cases h⟩
theorem wsim_T {t : TT} {e : DT} (he : SimT K t e) : SimWT K t (wT e) := ⟨fun {F κ G σ ρ S H b S' Q} W E h k => by
  obtain ⟨Z, S0, hz, hn⟩ := W.ex
  unfold wT at h
  split at h
  · rename_i x M' e1
    cases h
    exact he.run S0 E.flat e1 fun κ1 G1 H1 l1 S1 => k κ1 G1 H1 l1 (SmW.flat hz hn l1 S1)
  · cases h⟩
theorem wsim_var (i : Nat) : SimWE K (tVar i) (wVar i) := ⟨fun {F κ G σ ρ S H Q w S'} W E h k => by
  unfold wVar at h
  split at h
  · rename_i x e
    cases h
    obtain ⟨u, hu, r⟩ := E.at_ i _ e
    exact ⟨u, hu, k.here W r⟩
  · cases h⟩
theorem wsim_nil : SimWA K tNil wNil := ⟨fun {F κ G σ ρ S H ws S' Q} W E h k => by
  cases h
  exact k κ G [] H (Le.refl _ _) W .nil⟩
theorem wsim_cons {ta : TE} {a : WE} {tr : TA} {as : WA} (ha : SimWE K ta a) (hr : SimWA K tr as) : SimWA K (tCons ta tr) (wCons a as) := ⟨fun {F κ G σ ρ S H ws S' Q} W E h k => by
  unfold wCons at h
  split at h
  · rename_i x M1 e
    split at h
    · rename_i xs M2 e2
      cases h
      exact ha.run W E e fun κ1 G1 u H1 l1 S1 r1 => hr.run S1 (E.mono l1) e2 fun κ2 G2 us H2 l2 S2 r2 => k κ2 G2 (u :: us) H2 (l1.trans l2) S2 (.cons (r1.mono l2) r2)
    · cases h
  · cases h⟩
theorem mkT_of {κ : List Addr} {G : Hp} {p : Addr} {us : List V} {ws : List Wv} (hp : SqT K G p us) (r : RxWs K κ G us ws) : RxW K κ G (.ref p) (mkT ws) := by
  unfold mkT
  split
  · rename_i xs e
    exact .v (Rv.tup hp (allW_of r e))
  · exact .t hp r
theorem wsim_tup {ta : TA} {a : WA} (ha : SimWA K ta a) : SimWE K (tTup ta) (wTup a) := ⟨fun {F κ G σ ρ S H Q w S'} W E h k => by
  unfold wTup at h
  split at h
  · rename_i ws S1 e
    obtain ⟨hb, h⟩ := grd_some h
    cases h
    refine ha.run W E e fun κ1 G1 us H1 l1 W1 r1 => ⟨sz_big (by rw [r1.length]; exact hb), fun p hp => ?_⟩
    obtain ⟨g, l2, W2⟩ := W1.newG (.tup us) hp
    exact k κ1 _ _ _ (l1.trans l2) W2 (mkT_of (.of upd_same) (r1.mono l2))
  · cases h⟩
theorem wsim_lst {ta : TA} {a : WA} (ha : SimWA K ta a) : SimWE K (tLst ta) (wLst a) := ⟨fun {F κ G σ ρ S H Q w S'} W E h k => by
  unfold wLst at h
  split at h
  · rename_i ws S1 e
    obtain ⟨hb, h⟩ := grd_some h
    cases h
    refine ha.run W E e fun κ1 G1 us H1 l1 W1 r1 => ⟨sz_big (by rw [r1.length]; exact hb), fun p hp => ?_⟩
    obtain ⟨l2, W2, r2⟩ := W1.newL hp r1
    exact k _ _ _ _ (l1.trans l2) W2 r2
  · cases h⟩
end
end Rw
end PRwWSim
section PRwWSim2
set_option Elab.async false
set_option linter.all false
set_option maxRecDepth 100000
set_option maxHeartbeats 2000000
namespace Rw
open PySem L2 PySem.Spec PyProof.Rows
open Evl (Ex)
section
variable {K : PySem.W.Frag}
/-- the items of a deep list or tuple -/
theorem itemsW_at {F : Fz} {κ : List Addr} {G : Hp} {S : WSt} {H : Hp} {u : V} {w : Wv} {ws : List Wv} (W : SmW K F κ G S H) (r : RxW K κ G u w) (h : itemsW S w = some ws) : ∃ p us, u = .ref p ∧ (SqL K H p us ∨ SqT K H p us) ∧ RxWs K κ G us ws := by
  cases w with
  | v x => cases h
  | l n =>
    cases r with
    | l ha =>
      obtain ⟨us, h1, h2⟩ := W.getL h ha
      exact ⟨_, us, rfl, .inl (.of h1), h2⟩
  | t vs =>
    cases h
    cases r with
    | t hs rs =>
      obtain ⟨Z, S0, _⟩ := W.ex
      exact ⟨_, _, rfl, .inr (Evl.ex_t S0.ex hs), rs⟩
theorem wsim_ix {ta ti : TE} {a : WE} {i : DE} (ha : SimWE K ta a) (hi : SimE K ti i) : SimWE K (tOp (rIx K) ta ti) (wIx a i) := ⟨fun {F κ G σ ρ S H Q w S'} W E h k => by
  unfold wIx at h
  split at h
  · rename_i x S1 e1
    split at h
    · rename_i kk S2 e2
      split at h
      · rename_i ws ew
        split at h
        · rename_i j ej
          split at h
          · rename_i z ez
            cases h
            refine ha.run W E e1 fun κ1 G1 u H1 l1 W1 r1 => (wsim_E hi).run W1 (E.mono l1) e2 fun κ2 G2 v H2 l2 W2 r2 => ?_
            obtain ⟨p, us, rfl, hs, rr⟩ := itemsW_at W2 (r1.mono l2) ew
            obtain ⟨w', hw, rw'⟩ := rr.get ez
            have hv : v = .int kk := by cases r2 with | v r2 => exact rx_int r2
            have hat : atI us kk = some w' := by
              unfold atI
              rw [rr.length, ← ixD_eq, ej]
              exact hw
            have q := (k.weak (l1.trans l2)).here W2 rw'
            rcases hs with hs | hs
            · exact .inl ⟨p, us, kk, w', rfl, hv, hs, hat, q⟩
            · exact .inr (.inl ⟨p, us, kk, w', rfl, hv, hs, hat, q⟩)
          · cases h
        · cases h
      · cases h
    · cases h
  · cases h⟩
theorem wlist_ty {F : Fz} {κ : List Addr} {G : Hp} {S : WSt} {H : Hp} {u : V} {n : Nat} (W : SmW K F κ G S H) (r : RxW K κ G u (.l n)) : ∃ b us, u = .ref b ∧ κ[n]? = some b ∧ SqL K H b us := by
  cases r with
  | l hb =>
    obtain ⟨Z, S0, _⟩ := W.ex
    obtain ⟨q, hq⟩ := S0.th _ (List.mem_of_getElem? hb)
    exact ⟨_, q, rfl, hb, .of hq⟩
theorem wsim_append {to te : TE} {o e : WE} (ho : SimWE K to o) (he : SimWE K te e) : SimWE K (tBM K "list" rAppend to (tCons te tNil)) (wAppend o e) := ⟨fun {F κ G σ ρ S H Q w S'} W E h k => by
  unfold wAppend at h
  split at h
  · rename_i n S1 e1
    split at h
    · rename_i x S2 e2
      split at h
      · rename_i ws ew
        obtain ⟨hb, h⟩ := grd_some h
        cases h
        refine ho.run W E e1 fun κ1 G1 u H1 l1 W1 r1 => ⟨?_, ?_⟩
        · obtain ⟨b, us, rfl, hb, hs⟩ := wlist_ty W1 r1
          exact .inl ⟨rfl, us, hs⟩
        · refine he.run W1 (E.mono l1) e2 fun κ2 G2 v H2 l2 W2 r2 => ?_
          have r1' := r1.mono l2
          cases r1' with
          | l ha =>
            obtain ⟨a, us, h1, h2, h3, h4⟩ := W2.putL (zs := ws ++ [x]) ew
            rw [h1] at ha
            cases ha
            refine ⟨_, us, v, rfl, rfl, h2, sz_big1 (by rw [h3.length]; exact hb), ?_⟩
            exact k κ2 G2 _ _ (l1.trans l2) (h4 _ (h3.append (.cons r2 .nil))) (.v Rv.non)
      · cases h
    · cases h
  · cases h⟩
theorem wsim_clear {to : TE} {o : WE} (ho : SimWE K to o) : SimWE K (tBM0 K "list" rClear to) (wClear o) := ⟨fun {F κ G σ ρ S H Q w S'} W E h k => by
  unfold wClear at h
  split at h
  · rename_i n S1 e1
    split at h
    · rename_i ws ew
      cases h
      refine ho.run W E e1 fun κ1 G1 u H1 l1 W1 r1 => ⟨?_, ?_⟩
      · obtain ⟨b, us, rfl, hb, hs⟩ := wlist_ty W1 r1
        exact .inl ⟨rfl, us, hs⟩
      · cases r1 with
        | l ha =>
          obtain ⟨a, us, h1, h2, h3, h4⟩ := W1.putL (zs := []) ew
          rw [h1] at ha
          cases ha
          exact ⟨_, us, rfl, rfl, h2, k κ1 G1 _ _ l1 (h4 [] .nil) (.v Rv.non)⟩
    · cases h
  · cases h⟩
theorem isNonW_of {κ : List Addr} {G : Hp} {u : V} {w : Wv} (r : RxW K κ G u w) : decide (u = .non) = isNonW w := by
  cases r with
  | v r =>
    rename_i x
    rw [isNon_of r]
    cases x with
    | d y => cases y <;> rfl
    | c n => rfl
    | r n => rfl
  | l h => simp [isNonW]
  | t h r => simp [isNonW]
theorem wsim_isN {ta : TE} {a : WE} (ha : SimWE K ta a) : SimWE K (tOp (fun x y H Q => y = .non ∧ Q (.bl (decide (x = .non))) H) ta (tC .non)) (wIsN false a) := ⟨fun {F κ G σ ρ S H Q w S'} W E h k => by
  unfold wIsN at h
  split at h
  · rename_i x S1 e
    cases h
    refine ha.run W E e fun κ1 G1 u H1 l1 W1 r1 => ⟨rfl, ?_⟩
    rw [isNonW_of r1]
    have := (k.weak l1).here W1 (.v (Rv.bl (xor false (isNonW x))))
    simpa using this
  · cases h⟩
theorem wsim_notN {ta : TE} {a : WE} (ha : SimWE K ta a) : SimWE K (tOp (fun x y H Q => y = .non ∧ Q (.bl (!decide (x = .non))) H) ta (tC .non)) (wIsN true a) := ⟨fun {F κ G σ ρ S H Q w S'} W E h k => by
  unfold wIsN at h
  split at h
  · rename_i x S1 e
    cases h
    refine ha.run W E e fun κ1 G1 u H1 l1 W1 r1 => ⟨rfl, ?_⟩
    rw [isNonW_of r1]
    have := (k.weak l1).here W1 (.v (Rv.bl (xor true (isNonW x))))
    simpa using this
  · cases h⟩
theorem wsim_len {ta : TE} {a : WE} (ha : SimWE K ta a) : SimWE K (tCB (fun vs H Q => ∃ p us, vs = [.ref p] ∧ (SqL K H p us ∨ SqT K H p us) ∧ Q (.int us.length) H) (tCons ta tNil)) (wLen a) := ⟨fun {F κ G σ ρ S H Q w S'} W E h k => by
  unfold wLen at h
  split at h
  · rename_i x S1 e
    split at h
    · rename_i ws ew
      cases h
      refine ha.run W E e fun κ1 G1 u H1 l1 W1 r1 => ?_
      obtain ⟨p, us, rfl, hs, rr⟩ := itemsW_at W1 r1 ew
      refine ⟨p, us, rfl, hs, ?_⟩
      rw [rr.length]
      exact (k.weak l1).here W1 (.v (Rv.int _))
    · cases h
  · cases h⟩
/-! ### tests -/
theorem wsim_tB {ta : TE} {a : WE} (ha : SimWE K ta a) : SimWT K (tB ta) (wTest a) := ⟨fun {F κ G σ ρ S H b S' Q} W E h k => by
  unfold wTest at h
  split at h
  · rename_i c S1 e
    cases h
    refine ha.run W E e fun κ1 G1 u H1 l1 W1 r1 => ⟨b, ?_, k κ1 G1 H1 l1 W1⟩
    cases r1 with | v r1 => cases r1; rfl
  · cases h⟩
theorem wsim_tTest {ta : TE} {a : WE} (ha : SimWE K ta a) : SimWT K (tTest ta) (wTest a) := ⟨fun {F κ G σ ρ S H b S' Q} W E h k => (wsim_tB ha).run W E h k⟩
theorem wsim_and {t u : TT} {a b : WT} (ha : SimWT K t a) (hb : SimWT K u b) : SimWT K (L2.tAnd t u) (wAnd a b) := ⟨fun {F κ G σ ρ S H c S' Q} W E h k => by
  unfold wAnd at h
  split at h
  · rename_i M1 e
    refine ha.run W E e fun κ1 G1 H1 l1 S1 => ?_
    show (if true = true then _ else _)
    rw [if_pos rfl]
    exact hb.run S1 (E.mono l1) h fun κ2 G2 H2 l2 S2 => k κ2 G2 H2 (l1.trans l2) S2
  · rename_i M1 e
    cases h
    refine ha.run W E e fun κ1 G1 H1 l1 S1 => ?_
    show (if false = true then _ else _)
    rw [if_neg Bool.false_ne_true]
    exact k κ1 G1 H1 l1 S1
  · cases h⟩
theorem wsim_or {t u : TT} {a b : WT} (ha : SimWT K t a) (hb : SimWT K u b) : SimWT K (L2.tOr t u) (wOr a b) := ⟨fun {F κ G σ ρ S H c S' Q} W E h k => by
  unfold wOr at h
  split at h
  · rename_i M1 e
    cases h
    refine ha.run W E e fun κ1 G1 H1 l1 S1 => ?_
    show (if true = true then _ else _)
    rw [if_pos rfl]
    exact k κ1 G1 H1 l1 S1
  · rename_i M1 e
    refine ha.run W E e fun κ1 G1 H1 l1 S1 => ?_
    show (if false = true then _ else _)
    rw [if_neg Bool.false_ne_true]
    exact hb.run S1 (E.mono l1) h fun κ2 G2 H2 l2 S2 => k κ2 G2 H2 (l1.trans l2) S2
  · cases h⟩
theorem wsim_not {t : TT} {a : WT} (ha : SimWT K t a) : SimWT K (L2.tNot t) (wNot a) := ⟨fun {F κ G σ ρ S H c S' Q} W E h k => by
  unfold wNot at h
  split at h
  · rename_i b M1 e
    cases h
    exact ha.run W E e k
  · cases h⟩
/-! ### read as data -/
/-- a cell from b on, flat or deep -/
def Live (κ : List Addr) (S : WSt) (b : Nat) (a : Addr) : Prop := ∃ n, b ≤ n ∧ κ[n]? = some a ∧ ((∃ ds, S.M[n]? = some (some ds)) ∨ ∃ ws, S.N n = some ws)
/-- these stand still -/
noncomputable def gPlus (κ : List Addr) (S : WSt) (b : Nat) (G H : Hp) : Hp := fun a => open Classical in if Live κ S b a then H a else G a
theorem gPlus_in {κ : List Addr} {S : WSt} {b : Nat} {G H : Hp} {a : Addr} (h : Live κ S b a) : gPlus κ S b G H a = H a := if_pos h
theorem gPlus_out {κ : List Addr} {S : WSt} {b : Nat} {G H : Hp} {a : Addr} (h : ¬ Live κ S b a) : gPlus κ S b G H a = G a := if_neg h
theorem Live.mem {κ : List Addr} {S : WSt} {b : Nat} {a : Addr} (h : Live κ S b a) : a ∈ κ := let ⟨_, _, e, _⟩ := h; List.mem_of_getElem? e
theorem gPlus_ex {κ : List Addr} {S : WSt} {b : Nat} {G H : Hp} (e : Ex G H) : Ex G (gPlus κ S b G H) := fun a o h => by
  by_cases ha : Live κ S b a
  · rw [gPlus_in ha]; exact e a o h
  · rw [gPlus_out ha]; exact h
theorem live_m {κ : List Addr} {S : WSt} {b n : Nat} {a : Addr} {ds : List D} (hb : b ≤ n) (ha : κ[n]? = some a) (h : (S.M[n]?).join = some ds) : Live κ S b a := by
  refine ⟨n, hb, ha, .inl ⟨ds, ?_⟩⟩
  cases e : S.M[n]? with
  | none => rw [e] at h; cases h
  | some o => rw [e] at h; cases o <;> cases h; rfl
mutual
theorem rs_of {F : Fz} {κ : List Addr} {G : Hp} {S : WSt} {H : Hp} (W : SmW K F κ G S H) {b : Nat} : ∀ (k : Nat) (w : Wv) {u : V} {d : D}, RxW K κ G u w → rs b k S w = some d → Rv K (gPlus κ S b G H) u d
  | k, .v x, u, d, r, h => by
    obtain ⟨Z, S0, _⟩ := W.ex
    cases r with
    | v r =>
      cases x with
      | d y =>
        have : d = y := by cases k <;> (unfold rs at h; cases h; rfl)
        subst this
        exact Rv.mono (gPlus_ex S0.ex) r
      | r ys => cases k <;> (unfold rs at h; cases h)
      | c n =>
        have h' : (if b ≤ n then ((S.M[n]?).join).map D.lst else none) = some d := by cases k <;> (unfold rs at h; exact h)
        split at h'
        · rename_i hb
          cases e : (S.M[n]?).join with
          | none => rw [e] at h'; cases h'
          | some ds =>
            rw [e] at h'
            cases h'
            obtain ⟨a, rfl, ha⟩ := r
            obtain ⟨xs, _, _, e3, e4⟩ := cell_at S0 e ha
            exact .lst (by rw [gPlus_in (live_m hb ha e)]; exact e3) (e4.mono (gPlus_ex S0.ex))
        · cases h'
  | 0, .l n, u, d, r, h => by unfold rs at h; cases h
  | 0, .t vs, u, d, r, h => by unfold rs at h; cases h
  | k + 1, .l n, u, d, r, h => by
    unfold rs at h
    split at h
    · rename_i hb
      split at h
      · rename_i ws ew
        cases e : rsL (rs b k S) ws with
        | none => rw [e] at h; cases h
        | some ds =>
          rw [e] at h
          cases h
          cases r with
          | l ha =>
            obtain ⟨us, h1, h2⟩ := W.getL ew ha
            exact .lst (by rw [gPlus_in ⟨n, hb, ha, .inr ⟨ws, ew⟩⟩]; exact h1) (rss_of W k ws h2 e)
      · cases h
    · cases h
  | k + 1, .t ws, u, d, r, h => by
    unfold rs at h
    cases e : rsL (rs b k S) ws with
    | none => rw [e] at h; cases h
    | some ds =>
      rw [e] at h
      cases h
      obtain ⟨Z, S0, _⟩ := W.ex
      cases r with
      | t hs rr => exact .tup (Evl.ex_t (gPlus_ex S0.ex) hs) (rss_of W k ws rr e)
theorem rss_of {F : Fz} {κ : List Addr} {G : Hp} {S : WSt} {H : Hp} (W : SmW K F κ G S H) {b : Nat} : ∀ (k : Nat) (ws : List Wv) {us : List V} {ds : List D}, RxWs K κ G us ws → rsL (rs b k S) ws = some ds → Rvs K (gPlus κ S b G H) us ds
  | k, [], us, ds, r, h => by
    cases r
    cases h
    exact .nil
  | k, w :: ws, us, ds, r, h => by
    cases r with
    | cons a r =>
      unfold rsL at h
      split at h
      · rename_i x xs e1 e2
        cases h
        exact .cons (rs_of W k w a e1) (rss_of W k ws r e2)
      · cases h
end
theorem flat_any {G : Hp} {κ : List Addr} {u : V} {G' : Hp} {x : D} (h : x.flat = true) (r : Rv K G u x) : Rv K G' u x := by
  cases r with
  | non => exact .non
  | bl b => exact .bl b
  | int i => exact .int i
  | str s => exact .str s
  | ty n h' => cases h
  | exc a c o => cases h
  | lst a r => cases h
  | tup a r => cases h
/-- as if nothing could change .. -/
theorem SmW.bor {F : Fz} {κ : List Addr} {G : Hp} {S : WSt} {H : Hp} {σ : L2.St} {ρ : WEnv} (W : SmW K F κ G S H) (E : SeW K κ G σ ρ) :
    ∃ F' : Fz, Sm K F' κ (gPlus κ S 0 G H) (deadM S.M) H ∧ Se K κ (gPlus κ S 0 G H) σ (rsE S ρ) ∧
      ∀ κ1 G1 M1 H1, Le κ (gPlus κ S 0 G H) κ1 G1 → Sm K F' κ1 G1 M1 H1 → SmW K F κ G S H1 := by
  obtain ⟨Z, S0, hz, hn⟩ := W.ex
  refine ⟨⟨F.f, fun a => open Classical in if Live κ S 0 a then none else Z a⟩, ⟨fun a o e => ?_, S0.fx, fun a o e => ?_, fun a o e => ?_, fun a o e => ?_, fun a o e => ?_, S0.fk, fun n a ds h1 h2 => ?_, by simp [deadM, S0.len], S0.nd, S0.th, fun n ds e => ?_⟩, ⟨by simp [rsE, E.len], fun i x e => ?_⟩, fun κ1 G1 M1 H1 l1 S1 => ?_⟩
  · by_cases ha : Live κ S 0 a
    · rw [gPlus_in ha] at e; exact e
    · rw [gPlus_out ha] at e; exact S0.ex a o e
  · dsimp only at e
    split at e
    · cases e
    · exact S0.zx a o e
  · rw [gPlus_out (fun h => by have := S0.fk a h.mem; have e' : F.f a = some o := e; rw [show (⟨F.f, Z⟩ : Fz).f a = F.f a from rfl, e'] at this; cases this)]
    exact S0.dj a o e
  · dsimp only at e
    split at e
    · cases e
    · rename_i hk
      rw [gPlus_out hk]
      exact S0.zj a o e
  · dsimp only
    split
    · rfl
    · exact S0.fd a o e
  · simp [deadM] at h2
  · simp [deadM] at e
  · simp only [rsE, List.getElem?_map] at e
    cases e1 : ρ[i]? with
    | none => rw [e1] at e; cases e
    | some o =>
      rw [e1] at e
      cases o with
      | none => cases e
      | some w =>
        simp only [Option.map_some, Option.bind_some, Option.some.injEq] at e
        cases e2 : rs 0 5 S w with
        | none => rw [e2] at e; cases e
        | some d =>
          rw [e2] at e
          cases e
          obtain ⟨v, h1, h2⟩ := E.at_ i w e1
          exact ⟨v, h1, rs_of W 5 w h2 e2⟩
  · have same : ∀ a, Live κ S 0 a → ∀ o, H a = some o → H1 a = some o := fun a h o e => S1.ex a o (l1.ex a o (by rw [gPlus_in h]; exact e))
    refine ⟨Z, ⟨fun a o e => ?_, S1.fx, fun a o e => ?_, S0.dj, S0.zj, S0.fd, S0.fk, S0.zk, S0.len, S0.nd, fun a h => ?_, fun n ds e => ?_⟩, hz, hn⟩
    · by_cases ha : Live κ S 0 a
      · exact same a ha o (S0.ex a o e)
      · exact S1.ex a o (l1.ex a o (by rw [gPlus_out ha]; exact e))
    · by_cases ha : Live κ S 0 a
      · exact same a ha o (S0.zx a o e)
      · refine S1.zx a o ?_
        dsimp only
        rw [if_neg ha]
        exact e
    · obtain ⟨t, et⟩ := l1.pre
      exact S1.th a (by rw [← et]; exact List.mem_append_left _ h)
    · obtain ⟨a, xs, q1, q2, q4, q5⟩ := S0.cel n ds e
      exact ⟨a, xs, q1, q2, same a ⟨n, Nat.zero_le _, q1, .inl ⟨ds, e⟩⟩ _ q4, q5⟩
theorem wsim_bor {t : TE} {e : DE} (he : SimE K t e) : SimWE K t (wBor e) := ⟨fun {F κ G σ ρ S H Q w S'} W E h k => by
  unfold wBor at h
  split at h
  · rename_i x M1 e1
    obtain ⟨hf, h⟩ := grd_some h
    cases h
    obtain ⟨F', S1, E1, back⟩ := W.bor E
    exact he.run S1 E1 e1 fun κ1 G1 u H1 l1 S2 r1 => k κ G u H1 (Le.refl _ _) (back κ1 G1 _ H1 l1 S2) (.v (flat_any (κ := κ) hf r1))
  · cases h⟩
theorem wsim_borT {t : TT} {e : DT} (he : SimT K t e) : SimWT K t (wBorT e) := ⟨fun {F κ G σ ρ S H b S' Q} W E h k => by
  unfold wBorT at h
  split at h
  · rename_i x M1 e1
    cases h
    obtain ⟨F', S1, E1, back⟩ := W.bor E
    exact he.run S1 E1 e1 fun κ1 G1 H1 l1 S2 => k κ G H1 (Le.refl _ _) (back κ1 G1 _ H1 l1 S2)
  · cases h⟩
end
end Rw
end PRwWSim2
section PRwWSim3
set_option Elab.async false
set_option linter.all false
set_option maxRecDepth 100000
set_option maxHeartbeats 2000000
namespace Rw
open PySem L2 PySem.Spec PyProof.Rows
open Evl (Ex)
section
variable {K : PySem.W.Frag}
/-! ### targets -/
mutual
theorem putW_ok {F : Fz} {κ : List Addr} {G : Hp} {S : WSt} {H : Hp} (W : SmW K F κ G S H) : ∀ (t : Tgt) {u : V} {w : Wv} {σ : L2.St} {ρ ρ' : WEnv} {Q : L2.St → Hp → Prop}, RxW K κ G u w → SeW K κ G σ ρ → t.putW w ρ = some ρ' → (∀ σ', SeW K κ G σ' ρ' → Q σ' H) → t.tg K u σ H Q
  | .name i, u, w, σ, ρ, ρ', Q, r, E, h, k => by
    simp only [Tgt.putW] at h
    cases h
    exact k _ (E.set r i)
  | .tup ts, u, w, σ, ρ, ρ', Q, r, E, h, k => by
    obtain ⟨Z, S0, _⟩ := W.ex
    cases w with
    | l n => simp [Tgt.putW] at h
    | t ws =>
      simp only [Tgt.putW] at h
      split at h
      · rename_i hl
        cases r with
        | t hs rs => exact .inl ⟨_, _, rfl, Evl.ex_t S0.ex hs, by rw [rs.length]; exact hl, putsW_ok W ts rs E h k⟩
      · cases h
    | v x =>
      cases r with
      | v r =>
        cases x with
        | c n => simp [Tgt.putW] at h
        | r n => simp [Tgt.putW] at h
        | d y =>
          cases y with
          | tup xs =>
            simp only [Tgt.putW] at h
            split at h
            · rename_i hl
              cases r with
              | tup hs rs => exact .inl ⟨_, _, rfl, Evl.ex_t S0.ex hs, by rw [rs.length]; exact hl, putsW_ok W ts (RxWs.of_rvs rs) E h k⟩
            · cases h
          | lst xs =>
            simp only [Tgt.putW] at h
            split at h
            · rename_i hl
              cases r with
              | lst hs rs => exact .inr ⟨_, _, rfl, .of (S0.ex _ _ hs), by rw [rs.length]; exact hl, putsW_ok W ts (RxWs.of_rvs rs) E h k⟩
            · cases h
          | _ => simp [Tgt.putW] at h
theorem putsW_ok {F : Fz} {κ : List Addr} {G : Hp} {S : WSt} {H : Hp} (W : SmW K F κ G S H) : ∀ (ts : List Tgt) {us : List V} {ws : List Wv} {σ : L2.St} {ρ ρ' : WEnv} {Q : L2.St → Hp → Prop}, RxWs K κ G us ws → SeW K κ G σ ρ → Tgt.putsW ts ws ρ = some ρ' → (∀ σ', SeW K κ G σ' ρ' → Q σ' H) → Tgt.tgs K ts us σ H Q
  | [], _, _, σ, ρ, ρ', Q, .nil, E, h, k => by
    simp only [Tgt.putsW] at h
    cases h
    exact ⟨rfl, k σ E⟩
  | [], _, _, σ, ρ, ρ', Q, .cons r rs, E, h, k => by simp [Tgt.putsW] at h
  | t :: ts, _, _, σ, ρ, ρ', Q, .nil, E, h, k => by simp [Tgt.putsW] at h
  | t :: ts, _, _, σ, ρ, ρ', Q, .cons (u := u) (us := us) r rs, E, h, k => by
    simp only [Tgt.putsW] at h
    split at h
    · rename_i ρ1 e
      exact ⟨u, us, rfl, putW_ok W t r E e fun σ1 E1 => putsW_ok W ts rs E1 h k⟩
    · cases h
end
/-! ### statements -/
def POW (K : PySem.W.Frag) (F : Fz) (κ : List Addr) (G : Hp) (D : Ends) : WOut → Prop
  | .nx ρ S => ∀ κ' G' σ' H', Le κ G κ' G' → SmW K F κ' G' S H' → SeW K κ' G' σ' ρ → D.nx σ' H'
  | .rt w S => ∀ κ' G' u H', Le κ G κ' G' → SmW K F κ' G' S H' → RxW K κ' G' u w → D.rt u H'
  | .bk ρ S => ∀ κ' G' σ' H', Le κ G κ' G' → SmW K F κ' G' S H' → SeW K κ' G' σ' ρ → D.bk σ' H'
  | .ct ρ S => ∀ κ' G' σ' H', Le κ G κ' G' → SmW K F κ' G' S H' → SeW K κ' G' σ' ρ → D.ct σ' H'
structure SimWS (K : PySem.W.Frag) (t : TS) (s : WS) : Prop where
  run : ∀ {F κ G σ ρ S H D o}, SmW K F κ G S H → SeW K κ G σ ρ → s ρ S = some o → POW K F κ G D o → t D σ H
theorem POW.weak {F : Fz} {κ κ1 : List Addr} {G G1 : Hp} {D : Ends} {o : WOut} (l : Le κ G κ1 G1) (k : POW K F κ G D o) : POW K F κ1 G1 D o := by
  cases o <;> exact fun κ' G' u H' l' S r => k κ' G' u H' (l.trans l') S r
theorem wss_pass : SimWS K tNext sPass := ⟨fun {F κ G σ ρ S H D o} W E h k => by
  cases h
  exact k κ G σ H (Le.refl _ _) W E⟩
theorem wss_seq {t u : TS} {a b : WS} (ha : SimWS K t a) (hb : SimWS K u b) : SimWS K (tSeq t u) (sSeq a b) := ⟨fun {F κ G σ ρ S H D o} W E h k => by
  unfold sSeq at h
  split at h
  · rename_i ρ1 M1 e
    exact ha.run (D := { D with nx := u D }) W E e fun κ1 G1 σ1 H1 l1 S1 E1 => hb.run S1 E1 h (k.weak l1)
  · rename_i q e
    refine ha.run (D := { D with nx := u D }) W E h ?_
    cases o with
    | nx ρ1 M1 => exact absurd h (e ρ1 M1)
    | rt v M1 => exact k
    | bk ρ1 M1 => exact k
    | ct ρ1 M1 => exact k⟩
theorem wss_asg {te : TE} {a : WE} {tg : Tgt} (ha : SimWE K te a) : SimWS K (tAsg te (tg.tg K)) (sAsg tg a) := ⟨fun {F κ G σ ρ S H D o} W E h k => by
  unfold sAsg at h
  split at h
  · rename_i v M1 e
    split at h
    · rename_i ρ1 e2
      cases h
      exact ha.run W E e fun κ1 G1 u H1 l1 W1 r1 => putW_ok W1 tg r1 (E.mono l1) e2 fun σ2 E2 => k κ1 G1 σ2 H1 l1 W1 E2
    · cases h
  · cases h⟩
theorem wss_expr {te : TE} {a : WE} (ha : SimWE K te a) : SimWS K (tDrop te) (sExpr a) := ⟨fun {F κ G σ ρ S H D o} W E h k => by
  unfold sExpr at h
  split at h
  · rename_i v M1 e
    cases h
    exact ha.run W E e fun κ1 G1 u H1 l1 S1 r1 => k κ1 G1 σ H1 l1 S1 (E.mono l1)
  · cases h⟩
theorem wss_ret {te : TE} {a : WE} (ha : SimWE K te a) : SimWS K (tRet te) (sRet a) := ⟨fun {F κ G σ ρ S H D o} W E h k => by
  unfold sRet at h
  split at h
  · rename_i v M1 e
    cases h
    exact ha.run W E e k
  · cases h⟩
theorem wss_if {tc : TT} {c : WT} {t u : TS} {a b : WS} (hc : SimWT K tc c) (ha : SimWS K t a) (hb : SimWS K u b) : SimWS K (tIfS tc t u) (sIf c a b) := ⟨fun {F κ G σ ρ S H D o} W E h k => by
  unfold sIf at h
  split at h
  · rename_i M1 e
    refine hc.run W E e fun κ1 G1 H1 l1 S1 => ?_
    show (if true = true then _ else _)
    rw [if_pos rfl]
    exact ha.run S1 (E.mono l1) h (k.weak l1)
  · rename_i M1 e
    refine hc.run W E e fun κ1 G1 H1 l1 S1 => ?_
    show (if false = true then _ else _)
    rw [if_neg Bool.false_ne_true]
    exact hb.run S1 (E.mono l1) h (k.weak l1)
  · cases h⟩
theorem wss_break : SimWS K tBreak sBreak := ⟨fun {F κ G σ ρ S H D o} W E h k => by
  cases h
  exact k κ G σ H (Le.refl _ _) W E⟩
theorem wss_cont : SimWS K tCont sCont := ⟨fun {F κ G σ ρ S H D o} W E h k => by
  cases h
  exact k κ G σ H (Le.refl _ _) W E⟩
theorem wss_never : SimWS K tNever sNever := ⟨fun {F κ G σ ρ S H D o} W E h k => by cases h⟩
theorem wss_wipe {t : TS} {a : WS} (vs : List Nat) (ha : SimWS K t a) : SimWS K t (sWipe vs a) := ⟨fun {F κ G σ ρ S H D o} W E h k => by
  unfold sWipe at h
  split at h
  · rename_i q e
    cases h
    refine ha.run W E e ?_
    cases q with
    | nx ρ1 M1 => exact fun κ' G' σ' H' l S' E' => k κ' G' σ' H' l S' (E'.wipe vs)
    | bk ρ1 M1 => exact fun κ' G' σ' H' l S' E' => k κ' G' σ' H' l S' (E'.wipe vs)
    | ct ρ1 M1 => exact fun κ' G' σ' H' l S' E' => k κ' G' σ' H' l S' (E'.wipe vs)
    | rt v M1 => exact k
  · cases h⟩
theorem wss_pre {t : TS} {a : WS} (vs : List Nat) (ha : SimWS K t a) : SimWS K t (sPre vs a) := ⟨fun {F κ G σ ρ S H D o} W E h k => ha.run W (E.wipe vs) h k⟩
theorem wss_for {wi : TI} {it : DI} {tg : Tgt} {tb : TS} {s : WS} (hi : SimI K wi it) (hs : SimWS K tb s) : SimWS K (tFor wi (tg.tg K) tb) (sFor it tg s) := ⟨fun {F κ G σ ρ S H D o} W E h k => by
  unfold sFor at h
  obtain ⟨Z, S0, hz, hn⟩ := W.ex
  split at h
  · rename_i xs src M' e
    refine hi.run S0 E.flat e fun κ1 G1 H1 J Gd Y l1 S1 W1 hG hY => ?_
    refine for_it W1 (fun i σ H => ∃ κ2 G2 ρ2 S3, Le κ1 G1 κ2 G2 ∧ SmW K F κ2 G2 S3 H ∧ SeW K κ2 G2 σ ρ2 ∧ i ≤ xs.length ∧ forW (fun S' => stand src M' S'.M) (fun x => stepW tg s (.v (.d x))) (xs.drop i) ρ2 S3 = some o) ?_ ?_ ?_ ?_
    · exact ⟨κ1, G1, ρ, _, Le.refl _ _, SmW.flat hz hn l1 S1, E.mono l1, Nat.zero_le _, h⟩
    · rintro i σ H hi ⟨κ2, G2, ρ2, S3, l2, W2, E2, _, h2⟩
      obtain ⟨Z2, S2, _⟩ := W2.ex
      refine hG _ κ2 G2 S3.M H l2 S2 ?_
      cases hx : xs.drop i with
      | nil => rw [hx] at h2; unfold forW at h2; exact (grd_some h2).1
      | cons y r => rw [hx] at h2; unfold forW at h2; exact (grd_some h2).1
    · rintro i x σ H H' hi ⟨κ2, G2, ρ2, S3, l2, W2, E2, _, h2⟩ hy
      obtain ⟨Z2, S2, hz2, hn2⟩ := W2.ex
      have hx : xs.drop i = xs[i] :: xs.drop (i + 1) := List.drop_eq_getElem_cons hi
      rw [hx] at h2
      unfold forW at h2
      obtain ⟨st, h2⟩ := grd_some h2
      obtain ⟨G3, d, x3, S4, ed, rd⟩ := hY i _ κ2 G2 S3.M H x H' hi l2 S2 st hy
      have ed2 : xs[i] = d := by
        rw [List.getElem?_eq_getElem hi] at ed
        exact Option.some.inj ed
      rw [ed2] at h2
      have l3 : Le κ1 G1 κ2 G3 := l2.trans ⟨List.prefix_refl _, x3⟩
      have W4 : SmW K F κ2 G3 S3 H' := SmW.flat (F := F) hz2 hn2 ⟨List.prefix_refl _, x3⟩ S4
      cases es : stepW tg s (.v (.d d)) ρ2 S3 with
      | none => simp only [es] at h2; cases h2
      | some q =>
        simp only [es] at h2
        unfold stepW at es
        cases ep : tg.putW (.v (.d d)) ρ2 with
        | none => simp only [ep] at es; cases es
        | some ρ1 =>
          simp only [ep] at es
          refine putW_ok W4 tg (w := .v (.d d)) (.v rd) (E2.mono ⟨List.prefix_refl _, x3⟩) ep fun σ2 E3 => hs.run W4 E3 es ?_
          cases q with
          | nx ρ4 M4 => exact fun κ' G' σ' H' l S' E' => ⟨κ', G', ρ4, M4, l3.trans l, S', E', by omega, h2⟩
          | ct ρ4 M4 => exact fun κ' G' σ' H' l S' E' => ⟨κ', G', ρ4, M4, l3.trans l, S', E', by omega, h2⟩
          | bk ρ4 M4 =>
            cases h2
            exact fun κ' G' σ' H' l S' E' => k κ' G' σ' H' ((l1.trans l3).trans l) S' E'
          | rt v M4 =>
            cases h2
            exact fun κ' G' u H' l S' r => k κ' G' u H' ((l1.trans l3).trans l) S' r
    · rintro σ H ⟨κ2, G2, ρ2, S3, l2, W2, E2, _, h2⟩
      rw [List.drop_length] at h2
      unfold forW at h2
      obtain ⟨st, h2⟩ := grd_some h2
      cases h2
      exact k κ2 G2 σ H (l1.trans l2) W2 E2
  · cases h⟩
/-- a loop over a deep list -/
theorem wss_forL {ta : TE} {a : WE} {tg : Tgt} {tb : TS} {s : WS} (ha : SimWE K ta a) (hs : SimWS K tb s) : SimWS K (tFor (iList K ta) (tg.tg K) tb) (sForL a tg s) := ⟨fun {F κ G σ ρ S H D o} W E h k => by
  unfold sForL at h
  split at h
  · rename_i n S1 e
    split at h
    · rename_i ws ew
      refine ha.run W E e fun κ1 G1 u H1 l1 W1 r1 => ?_
      cases r1 with
      | l hb =>
        rename_i b
        obtain ⟨us, q1, q2⟩ := W1.getL ew hb
        refine ⟨b, rfl, ⟨us, .of q1⟩, ?_⟩
        have WK : Walk (Itl K b) ws.length (fun H => ∃ us κ G, SqL K H b us ∧ RxWs K κ G us ws) (fun i H x H' => H' = H ∧ ∀ us, SqL K H b us → us[i]? = some x) :=
          ⟨fun i H hi ⟨us, κ, G, q, p⟩ => by
            have hl : i < us.length := by rw [p.length]; exact hi
            exact ⟨us, us[i], q, by simp [hl]⟩, fun H ⟨us, κ, G, q, p⟩ => ⟨us, q, by rw [p.length]; exact Nat.le_refl _⟩, fun i H x H' hi _ y => y⟩
        refine for_it WK (fun i σ H => ∃ κ2 G2 ρ2 S3, Le κ1 G1 κ2 G2 ∧ SmW K F κ2 G2 S3 H ∧ SeW K κ2 G2 σ ρ2 ∧ i ≤ ws.length ∧ forW (fun S' => S'.N n = some ws) (stepW tg s) (ws.drop i) ρ2 S3 = some o) ?_ ?_ ?_ ?_
        · exact ⟨κ1, G1, ρ, _, Le.refl _ _, W1, E.mono l1, Nat.zero_le _, h⟩
        · rintro i σ H hi ⟨κ2, G2, ρ2, S3, l2, W2, E2, _, h2⟩
          have st : S3.N n = some ws := by
            cases hx : ws.drop i with
            | nil => rw [hx] at h2; unfold forW at h2; exact (grd_some h2).1
            | cons y r => rw [hx] at h2; unfold forW at h2; exact (grd_some h2).1
          obtain ⟨vs, p1, p2⟩ := W2.getL st (l2.at_ hb)
          exact ⟨vs, κ2, G2, .of p1, p2⟩
        · rintro i x σ H H' hi ⟨κ2, G2, ρ2, S3, l2, W2, E2, _, h2⟩ ⟨rfl, hy⟩
          have hx : ws.drop i = ws[i] :: ws.drop (i + 1) := List.drop_eq_getElem_cons hi
          rw [hx] at h2
          unfold forW at h2
          obtain ⟨st, h2⟩ := grd_some h2
          obtain ⟨vs, p1, p2⟩ := W2.getL st (l2.at_ hb)
          obtain ⟨w, hw, rw'⟩ := p2.get' (hy vs (.of p1))
          have ed2 : ws[i] = w := by
            rw [List.getElem?_eq_getElem hi] at hw
            exact Option.some.inj hw
          rw [ed2] at h2
          cases es : stepW tg s w ρ2 S3 with
          | none => simp only [es] at h2; cases h2
          | some q =>
            simp only [es] at h2
            unfold stepW at es
            cases ep : tg.putW w ρ2 with
            | none => simp only [ep] at es; cases es
            | some ρ1 =>
              simp only [ep] at es
              refine putW_ok W2 tg rw' E2 ep fun σ2 E3 => hs.run W2 E3 es ?_
              cases q with
              | nx ρ4 M4 => exact fun κ' G' σ' H' l S' E' => ⟨κ', G', ρ4, M4, l2.trans l, S', E', by omega, h2⟩
              | ct ρ4 M4 => exact fun κ' G' σ' H' l S' E' => ⟨κ', G', ρ4, M4, l2.trans l, S', E', by omega, h2⟩
              | bk ρ4 M4 =>
                cases h2
                exact fun κ' G' σ' H' l S' E' => k κ' G' σ' H' ((l1.trans l2).trans l) S' E'
              | rt v M4 =>
                cases h2
                exact fun κ' G' u H' l S' r => k κ' G' u H' ((l1.trans l2).trans l) S' r
        · rintro σ H ⟨κ2, G2, ρ2, S3, l2, W2, E2, _, h2⟩
          rw [List.drop_length] at h2
          unfold forW at h2
          obtain ⟨st, h2⟩ := grd_some h2
          cases h2
          exact k κ2 G2 σ H (l1.trans l2) W2 E2
    · cases h
  · cases h⟩
theorem wss_while {tc : TT} {c : WT} {tb : TS} {s : WS} (hc : SimWT K tc c) (hs : SimWS K tb s) : SimWS K (tWhile tc tb) (sWhile c s) := ⟨fun {F κ G σ ρ S H D o} W E h k => by
  obtain ⟨n, hn⟩ := sWhile_some h
  refine ⟨fun m σ H => ∃ κ2 G2 ρ2 S2, Le κ G κ2 G2 ∧ SmW K F κ2 G2 S2 H ∧ SeW K κ2 G2 σ ρ2 ∧ whileW c s m ρ2 S2 = some o, ⟨n, κ, G, ρ, S, Le.refl _ _, W, E, hn⟩, ?_⟩
  rintro m σ H ⟨κ2, G2, ρ2, M2, l2, S2, E2, h2⟩
  cases m with
  | zero => cases h2
  | succ m =>
    unfold whileW at h2
    cases ec : c ρ2 M2 with
    | none => simp only [ec] at h2; cases h2
    | some p =>
      obtain ⟨b, M3⟩ := p
      simp only [ec] at h2
      refine hc.run S2 E2 ec fun κ3 G3 H3 l3 S3 => ?_
      cases b with
      | false =>
        rw [if_neg Bool.false_ne_true]
        simp only at h2
        cases h2
        exact k κ3 G3 σ H3 (l2.trans l3) S3 (E2.mono l3)
      | true =>
        rw [if_pos rfl]
        simp only at h2
        cases es : s ρ2 M3 with
        | none => simp only [es] at h2; cases h2
        | some q =>
          simp only [es] at h2
          refine ⟨fun σ' H' => ∃ κ4 G4 ρ4 M4, Le κ G κ4 G4 ∧ SmW K F κ4 G4 M4 H' ∧ SeW K κ4 G4 σ' ρ4 ∧ whileW c s m ρ4 M4 = some o, fun σ' H' w => ⟨m, Nat.lt_succ_self _, w⟩, hs.run S3 (E2.mono l3) es ?_⟩
          cases q with
          | nx ρ4 M4 => exact fun κ' G' σ' H' l S' E' => ⟨κ', G', ρ4, M4, (l2.trans l3).trans l, S', E', h2⟩
          | ct ρ4 M4 => exact fun κ' G' σ' H' l S' E' => ⟨κ', G', ρ4, M4, (l2.trans l3).trans l, S', E', h2⟩
          | bk ρ4 M4 =>
            cases h2
            exact fun κ' G' σ' H' l S' E' => k κ' G' σ' H' ((l2.trans l3).trans l) S' E'
          | rt v M4 =>
            cases h2
            exact fun κ' G' u H' l S' r => k κ' G' u H' ((l2.trans l3).trans l) S' r⟩
/-! ### defs -/
def spW (K : PySem.W.Frag) (f : WF) (n : Nat) : Sp := fun vs H Q _ => ∃ F κ G S as w S', SmW K F κ G S H ∧ RxWs K κ G vs as ∧ as.length = n ∧ f as S = some (w, S') ∧ PVW K F κ G Q w S'
theorem wsim_call {f : WF} {n : Nat} {t : TA} {as : WA} {E : XK} (ha : SimWA K t as) (hn : ∀ ρ S ws S', as ρ S = some (ws, S') → ws.length = n) : SimWE K (tCall (spW K f n) [] E t) (wCall f as) := ⟨fun {F κ G σ ρ S H Q w S'} W E h k => by
  unfold wCall at h
  split at h
  · rename_i xs M1 e
    refine ha.run W E e fun κ1 G1 us H1 l1 S1 r1 => ?_
    rw [List.append_nil]
    exact ⟨F, κ1, G1, M1, xs, w, S', S1, r1, hn _ _ _ _ e, h, k.weak l1⟩
  · cases h⟩
theorem wl_nil : ∀ ρ S ws S', wNil ρ S = some (ws, S') → ws.length = 0 := fun ρ M vs M' h => by cases h; rfl
theorem wl_cons {a : WE} {as : WA} {n : Nat} (h : ∀ ρ S ws S', as ρ S = some (ws, S') → ws.length = n) : ∀ ρ S ws S', wCons a as ρ S = some (ws, S') → ws.length = n + 1 := fun ρ M vs M' e => by
  unfold wCons at e
  split at e
  · split at e
    · rename_i xs M2 e2
      cases e
      simp [h _ _ _ _ e2]
    · cases e
  · cases e
theorem start_sew {κ : List Addr} {G : Hp} {N : List Str} : ∀ {vs : List V} {as : List Wv}, RxWs K κ G vs as → SeW K κ G (start N vs) (startW N.length as) := fun {vs as} r => by
  refine ⟨by simp [L2.start, startW, r.length], fun i x e => ?_⟩
  unfold startW at e
  by_cases hi : i < as.length
  · rw [List.getElem?_append_left (by simpa using hi), List.getElem?_map] at e
    cases ea : as[i]? with
    | none => rw [ea] at e; cases e
    | some y =>
      rw [ea] at e
      cases e
      obtain ⟨v, hv, rv⟩ := r.get ea
      refine ⟨v, ?_, rv⟩
      unfold L2.start
      rw [List.getElem?_append_left (by simpa [r.length] using hi), List.getElem?_map, hv]
      rfl
  · rw [List.getElem?_append_right (by simpa using hi), List.getElem?_replicate] at e
    split at e <;> cases e
end
/-! ### the judgements over syntax -/
structure PWE (X : Cx) (e : Expr) (d : WE) : Prop where
  ex : ∃ t, PE X e t ∧ SimWE X.K t d
structure PWT (X : Cx) (e : Expr) (d : WT) : Prop where
  ex : ∃ t, PT X e t ∧ SimWT X.K t d
structure PWW (X : Cx) (e : Expr) (d : WT) : Prop where
  ex : ∃ t, PW X e t ∧ SimWT X.K t d
structure PWA (X : Cx) (es : List Expr) (d : WA) (n : Nat) : Prop where
  ex : ∃ t, PA X es t ∧ SimWA X.K t d
  len : ∀ ρ S ws S', d ρ S = some (ws, S') → ws.length = n
structure PWS (X : Cx) (s : Stmt) (d : WS) : Prop where
  ex : ∃ t, PS X s t ∧ SimWS X.K t d
structure PWB (X : Cx) (s : List Stmt) (d : WS) : Prop where
  ex : ∃ t, PSs X s t ∧ SimWS X.K t d
/-- THE RULE for a deep def -/
theorem fn_okW {P : Program} {w : World} {K : PySem.W.Frag} {mg : Str → Option Value} {base : Heap} {x qual : Str} {st : Stmt} {f : Addr} {fd : FuncData} {N ps : List Str} {k : Nat} {ds : WS} (F : Fun K x qual st f fd) (S : FnScope N ps (defScope st))
    (hb : ∀ (cdv : Value) (A : Around) (outer : List Env) (s : Shared) (H : Hp) (E : XK), Room k (A.deeper (envOfC qual (defScope st) s.heap.objs.size f cdv)) → PWB (cxOf CX0 P w K mg base N qual (defScope st) f cdv A outer s H E).nox (defBody st) ds) :
    FnOk P w K mg base CX0 (k + 1) f fd ps (spW K (fnW N.length ds) ps.length) := by
  refine F.ok S (fun vs H Q E h => ?_) (fun cdv A outer s H vs Q E hr h => ?_)
  · obtain ⟨F', κ, G, M, as, v, M', _, r, hl, _⟩ := h
    rw [r.length, hl]
  · obtain ⟨F', κ, G, M, as, v, M', S0, r, hl, hf, k0⟩ := h
    obtain ⟨t, ht, hs⟩ := (hb cdv A outer s H E hr).ex
    refine ⟨t, ht, ?_⟩
    unfold fnW at hf
    split at hf
    · rename_i v1 M1 e
      cases hf
      exact hs.run S0 (start_sew r) e k0
    · rename_i ρ1 M1 e
      cases hf
      exact hs.run S0 (start_sew r) e fun κ' G' σ' H' l S' E' => k0 κ' G' _ H' l S' (.v Rv.non)
    · cases hf
/-- .. that hands back data -/
theorem fin_okF {K : PySem.W.Frag} {F : Fz} {κ κ' : List Addr} {G G' : Hp} {M : DSt} {S1 : WSt} {H' : Hp} (hl : κ.length = M.length) (l : Le κ G κ' G') (W : SmW K F κ' G' S1 H') :
    Le κ G κ (gPlus κ' S1 M.length G' H') ∧ Sm K F κ (gPlus κ' S1 M.length G' H') (S1.M.take M.length) H' := by
  obtain ⟨Z, S0, hz, hn⟩ := W.ex
  have e4 : κ'.take M.length = κ := by
    obtain ⟨t, rfl⟩ := l.pre
    rw [← hl, List.take_left]
  have tk := S0.take M.length
  rw [e4] at tk
  have fo : ∀ a o, F.f a = some o → ¬ Live κ' S1 M.length a := fun a o e h => by
    have := S0.fk a h.mem
    rw [show (⟨F.f, Z⟩ : Fz).f a = F.f a from rfl, e] at this
    cases this
  have zo : ∀ a o, F.z a = some o → ¬ Live κ' S1 M.length a := fun a o e ⟨n, _, ha, h⟩ => by
    rcases h with ⟨ds, h⟩ | ⟨ws, h⟩
    · have := S0.zk n a ds ha h
      rw [show (⟨F.f, Z⟩ : Fz).z a = Z a from rfl, hz a o e] at this
      cases this
    · obtain ⟨b, us, h1, h2, _⟩ := hn n ws h
      rw [ha] at h1
      cases h1
      rw [e] at h2
      cases h2
  have ko : ∀ n a, κ[n]? = some a → n < M.length ∧ ¬ Live κ' S1 M.length a := fun n a ha => by
    have hn' : n < M.length := by rw [← hl]; exact (List.getElem?_eq_some_iff.mp ha).1
    refine ⟨hn', fun ⟨m, hm, hb, _⟩ => ?_⟩
    have := nodup_at S0.nd hb (l.at_ ha)
    omega
  refine ⟨⟨List.prefix_refl _, l.ex.trans (gPlus_ex S0.ex)⟩, ⟨fun a o e => ?_, tk.fx, fun a o e => tk.zx a o (hz a o e), fun a o e => ?_, fun a o e => ?_, fun a o e => ?_, tk.fk, fun n a ds h1 h2 => ?_, tk.len, tk.nd, tk.th, fun n ds e => ?_⟩⟩
  · by_cases ha : Live κ' S1 M.length a
    · rw [gPlus_in ha] at e; exact e
    · rw [gPlus_out ha] at e; exact S0.ex a o e
  · rw [gPlus_out (fo a o e)]
    exact S0.dj a o e
  · rw [gPlus_out (zo a o e)]
    exact S0.zj a o (hz a o e)
  · have := S0.fd a o e
    cases q : F.z a with
    | none => rfl
    | some o' =>
      rw [show (⟨F.f, Z⟩ : Fz).z a = Z a from rfl, hz a o' q] at this
      cases this
  · have := tk.zk n a ds h1 h2
    cases q : F.z a with
    | none => rfl
    | some o' =>
      rw [show (⟨F.f, Z⟩ : Fz).z a = Z a from rfl, hz a o' q] at this
      cases this
  · obtain ⟨a, xs, q1, q2, q4, q5⟩ := tk.cel n ds e
    exact ⟨a, xs, q1, by rw [gPlus_out (ko n a q1).2]; exact q2, q4, q5.mono (gPlus_ex S0.ex)⟩
theorem SmW.of {K : PySem.W.Frag} {F : Fz} {κ : List Addr} {G : Hp} {M : DSt} {H : Hp} (S : Sm K F κ G M H) : SmW K F κ G ⟨M, fun _ => none⟩ H := ⟨F.z, S, fun _ _ e => e, fun _ _ e => by cases e⟩
theorem fn_okF {P : Program} {w : World} {K : PySem.W.Frag} {mg : Str → Option Value} {base : Heap} {x qual : Str} {st : Stmt} {f : Addr} {fd : FuncData} {N ps : List Str} {k : Nat} {ds : WS} (F : Fun K x qual st f fd) (S : FnScope N ps (defScope st))
    (hb : ∀ (cdv : Value) (A : Around) (outer : List Env) (s : Shared) (H : Hp) (E : XK), Room k (A.deeper (envOfC qual (defScope st) s.heap.objs.size f cdv)) → PWB (cxOf CX0 P w K mg base N qual (defScope st) f cdv A outer s H E).nox (defBody st) ds) :
    FnOk P w K mg base CX0 (k + 1) f fd ps (spD K (fnF N.length ds) ps.length) := by
  refine F.ok S (fun vs H Q E h => ?_) (fun cdv A outer s H vs Q E hr h => ?_)
  · obtain ⟨F', κ, G, M, as, v, M', _, r, hl, _⟩ := h
    rw [r.length, hl]
  · obtain ⟨F', κ, G, M, as, v, M', S0, r, hl, hf, k0⟩ := h
    obtain ⟨t, ht, hs⟩ := (hb cdv A outer s H E hr).ex
    refine ⟨t, ht, ?_⟩
    unfold fnF at hf
    split at hf
    · rename_i w1 S1 e
      split at hf
      · rename_i d ed
        cases hf
        refine hs.run (SmW.of S0) (start_sew (RxWs.of_rxs r)) e fun κ' G' u H' l W r' => ?_
        obtain ⟨l2, S2⟩ := fin_okF S0.len l W
        exact k0 κ _ u H' l2 S2 (rs_of W 5 w1 r' ed)
      · cases hf
    · rename_i ρ1 S1 e
      cases hf
      refine hs.run (SmW.of S0) (start_sew (RxWs.of_rxs r)) e fun κ' G' σ' H' l W E' => ?_
      obtain ⟨l2, S2⟩ := fin_okF S0.len l W
      exact k0 κ _ _ H' l2 S2 Rv.non
    · cases hf
end Rw
end PRwWSim3
section PRwWSim4
set_option Elab.async false
set_option linter.all false
set_option maxRecDepth 100000
set_option maxHeartbeats 2000000
namespace Rw
open PySem L2 PySem.Spec PyProof.Rows
open Evl (Ex)
section
variable {K : PySem.W.Frag}
theorem allF_of {κ : List Addr} {G : Hp} : ∀ {us : List V} {ws : List Wv} {xs : List Dv}, RxWs K κ G us ws → allF ws = some xs → Rxs K κ G us xs
  | _, _, _, .nil, h => by cases h; exact .nil
  | _, _, xs, .cons (w := w) (ws := ws) a r, h => by
    cases w with
    | l n => cases h
    | t vs => cases h
    | v x =>
      simp only [allF] at h
      cases e : allF ws with
      | none => rw [e] at h; cases h
      | some ys =>
        rw [e] at h
        cases h
        cases a with
        | v a => exact .cons a (allF_of r e)
/-- behind a flat operation -/
theorem PVW.ofV {F : Fz} {κ : List Addr} {G : Hp} {Z : Hp} {N : Nat → Option (List Wv)} {Q : VK} {z : Dv} {M' : DSt} (hz : ∀ a o, F.z a = some o → Z a = some o) (hn : ∀ (n : Nat) (ws : List Wv), N n = some ws → ∃ a us, κ[n]? = some a ∧ F.z a = none ∧ Z a = some (.lst us) ∧ RxWs K κ G us ws) (k : PVW K F κ G Q (.v z) ⟨M', N⟩) : PV K ⟨F.f, Z⟩ κ G Q z M' :=
  fun κ' G' u H' l S r => k κ' G' u H' l (SmW.flat hz hn l S) (.v r)
theorem wsim_1 {r : V → Hp → VK → Prop} {f : O1} {ta : TE} {a : WE} (hr : SimR1 K r f) (ha : SimWE K ta a) : SimWE K (tUn r ta) (w1 f a) := ⟨fun {F κ G σ ρ S H Q w S'} W E h k => by
  unfold w1 at h
  split at h
  · rename_i x S1 e
    split at h
    · rename_i z M2 e2
      cases h
      refine ha.run W E e fun κ1 G1 u H1 l1 W1 r1 => ?_
      obtain ⟨Z, S0, hz, hn⟩ := W1.ex
      cases r1 with
      | v r1 => exact hr S0 r1 e2 ((k.weak l1).ofV hz hn)
    · cases h
  · cases h⟩
theorem wsim_2 {r : R2} {f : O2} {ta tb : TE} {a b : WE} (hr : SimR2 K r f) (ha : SimWE K ta a) (hb : SimWE K tb b) : SimWE K (tOp r ta tb) (w2 f a b) := ⟨fun {F κ G σ ρ S H Q w S'} W E h k => by
  unfold w2 at h
  split at h
  · rename_i x S1 e
    split at h
    · rename_i y S2 e2
      split at h
      · rename_i z M3 e3
        cases h
        refine ha.run W E e fun κ1 G1 u H1 l1 W1 r1 => hb.run W1 (E.mono l1) e2 fun κ2 G2 v H2 l2 W2 r2 => ?_
        obtain ⟨Z, S0, hz, hn⟩ := W2.ex
        have r1' := r1.mono l2
        cases r1' with
        | v r1' =>
          cases r2 with
          | v r2 => exact hr S0 r1' r2 e3 ((k.weak (l1.trans l2)).ofV hz hn)
      · cases h
    · cases h
  · cases h⟩
theorem wsim_op {r : List V → Hp → VK → Prop} {f : OA} {ta : TA} {a : WA} (hr : SimRA K r f) (ha : SimWA K ta a) : SimWE K (tCB r ta) (wOp f a) := ⟨fun {F κ G σ ρ S H Q w S'} W E h k => by
  unfold wOp at h
  split at h
  · rename_i ws S1 e
    split at h
    · rename_i xs ex
      split at h
      · rename_i z M2 e2
        cases h
        refine ha.run W E e fun κ1 G1 us H1 l1 W1 r1 => ?_
        obtain ⟨Z, S0, hz, hn⟩ := W1.ex
        exact hr S0 (allF_of r1 ex) e2 ((k.weak l1).ofV hz hn)
      · cases h
    · cases h
  · cases h⟩
theorem wsim_lstC (c : Bool) {ta : TA} {a : WA} (ha : SimWA K ta a) : SimWE K (tLst ta) (wLstC c a) := ⟨fun {F κ G σ ρ S H Q w S'} W E h k => by
  unfold wLstC wOp at h
  split at h
  · rename_i ws S1 e
    split at h
    · rename_i xs ex
      split at h
      · rename_i z M2 e2
        cases h
        dsimp only at e2
        split at e2
        · rename_i ds ed
          obtain ⟨hp, e2⟩ := grd_some e2
          refine ha.run W E e fun κ1 G1 us H1 l1 W1 r1 => ?_
          obtain ⟨Z, S0, hz, hn⟩ := W1.ex
          have r := allD_of (allF_of r1 ex) ed
          refine ⟨sz_big (by rw [r.length]; exact hp), fun p hp => ?_⟩
          obtain ⟨κ', G', l, S', r'⟩ := S0.new hp r e2
          exact ((k.weak l1).ofV hz hn) κ' G' _ _ l S' r'
        · cases e2
      · cases h
    · cases h
  · cases h⟩
theorem wsim_bm {r : V → List V → Hp → VK → Prop} {f : Dv → List Dv → DSt → Option (Dv × DSt)} {to : TE} {o : WE} {ta : TA} {a : WA} (hr : SimRM K "list" r f) (hl : ∀ v as M z, f v as M = some z → ∃ n, v = .c n) (ho : SimWE K to o) (ha : SimWA K ta a) : SimWE K (tBM K "list" r to ta) (wM f o a) := ⟨fun {F κ G σ ρ S H Q w S'} W E h k => by
  unfold wM at h
  split at h
  · rename_i x S1 e
    split at h
    · rename_i ws S2 e2
      split at h
      · rename_i xs ex
        split at h
        · rename_i z M3 e3
          cases h
          obtain ⟨n, rfl⟩ := hl _ _ _ _ e3
          refine ho.run W E e fun κ1 G1 u H1 l1 W1 r1 => ⟨?_, ?_⟩
          · obtain ⟨Z, S0, _⟩ := W1.ex
            cases r1 with
            | v r1 =>
              obtain ⟨b, rfl, hb⟩ := r1
              obtain ⟨q, hq⟩ := S0.th b (List.mem_of_getElem? hb)
              exact .inl ⟨rfl, q, .of hq⟩
          · refine ha.run W1 (E.mono l1) e2 fun κ2 G2 us H2 l2 W2 r2 => ?_
            obtain ⟨Z, S0, hz, hn⟩ := W2.ex
            have r1' := r1.mono l2
            cases r1' with
            | v r1' => exact hr S0 r1' (allF_of r2 ex) e3 ((k.weak (l1.trans l2)).ofV hz hn)
        · cases h
      · cases h
    · cases h
  · cases h⟩
theorem wsim_bm0 {r : V → List V → Hp → VK → Prop} {f : Dv → List Dv → DSt → Option (Dv × DSt)} {to : TE} {o : WE} (hr : SimRM K "list" r f) (hl : ∀ v as M z, f v as M = some z → ∃ n, v = .c n) (ho : SimWE K to o) : SimWE K (tBM0 K "list" r to) (wM f o wNil) := ⟨fun {F κ G σ ρ S H Q w S'} W E h k => by
  have h2 := (wsim_bm hr hl ho (wsim_nil (K := K))).run W E h k
  exact h2⟩
theorem wsim_callD {f : DF} {n : Nat} {t : TA} {as : WA} {E : XK} (ha : SimWA K t as) (hn : ∀ ρ S ws S', as ρ S = some (ws, S') → ws.length = n) : SimWE K (tCall (spD K f n) [] E t) (wCallD f as) := ⟨fun {F κ G σ ρ S H Q w S'} W E h k => by
  unfold wCallD wOp at h
  split at h
  · rename_i ws S1 e
    split at h
    · rename_i xs ex
      split at h
      · rename_i z M2 e2
        cases h
        refine ha.run W E e fun κ1 G1 us H1 l1 W1 r1 => ?_
        obtain ⟨Z, S0, hz, hn'⟩ := W1.ex
        rw [List.append_nil]
        have rr := allF_of r1 ex
        exact ⟨⟨F.f, Z⟩, κ1, G1, S1.M, xs, z, M2, S0, rr, by rw [← rr.length, r1.length]; exact hn _ _ _ _ e, e2, (k.weak l1).ofV hz hn'⟩
      · cases h
    · cases h
  · cases h⟩
/-! ### statements -/
theorem wss_par {ta tb : TE} {a b : WE} {i j : Nat} (ha : SimWE K ta a) (hb : SimWE K tb b) : SimWS K (tPar i j (tCons ta (tCons tb tNil))) (sPar i j a b) := ⟨fun {F κ G σ ρ S H D o} W E h k => by
  unfold sPar at h
  split at h
  · rename_i x M1 e
    split at h
    · rename_i y M2 e2
      cases h
      refine ha.run W E e fun κ1 G1 u H1 l1 S1 r1 => hb.run S1 (E.mono l1) e2 fun κ2 G2 v H2 l2 S2 r2 => ⟨u, v, rfl, ?_⟩
      exact k κ2 G2 _ H2 (l1.trans l2) S2 ((((E.mono l1).mono l2).set (r1.mono l2) i).set r2 j)
    · cases h
  · cases h⟩
theorem wss_aug {te : TE} {a : WE} {i : Nat} {r : TIp} {f : O2} (hr : SimIp K r f) (ha : SimWE K te a) : SimWS K (tAug i te r) (sAug i f a) := ⟨fun {F κ G σ ρ S H D o} W E h k => by
  unfold sAug at h
  split at h
  · rename_i x ex
    split at h
    · rename_i y S1 e
      split at h
      · rename_i z M2 e2
        cases h
        obtain ⟨u, hu, ru⟩ := E.at_ i _ ex
        refine ⟨u, hu, ha.run W E e fun κ1 G1 v H1 l1 W1 r1 => ?_⟩
        obtain ⟨Z, S0, hz, hn⟩ := W1.ex
        have ru' := ru.mono l1
        cases ru' with
        | v ru' =>
          cases r1 with
          | v r1 =>
            refine hr S0 ru' r1 e2 fun κ2 G2 w H2 l2 S2 r2 => ?_
            exact k κ2 G2 _ H2 (l1.trans l2) (SmW.flat hz hn l2 S2) (((E.mono l1).mono l2).set (.v r2) i)
      · cases h
    · cases h
  · cases h⟩
theorem wss_put {to ti te : TE} {o : WE} {i : DE} {e : WE} (ho : SimWE K to o) (hi : SimE K ti i) (he : SimWE K te e) : SimWS K (tAsg te (gSub to ti rSetL)) (sPut o i e) := ⟨fun {F κ G σ ρ S H D oo} W E h k => by
  unfold sPut at h
  split at h
  · rename_i w S1 e1
    split at h
    · rename_i x S2 e2
      split at h
      · rename_i kk S3 e3
        refine he.run W E e1 fun κ1 G1 u H1 l1 W1 r1 => ho.run W1 (E.mono l1) e2 fun κ2 G2 v H2 l2 W2 r2 => (wsim_E hi).run W2 ((E.mono l1).mono l2) e3 fun κ3 G3 y H3 l3 W3 r3 => ?_
        have hy : y = .int kk := by cases r3 with | v r3 => exact rx_int r3
        have r1' := (r1.mono l2).mono l3
        have r2' := r2.mono l3
        have ll := (l1.trans l2).trans l3
        have EE := ((E.mono l1).mono l2).mono l3
        split at h
        · rename_i n
          split at h
          · rename_i d
            split at h
            · rename_i xs ex
              split at h
              · rename_i j ej
                cases h
                obtain ⟨Z, S0, hz, hn⟩ := W3.ex
                cases r2' with
                | v r2' =>
                  obtain ⟨a, rfl, ha⟩ := r2'
                  obtain ⟨us, _, _, q3, q4⟩ := cell_at S0 ex ha
                  cases r1' with
                  | v r1' =>
                    refine ⟨a, us, kk, j, rfl, hy, q3, by rw [q4.length, ← ixD_eq]; exact ej, ?_⟩
                    exact k κ3 G3 σ _ ll (SmW.flat (F := F) hz hn (Le.refl _ _) (S0.put ex ha (q4.set r1' j))) EE
              · cases h
            · cases h
          · cases h
        · rename_i n
          split at h
          · rename_i ws ew
            split at h
            · rename_i j ej
              cases h
              cases r2' with
              | l ha =>
                obtain ⟨a, us, h1, h2, h3, h4⟩ := W3.putL (zs := ws.set j w) ew
                rw [h1] at ha
                cases ha
                refine ⟨_, us, kk, j, rfl, hy, h2, by rw [h3.length, ← ixD_eq]; exact ej, ?_⟩
                exact k κ3 G3 σ _ ll (h4 _ (h3.set r1' j)) EE
            · cases h
          · cases h
        · cases h
      · cases h
    · cases h
  · cases h⟩
theorem wss_augS {to ti te : TE} {o : WE} {i : DE} {e : WE} {r : TIp} {f : O2} (hr : SimIp K r f) (ho : SimWE K to o) (hi : SimE K ti i) (he : SimWE K te e) : SimWS K (tAugS to ti te rGetL r rSetL) (sAugS f o i e) := ⟨fun {F κ G σ ρ S H D oo} W E h k => by
  unfold sAugS at h
  split at h
  · rename_i n S1 e1
    split at h
    · rename_i kk S2 e2
      split at h
      · rename_i xs ex
        split at h
        · rename_i j ej
          split at h
          · rename_i x exj
            split at h
            · rename_i y S3 e3
              split at h
              · rename_i z M4 e4
                split at h
                · rename_i ys ey
                  split at h
                  · rename_i hl
                    cases h
                    refine ho.run W E e1 fun κ1 G1 u H1 l1 W1 r1 => (wsim_E hi).run W1 (E.mono l1) e2 fun κ2 G2 v H2 l2 W2 r2 => ?_
                    have hv : v = .int kk := by cases r2 with | v r2 => exact rx_int r2
                    obtain ⟨Z2, S20, hz2, hn2⟩ := W2.ex
                    have r1' := r1.mono l2
                    cases r1' with
                    | v r1' =>
                      obtain ⟨a, rfl, ha⟩ := r1'
                      obtain ⟨us, _, _, q3, q4⟩ := cell_at S20 ex ha
                      obtain ⟨w, hw, rw'⟩ := q4.get exj
                      refine ⟨a, us, kk, j, w, rfl, hv, q3, by rw [q4.length, ← ixD_eq]; exact ej, hw, ?_⟩
                      refine he.run W2 ((E.mono l1).mono l2) e3 fun κ3 G3 y' H3 l3 W3 r3 => ?_
                      obtain ⟨Z3, S30, hz3, hn3⟩ := W3.ex
                      cases r3 with
                      | v r3 =>
                        refine hr S30 (show Rx K κ3 G3 w (.d x) from Rv.mono l3.ex rw') r3 e4 fun κ4 G4 z' H4 l4 S4 r4 => ?_
                        have ha4 := l4.at_ (l3.at_ ha)
                        obtain ⟨us4, _, _, p3, p4⟩ := cell_at S4 ey ha4
                        refine ⟨a, us4, kk, j, rfl, hv, p3, by rw [p4.length, hl, ← ixD_eq]; exact ej, ?_⟩
                        exact k κ4 G4 σ _ (((l1.trans l2).trans l3).trans l4) (SmW.flat (F := F) hz3 hn3 l4 (S4.put ey ha4 (p4.set r4 j))) ((((E.mono l1).mono l2).mono l3).mono l4)
                  · cases h
                · cases h
              · cases h
            · cases h
          · cases h
        · cases h
      · cases h
    · cases h
  · cases h⟩
/-! ### comprehensions -/
theorem SmW.frame {F : Fz} {κ : List Addr} {G : Hp} {S : WSt} {H : Hp} (W : SmW K F κ G S H) {p : Addr} (hp : H p = none) (xs : List V) : F.f p = none ∧ SmW K (F.up p (.lst xs)) κ G S (upd H p (.lst xs)) := by
  obtain ⟨Z, S0, hz, hn⟩ := W.ex
  exact ⟨(S0.fresh hp).2.1, Z, S0.frame hp xs, hz, hn⟩
theorem SmW.grow {F : Fz} {κ : List Addr} {G : Hp} {S : WSt} {H : Hp} {p : Addr} {xs : List V} (W : SmW K (F.up p (.lst xs)) κ G S H) (ys : List V) : SmW K (F.up p (.lst ys)) κ G S (upd H p (.lst ys)) := by
  obtain ⟨Z, S0, hz, hn⟩ := W.ex
  exact ⟨Z, Sm.grow (F := ⟨F.f, Z⟩) S0 ys, hz, hn⟩
theorem SmW.made {F : Fz} {κ : List Addr} {G : Hp} {S : WSt} {H : Hp} {p : Addr} {us : List V} {ws : List Wv} (W : SmW K (F.up p (.lst us)) κ G S H) (hF : F.f p = none) (r : RxWs K κ G us ws) :
    Le κ G (κ ++ [p]) G ∧ SmW K F (κ ++ [p]) G (Rw.newL ws S).2 H ∧ RxW K (κ ++ [p]) G (.ref p) (Rw.newL ws S).1 := by
  obtain ⟨Z, S0, hz, hn⟩ := W.ex
  obtain ⟨S1, nk, g, z, hp⟩ := Sm.unframe (F := ⟨F.f, Z⟩) S0 hF
  have S2 : Sm K ⟨F.f, Z⟩ (κ ++ [p]) G (S.M ++ [none]) H := S1.cell nk g hF z hp fun ds e => by cases e
  have pl : (κ ++ [p])[S.M.length]? = some p := last_at S1.len
  have l : Le κ G (κ ++ [p]) G := Le.newC
  have z' : Z p = none := z
  refine ⟨l, ⟨upd Z p (.lst us), S2.toZ hp g hF ?_, fun a o e => ?_, fun n zs e => ?_⟩, .l pl⟩
  · intro n ds h1 h2
    have := nodup_at S2.nd h1 pl
    subst this
    rw [last_at rfl] at h2
    cases h2
  · have ha : a ≠ p := fun q => by
      subst q
      have := hz a o e
      rw [z'] at this
      cases this
    rw [upd_ne ha]
    exact hz a o e
  · unfold Rw.newL at e
    simp only [upN] at e
    split at e
    · rename_i hm
      subst hm
      cases e
      refine ⟨p, us, pl, ?_, upd_same, r.mono l⟩
      cases q : F.z p with
      | none => rfl
      | some o =>
        have := hz p o q
        rw [z'] at this
        cases this
    · obtain ⟨a, vs, h1, h2, h3, h4⟩ := hn n zs e
      have ha : a ≠ p := fun q => by
        subst q
        rw [z'] at h3
        cases h3
      exact ⟨a, vs, l.at_ h1, h2, by rw [upd_ne ha]; exact h3, h4.mono l⟩
theorem SeW.wipe2 {κ : List Addr} {G : Hp} {σ : L2.St} {ρ : WEnv} (h : SeW K κ G σ ρ) : ∀ vs : List Nat, SeW K κ G (L2.wipe σ vs) (wipeW ρ vs)
  | [] => h
  | v :: vs => by
    have h1 := h.wipe2 vs
    refine ⟨by simp [L2.wipe, wipeW, h1.len], fun j y e => ?_⟩
    unfold wipeW at e
    by_cases hj : v = j
    · subst hj
      by_cases hi : v < (wipeW ρ vs).length
      · rw [List.getElem?_set_self hi] at e
        cases e
      · rw [List.getElem?_eq_none (by simpa using hi)] at e
        cases e
    · rw [List.getElem?_set_ne hj] at e
      obtain ⟨v', a, b⟩ := h1.at_ j y e
      exact ⟨v', by unfold L2.wipe; rw [List.getElem?_set_ne hj]; exact a, b⟩
mutual
/-- what a target does not touch -/
theorem putW_keep {F : Fz} {κ : List Addr} {G : Hp} {S : WSt} {H : Hp} (W : SmW K F κ G S H) : ∀ (t : Tgt) {u : V} {d : D} {σ : L2.St} {ρ ρ' : WEnv} {Q : L2.St → Hp → Prop}, Rv K G u d → SeW K κ G σ ρ → t.putW (.v (.d d)) ρ = some ρ' → (∀ σ', SeW K κ G σ' ρ' → (∀ vs : List Nat, (∀ i ∈ t.slots, i ∈ vs) → L2.wipe σ' vs = L2.wipe σ vs) → Q σ' H) → t.tg K u σ H Q
  | .name i, u, d, σ, ρ, ρ', Q, r, E, h, k => by
    simp only [Tgt.putW] at h
    cases h
    refine k _ (E.set (.v (show Rx K κ G u (.d d) from r)) i) fun vs hv => ?_
    exact wipe_set (hv i (by simp [Tgt.slots]))
  | .tup ts, u, d, σ, ρ, ρ', Q, r, E, h, k => by
    obtain ⟨Z, S0, _⟩ := W.ex
    cases d with
    | tup xs =>
      simp only [Tgt.putW] at h
      split at h
      · rename_i hl
        cases r with
        | tup hs rs => exact .inl ⟨_, _, rfl, Evl.ex_t S0.ex hs, by rw [rs.length]; exact hl, putsW_keep W ts rs E h fun σ' E' w => k σ' E' fun vs hv => w vs (by simpa only [Tgt.slots] using hv)⟩
      · cases h
    | lst xs =>
      simp only [Tgt.putW] at h
      split at h
      · rename_i hl
        cases r with
        | lst hs rs => exact .inr ⟨_, _, rfl, .of (S0.ex _ _ hs), by rw [rs.length]; exact hl, putsW_keep W ts rs E h fun σ' E' w => k σ' E' fun vs hv => w vs (by simpa only [Tgt.slots] using hv)⟩
      · cases h
    | _ => simp [Tgt.putW] at h
theorem putsW_keep {F : Fz} {κ : List Addr} {G : Hp} {S : WSt} {H : Hp} (W : SmW K F κ G S H) : ∀ (ts : List Tgt) {us : List V} {xs : List D} {σ : L2.St} {ρ ρ' : WEnv} {Q : L2.St → Hp → Prop}, Rvs K G us xs → SeW K κ G σ ρ → Tgt.putsW ts (xs.map fun x => .v (.d x)) ρ = some ρ' → (∀ σ', SeW K κ G σ' ρ' → (∀ vs : List Nat, (∀ i ∈ Tgt.slotss ts, i ∈ vs) → L2.wipe σ' vs = L2.wipe σ vs) → Q σ' H) → Tgt.tgs K ts us σ H Q
  | [], _, _, σ, ρ, ρ', Q, .nil, E, h, k => by
    simp only [List.map_nil, Tgt.putsW] at h
    cases h
    exact ⟨rfl, k σ E fun _ _ => rfl⟩
  | [], _, _, σ, ρ, ρ', Q, .cons r rs, E, h, k => by simp [Tgt.putsW] at h
  | t :: ts, _, _, σ, ρ, ρ', Q, .nil, E, h, k => by simp [Tgt.putsW] at h
  | t :: ts, _, _, σ, ρ, ρ', Q, .cons (v := v) (vs := vs) r rs, E, h, k => by
    simp only [List.map_cons, Tgt.putsW] at h
    split at h
    · rename_i ρ1 e
      refine ⟨v, vs, rfl, putW_keep W t r E e fun σ1 E1 w1 => putsW_keep W ts rs E1 h fun σ2 E2 w2 => k σ2 E2 fun ws hw => ?_⟩
      rw [w2 ws fun i hi => hw i (by simp only [Tgt.slotss]; exact List.mem_append_right _ hi), w1 ws fun i hi => hw i (by simp only [Tgt.slotss]; exact List.mem_append_left _ hi)]
    · cases h
end
theorem wsim_lc {wi : TI} {it : DI} {tg : Tgt} {tt : TT} {t : WT} {te : TE} {el : WE} {own : List Nat} (hi : SimI K wi it) (ht : SimWT K tt t) (he : SimWE K te el) (hown : ∀ i ∈ tg.slots, i ∈ own) : SimWE K (tLc wi (tg.tg K) tt te own) (wComp it tg t el own) := ⟨fun {F κ G σ ρ S H Q w S'} W E h k => by
  unfold wComp at h
  obtain ⟨Z, S0, hz, hn⟩ := W.ex
  split at h
  · rename_i xs src M' e
    obtain ⟨hbig, h⟩ := grd_some h
    split at h
    · rename_i ys S2 hl
      cases h
      refine hi.run S0 E.flat e fun κ1 G1 H1 J Gd Y l1 S1 WK hG hY => fun Dl hD => ?_
      have W1 : SmW K F κ1 G1 ⟨M', S.N⟩ H1 := SmW.flat (F := F) hz hn l1 S1
      have E1 := E.mono l1
      obtain ⟨fD, W1f⟩ := W1.frame hD []
      refine lc_it WK (fun i H => ∃ κ2 G2 S3 acc as zs, Le κ1 G1 κ2 G2 ∧ SmW K (F.up Dl (.lst acc)) κ2 G2 S3 H ∧ RxWs K κ2 G2 acc as ∧ acc.length ≤ i ∧ i ≤ xs.length ∧ compW (fun S' => stand src M' S'.M) (cstepW tg t el (wipeW ρ own)) (xs.drop i) S3 = some (zs, S2) ∧ ys = as ++ zs) ?_ ?_ ?_ ?_
      · exact ⟨κ1, G1, ⟨M', S.N⟩, [], [], ys, Le.refl _ _, W1f, .nil, Nat.zero_le _, Nat.zero_le _, hl, rfl⟩
      · rintro i H hi ⟨κ2, G2, S3, acc, as, zs, l2, W2, ra, la, _, h2, e2⟩
        obtain ⟨Z2, S20, _⟩ := W2.ex
        refine hG _ κ2 G2 S3.M H l2 S20 ?_
        cases hx : xs.drop i with
        | nil => rw [hx] at h2; unfold compW at h2; exact (grd_some h2).1
        | cons y r => rw [hx] at h2; unfold compW at h2; exact (grd_some h2).1
      · rintro i x H H' hi ⟨κ2, G2, S3, acc, as, zs, l2, W2, ra, la, _, h2, e2⟩ hy
        obtain ⟨Z2, S20, hz2, hn2⟩ := W2.ex
        have hx : xs.drop i = xs[i] :: xs.drop (i + 1) := List.drop_eq_getElem_cons hi
        rw [hx] at h2
        unfold compW at h2
        obtain ⟨st, h2⟩ := grd_some h2
        obtain ⟨G3, d, x3, S4, ed, rd⟩ := hY i _ κ2 G2 S3.M H x H' hi l2 S20 st hy
        have ed2 : xs[i] = d := by
          rw [List.getElem?_eq_getElem hi] at ed
          exact Option.some.inj ed
        rw [ed2] at h2
        have lx : Le κ2 G2 κ2 G3 := ⟨List.prefix_refl _, x3⟩
        have l3 : Le κ1 G1 κ2 G3 := l2.trans lx
        have W4 : SmW K (F.up Dl (.lst acc)) κ2 G3 S3 H' := SmW.flat (F := F.up Dl (.lst acc)) hz2 hn2 lx S4
        cases es : cstepW tg t el (wipeW ρ own) d S3 with
        | none => simp only [es] at h2; cases h2
        | some q =>
          obtain ⟨o, S5⟩ := q
          simp only [es] at h2
          cases ec : compW (fun S' => stand src M' S'.M) (cstepW tg t el (wipeW ρ own)) (xs.drop (i + 1)) S5 with
          | none => simp only [ec] at h2; cases h2
          | some q =>
            obtain ⟨zs', S6⟩ := q
            simp only [ec] at h2
            unfold cstepW at es
            cases ep : tg.putW (.v (.d d)) (wipeW ρ own) with
            | none => simp only [ep] at es; cases es
            | some ρ1 =>
              simp only [ep] at es
              refine putW_keep W4 tg rd ((E1.mono l3).wipe2 own) ep fun σ2 E2 w2 => ⟨?_, ?_⟩
              · rw [w2 own hown]
                apply List.ext_getElem?
                intro j
                rw [wipe_get, wipe_get, wipe_length_ite]
              · cases et : t ρ1 S3 with
                | none => simp only [et] at es; cases es
                | some p =>
                  obtain ⟨b, S7⟩ := p
                  simp only [et] at es
                  refine ht.run W4 E2 et fun κ4 G4 H4 l4 W5 => ?_
                  cases b with
                  | false =>
                    simp only at es
                    cases es
                    cases h2
                    rw [if_neg Bool.false_ne_true]
                    exact ⟨κ4, G4, _, acc, as, _, l3.trans l4, W5, (ra.mono lx).mono l4, by omega, by omega, ec, e2⟩
                  | true =>
                    simp only at es
                    rw [if_pos rfl]
                    cases ee : el ρ1 S7 with
                    | none => simp only [ee] at es; cases es
                    | some q =>
                      obtain ⟨v, S8⟩ := q
                      simp only [ee] at es
                      cases es
                      cases h2
                      refine he.run W5 (E2.mono l4) ee fun κ5 G5 u H5 l5 W6 r5 => ?_
                      obtain ⟨Z6, S60, _⟩ := W6.ex
                      have ra5 : RxWs K κ5 G5 acc as := ((ra.mono lx).mono l4).mono l5
                      refine ⟨acc, S60.fx Dl _ upd_same, sz_big1 (by omega), κ5, G5, _, acc ++ [u], as ++ [v], zs', (l3.trans l4).trans l5, W6.grow _, ra5.append (.cons r5 .nil), by simp; omega, by omega, ec, ?_⟩
                      rw [e2]
                      simp
      · rintro H ⟨κ2, G2, S3, acc, as, zs, l2, W2, ra, la, _, h2, e2⟩
        rw [List.drop_length] at h2
        unfold compW at h2
        obtain ⟨st, h2⟩ := grd_some h2
        cases h2
        rw [List.append_nil] at e2
        subst e2
        obtain ⟨l', W', r'⟩ := W2.made fD ra
        exact k _ _ _ _ ((l1.trans l2).trans l') W' r'
    · cases h
  · cases h⟩
theorem wsim_yes {t : TT} (h : ∀ σ H Q, Q true H → t σ H Q) : SimWT K t wYes := ⟨fun {F κ G σ ρ S H b S' Q} W E e k => by
  cases e
  exact h _ _ _ (k κ G H (Le.refl _ _) W)⟩
/-! ### what was just made -/
mutual
theorem RxW.back {κ κ' : List Addr} {G0 G : Hp} (hp : κ <+: κ') : ∀ (w : Wv) {u0 u : V}, RxW K κ G0 u0 w → RxW K κ' G u w → RxW K κ G u w
  | .v x, u0, u, h0, h => by
    cases h0 with
    | v h0 =>
      cases h with
      | v h =>
        refine .v ?_
        cases x with
        | d y => exact h
        | r y => exact h
        | c n =>
          obtain ⟨a0, _, e0⟩ := h0
          obtain ⟨a, rfl, e⟩ := h
          have := (Le.at_ (G := G0) (G' := G0) ⟨hp, Ex.refl _⟩ e0)
          rw [e] at this
          cases this
          exact ⟨_, rfl, e0⟩
  | .l n, u0, u, h0, h => by
    cases h0 with
    | l e0 =>
      cases h with
      | l e =>
        have := (Le.at_ (G := G0) (G' := G0) ⟨hp, Ex.refl _⟩ e0)
        rw [e] at this
        cases this
        exact .l e0
  | .t ws, u0, u, h0, h => by
    cases h0 with
    | t _ r0 =>
      cases h with
      | t hs r => exact .t hs (RxWs.back hp ws r0 r)
theorem RxWs.back {κ κ' : List Addr} {G0 G : Hp} (hp : κ <+: κ') : ∀ (ws : List Wv) {us0 us : List V}, RxWs K κ G0 us0 ws → RxWs K κ' G us ws → RxWs K κ G us ws
  | [], _, _, _, h => by cases h; exact .nil
  | w :: ws, _, _, h0, h => by
    cases h0 with
    | cons a0 r0 =>
      cases h with
      | cons a r => exact .cons (RxW.back hp w a0 a) (RxWs.back hp ws r0 r)
end
theorem wsim_frz {t : TE} {a : WE} (ha : SimWE K t a) : SimWE K t (wFrz a) := ⟨fun {F κ G σ ρ S H Q w S'} W E h k => by
  unfold wFrz at h
  split at h
  · rename_i w1 S1 e
    split at h
    · rename_i x ex
      obtain ⟨hN, h⟩ := grd_some h
      cases h
      refine ha.run W E e fun κ' G' u H' l W' r' => ?_
      obtain ⟨Z0, S00, hz0, hn0⟩ := W.ex
      obtain ⟨Z, S0, hz, hn⟩ := W'.ex
      have hl := S00.len
      have e4 : κ'.take S.M.length = κ := by
        obtain ⟨t, rfl⟩ := l.pre
        rw [← hl, List.take_left]
      have tk := S0.take S.M.length
      rw [e4] at tk
      -- the frame: deep lists from there on leave it
      have zo : ∀ a, Live κ' S1 S.M.length a → ∃ n, S.M.length ≤ n ∧ κ'[n]? = some a := fun a ⟨n, h1, h2, _⟩ => ⟨n, h1, h2⟩
      have ko : ∀ n a, κ[n]? = some a → ¬ Live κ' S1 S.M.length a := fun n a ha h => by
        obtain ⟨m, hm, hb⟩ := zo a h
        have hn' : n < S.M.length := by rw [← hl]; exact (List.getElem?_eq_some_iff.mp ha).1
        have := nodup_at S0.nd hb (l.at_ ha)
        omega
      have fz : ∀ a o, F.z a = some o → ¬ Live κ' S1 S.M.length a := fun a o e ⟨n, _, ha, h⟩ => by
        rcases h with ⟨ds, h⟩ | ⟨ws, h⟩
        · have := S0.zk n a ds ha h
          rw [show (⟨F.f, Z⟩ : Fz).z a = Z a from rfl, hz a o e] at this
          cases this
        · obtain ⟨b, us, h1, h2, _⟩ := hn n ws h
          rw [ha] at h1
          cases h1
          rw [e] at h2
          cases h2
      let Z' : Hp := fun a => open Classical in if Live κ' S1 S.M.length a then none else Z a
      have zin : ∀ a o, Z' a = some o → ¬ Live κ' S1 S.M.length a ∧ Z a = some o := fun a o e => by
        by_cases hL : Live κ' S1 S.M.length a
        · have : Z' a = none := if_pos hL
          rw [this] at e
          cases e
        · have : Z' a = Z a := if_neg hL
          rw [this] at e
          exact ⟨hL, e⟩
      have zout : ∀ a, ¬ Live κ' S1 S.M.length a → Z' a = Z a := fun a hL => if_neg hL
      have W2 : SmW K F κ (gPlus κ' S1 S.M.length G' H') ⟨S1.M.take S.M.length, fun n => if n < S.M.length then S1.N n else none⟩ H' := by
        refine ⟨Z', ⟨fun a o e => ?_, tk.fx, fun a o e => tk.zx a o (zin a o e).2, fun a o e => ?_, fun a o e => ?_, fun a o e => ?_, tk.fk, fun n a ds h1 h2 => ?_, tk.len, tk.nd, tk.th, fun n ds e => ?_⟩, fun a o e => ?_, fun n ws e => ?_⟩
        · by_cases ha : Live κ' S1 S.M.length a
          · rw [gPlus_in ha] at e; exact e
          · rw [gPlus_out ha] at e; exact S0.ex a o e
        · rw [gPlus_out (fun h => by
            have := S0.fk a h.mem
            rw [show (⟨F.f, Z⟩ : Fz).f a = F.f a from rfl, show F.f a = some o from e] at this
            cases this)]
          exact S0.dj a o e
        · obtain ⟨hL, e⟩ := zin a o e
          rw [gPlus_out hL]
          exact S0.zj a o e
        · have := S0.fd a o e
          show Z' a = none
          by_cases hL : Live κ' S1 S.M.length a
          · exact if_pos hL
          · rw [zout a hL]
            exact this
        · have := tk.zk n a ds h1 h2
          show Z' a = none
          rw [zout a (ko n a h1)]
          exact this
        · obtain ⟨a, xs, q1, q2, q4, q5⟩ := tk.cel n ds e
          exact ⟨a, xs, q1, by rw [gPlus_out (ko n a q1)]; exact q2, q4, q5.mono (gPlus_ex S0.ex)⟩
        · rw [zout a (fz a o e)]
          exact hz a o e
        · dsimp only at e
          split at e
          · rename_i hlt
            obtain ⟨a0, us0, p1, p2, p3, p4⟩ := hn0 n ws (by rw [← hN n hlt]; exact e)
            obtain ⟨a, us, h1, h2, h3, h4⟩ := hn n ws e
            have e1 := l.at_ p1
            rw [h1] at e1
            cases e1
            refine ⟨_, us, p1, h2, by rw [zout _ (ko n _ p1)]; exact h3, ?_⟩
            exact (RxWs.back l.pre ws p4 h4).mono ⟨List.prefix_refl _, gPlus_ex S0.ex⟩
          · cases e
      exact k κ _ u H' ⟨List.prefix_refl _, l.ex.trans (gPlus_ex S0.ex)⟩ W2 (.v (rs_of W' 5 w1 r' ex))
    · cases h
  · cases h⟩
end
end Rw
end PRwWSim4
section PRwWRules
set_option Elab.async false
set_option linter.all false
set_option maxRecDepth 100000
set_option maxHeartbeats 2000000
/-! RwWRules: one rule a construct: syntax to the deep reading. -/
namespace Rw
open PySem L2 PySem.Spec PyProof.Rows
section
variable {X : Cx} {a b c e : Expr} {pos : Pos} {da : DE} {dt : DT} {wa wb we : WE} {ta tb : WT} {es : List Expr} {was : WA} {n : Nat} {p : Pos} {x : Str} {tg : Expr}
/-! ### expressions -/
theorem q_flat (h : PD X e da) : PWE X e (wE da) := by
  obtain ⟨t, h1, h2⟩ := h.ex
  exact ⟨_, h1, wsim_E h2⟩
theorem q_bor (h : PD X e da) : PWE X e (wBor da) := by
  obtain ⟨t, h1, h2⟩ := h.ex
  exact ⟨_, h1, wsim_bor h2⟩
theorem q_frz (h : PWE X e wa) : PWE X e (wFrz wa) := by
  obtain ⟨t, h1, h2⟩ := h.ex
  exact ⟨_, h1, wsim_frz h2⟩
theorem qt_flat (h : PDT X e dt) : PWT X e (wT dt) := by
  obtain ⟨t, h1, h2⟩ := h.ex
  exact ⟨_, h1, wsim_T h2⟩
theorem qt_bor (h : PDT X e dt) : PWT X e (wBorT dt) := by
  obtain ⟨t, h1, h2⟩ := h.ex
  exact ⟨_, h1, wsim_borT h2⟩
theorem q_var (i : Nat) {x : Str} (hN : X.N[i]? = some x := by rfl) (hv : Vis X.env.scope x := by first | exact Or.inl rfl | exact Or.inr (Or.inl rfl) | exact Or.inr (Or.inr rfl)) (hd : (x == ("__debug__" : Str)) = false := by decide)
    (hcd : (x == ("__classdict__" : Str)) = false := by decide) : PWE X (.Name x pos) (wVar i) := ⟨_, pe_var hN hv hd hcd, wsim_var i⟩
theorem qa_nil : PWA X [] wNil 0 := ⟨⟨_, pa_nil, wsim_nil⟩, wl_nil⟩
theorem qa_cons (ha : PWE X e we) (hr : PWA X es was n) (hs : starEach (e :: es) X.env = (false, eval e X.env) :: starEach es X.env := by rfl) : PWA X (e :: es) (wCons we was) (n + 1) := by
  obtain ⟨t, h1, h2⟩ := ha.ex
  obtain ⟨u, h3, h4⟩ := hr.ex
  exact ⟨⟨_, pa_cons h1 h3 hs, wsim_cons h2 h4⟩, wl_cons hr.len⟩
theorem q_tup {x1} (h : PWA X es was n) : PWE X (.Tuple es x1 pos) (wTup was) := by
  obtain ⟨t, h1, h2⟩ := h.ex
  exact ⟨_, pe_tup h1, wsim_tup h2⟩
theorem q_lst (h : PWA X es was n) : PWE X (.List es pos) (wLst was) := by
  obtain ⟨t, h1, h2⟩ := h.ex
  exact ⟨_, pe_lst h1, wsim_lst h2⟩
theorem q_lstC (c : Bool) (h : PWA X es was n) : PWE X (.List es pos) (wLstC c was) := by
  obtain ⟨t, h1, h2⟩ := h.ex
  exact ⟨_, pe_lst h1, wsim_lstC c h2⟩
theorem q_ix (ha : PWE X a wa) (hb : PD X b da) (hs : PlainIx b := by exact fun _ _ => rfl) : PWE X (.Subscript a b pos) (wIx wa da) := by
  obtain ⟨t, h1, h2⟩ := ha.ex
  obtain ⟨u, h3, h4⟩ := hb.ex
  exact ⟨_, pe_ix ix_seq h1 h3 hs, wsim_ix h2 h4⟩
theorem q_op {op : Operator} {r : R2} {f : O2} (ho : OpR X (binaryOp op) r) (hs : SimR2 X.K r f) (ha : PWE X a wa) (hb : PWE X b wb) : PWE X (.BinOp a op b pos) (w2 f wa wb) := by
  obtain ⟨t, h1, h2⟩ := ha.ex
  obtain ⟨u, h3, h4⟩ := hb.ex
  exact ⟨_, pe_op ho h1 h3, wsim_2 hs h2 h4⟩
theorem q_add (c : Bool) (ha : PWE X a wa) (hb : PWE X b wb) : PWE X (.BinOp a .Add b pos) (w2 (oAdd c) wa wb) := q_op op_add3 (sr_add c) ha hb
theorem q_sub (ha : PWE X a wa) (hb : PWE X b wb) : PWE X (.BinOp a .Sub b pos) (w2 oSub wa wb) := q_op op_sub sr_sub ha hb
theorem q_cmp {op : CmpOp} {f : O2} (hc : CmpR X op f) (ha : PWE X a wa) (hb : PWE X b wb) (hm : behindInMarks op b = false := by first | exact nomark _ (by decide) (by decide) | rfl) : PWE X (.Compare a [op] [b] pos) (w2 f wa wb) := by
  obtain ⟨r, h0, h9⟩ := hc.ex
  obtain ⟨t, h1, h2⟩ := ha.ex
  obtain ⟨u, h3, h4⟩ := hb.ex
  exact ⟨_, pe_cmpR h0 h1 h3 hm, wsim_2 h9 h2 h4⟩
theorem qt_cmp {op : CmpOp} {f : O2} (hc : CmpR X op f) (ha : PWE X a wa) (hb : PWE X b wb) (hm : behindInMarks op b = false := by first | exact nomark _ (by decide) (by decide) | rfl) : PWT X (.Compare a [op] [b] pos) (wTest (w2 f wa wb)) := by
  obtain ⟨r, h0, h9⟩ := hc.ex
  obtain ⟨t, h1, h2⟩ := ha.ex
  obtain ⟨u, h3, h4⟩ := hb.ex
  exact ⟨_, pt_cmpR h0 h1 h3 hm, wsim_tTest (wsim_2 h9 h2 h4)⟩
theorem q_isN {j pos'} (ha : PWE X a wa) : PWE X (.Compare a [.Is] [.Constant .none j pos'] pos) (wIsN false wa) := by
  obtain ⟨t, h1, h2⟩ := ha.ex
  exact ⟨_, pe_cmpR op_isN h1 pe_non (nomark _), wsim_isN h2⟩
theorem q_notN {j pos'} (ha : PWE X a wa) : PWE X (.Compare a [.IsNot] [.Constant .none j pos'] pos) (wIsN true wa) := by
  obtain ⟨t, h1, h2⟩ := ha.ex
  exact ⟨_, pe_cmpR op_notN h1 pe_non (nomark _), wsim_notN h2⟩
theorem qt_isN {j pos'} (ha : PWE X a wa) : PWT X (.Compare a [.Is] [.Constant .none j pos'] pos) (wTest (wIsN false wa)) := by
  obtain ⟨t, h1, h2⟩ := ha.ex
  exact ⟨_, pt_cmpR op_isN h1 pe_non (nomark _), wsim_tTest (wsim_isN h2)⟩
theorem qt_notN {j pos'} (ha : PWE X a wa) : PWT X (.Compare a [.IsNot] [.Constant .none j pos'] pos) (wTest (wIsN true wa)) := by
  obtain ⟨t, h1, h2⟩ := ha.ex
  exact ⟨_, pt_cmpR op_notN h1 pe_non (nomark _), wsim_tTest (wsim_notN h2)⟩
theorem qt_val (he : PWE X e we) (h : ∀ whole, isTrue e X.env whole = (do let v ← whole; standAt e.pos; holding [v] (truthy v)) := by intro _; rfl) : PWT X e (wTest we) := by
  obtain ⟨t, h1, h2⟩ := he.ex
  exact ⟨_, pt_val h1 h, wsim_tB h2⟩
theorem qt_not (ha : PWT X a ta) : PWT X (.UnaryOp .Not a pos) (wNot ta) := by
  obtain ⟨t, h1, h2⟩ := ha.ex
  exact ⟨_, pt_not h1, wsim_not h2⟩
variable {rst : List Expr}
theorem qw_and1 (ha : PWT X a ta) : PWW X (.BoolOp .And [a] pos) ta := by
  obtain ⟨t, h1, h2⟩ := ha.ex
  exact ⟨_, pw_and1 h1, h2⟩
theorem qw_or1 (ha : PWT X a ta) : PWW X (.BoolOp .Or [a] pos) ta := by
  obtain ⟨t, h1, h2⟩ := ha.ex
  exact ⟨_, pw_or1 h1, h2⟩
theorem qw_and (ha : PWT X a ta) (hb : PWW X (.BoolOp .And (b :: rst) pos) tb) : PWW X (.BoolOp .And (a :: b :: rst) pos) (wAnd ta tb) := by
  obtain ⟨t, h1, h2⟩ := ha.ex
  obtain ⟨u, h3, h4⟩ := hb.ex
  exact ⟨_, pw_and h1 h3, wsim_and h2 h4⟩
theorem qw_or (ha : PWT X a ta) (hb : PWW X (.BoolOp .Or (b :: rst) pos) tb) : PWW X (.BoolOp .Or (a :: b :: rst) pos) (wOr ta tb) := by
  obtain ⟨t, h1, h2⟩ := ha.ex
  obtain ⟨u, h3, h4⟩ := hb.ex
  exact ⟨_, pw_or h1 h3, wsim_or h2 h4⟩
theorem qt_w (ha : PWW X a ta) : PWT X a ta := by
  obtain ⟨t, h1, h2⟩ := ha.ex
  exact ⟨_, h1.pt, h2⟩
theorem q_bi {id : String} {r : List V → Hp → VK → Prop} {f : OA} (hc : CallR X (.builtin id) r) (hs : SimRA X.K r f) (hg : Gl X x) (hm : X.mg x = none) (hv : bootBuiltins x = some (.builtin id)) (ha : PWA X (e :: es) was n) (hn : x ≠ "__name__" := by decide) (hdb : (x == ("__debug__" : Str)) = false := by decide)
    (he : starEach (e :: es) X.env = (false, eval e X.env) :: starEach es X.env := by rfl) (hpl : (backTo pos (starEach es X.env)).any (·.1) = false := by rfl) : PWE X (.Call (.Name x p) (e :: es) [] pos) (wOp f was) := by
  obtain ⟨t, h1, h2⟩ := ha.ex
  exact ⟨_, pe_callB hc hg hm hv h1 hn hdb he hpl, wsim_op hs h2⟩
theorem q_bt {T : String} {r : List V → Hp → VK → Prop} {f : OA} (hc : CallR X (.type T) r) (hs : SimRA X.K r f) (hg : Gl X x) (hm : X.mg x = none) (hv : bootBuiltins x = some (.type T)) (ha : PWA X (e :: es) was n) (hn : x ≠ "__name__" := by decide) (hdb : (x == ("__debug__" : Str)) = false := by decide)
    (he : starEach (e :: es) X.env = (false, eval e X.env) :: starEach es X.env := by rfl) (hpl : (backTo pos (starEach es X.env)).any (·.1) = false := by rfl) : PWE X (.Call (.Name x p) (e :: es) [] pos) (wOp f was) := by
  obtain ⟨t, h1, h2⟩ := ha.ex
  exact ⟨_, pe_callTy hc hg hm hv h1 hn hdb he hpl, wsim_op hs h2⟩
theorem q_len (hm : X.mg "len" = none) (ha : PWA X (e :: es) was n) (hg : Gl X "len" := by rfl) (he : starEach (e :: es) X.env = (false, eval e X.env) :: starEach es X.env := by rfl) (hpl : (backTo pos (starEach es X.env)).any (·.1) = false := by rfl) : PWE X (.Call (.Name "len" p) (e :: es) [] pos) (wOp oLen was) := q_bi (x := "len") call_len sa_len hg hm (by decide +kernel) ha (he := he) (hpl := hpl)
theorem q_list (c : Bool) (hm : X.mg "list" = none) (ha : PWA X (e :: es) was n) (hg : Gl X "list" := by rfl) (he : starEach (e :: es) X.env = (false, eval e X.env) :: starEach es X.env := by rfl) (hpl : (backTo pos (starEach es X.env)).any (·.1) = false := by rfl) : PWE X (.Call (.Name "list" p) (e :: es) [] pos) (wOp (oList c) was) := q_bt (x := "list") call_list_of (sa_list c) hg hm (by decide +kernel) ha (he := he) (hpl := hpl)
/-- len of a deep list or tuple -/
theorem q_lenW (hm : X.mg "len" = none) (ha : PWE X a wa) (hg : Gl X "len" := by rfl) (he : starEach [a] X.env = (false, eval a X.env) :: starEach [] X.env := by rfl) (hpl : (backTo pos (starEach [] X.env)).any (·.1) = false := by rfl) : PWE X (.Call (.Name "len" p) [a] [] pos) (wLen wa) := by
  obtain ⟨t, h1, h2⟩ := ha.ex
  have hc : CallR X (.builtin "len") (fun vs H Q => ∃ p us, vs = [.ref p] ∧ (SqL X.K H p us ∨ SqT X.K H p us) ∧ Q (.int us.length) H) := call_len_seq
  exact ⟨_, pe_callB hc hg hm (by decide +kernel) (pa_cons h1 pa_nil he) (by decide) (by decide) he hpl, wsim_len h2⟩
theorem q_append {apos : Pos} (ho : PWE X a wa) (hb : PWE X e we) (hbase : attributeBase a "append" X.env (eval a X.env) = eval a X.env := by rfl)
    (hfew : ((backTo pos (starEach [e] X.env)).all (fun x => !x.1) && (backToKw pos (keywordEach [] X.env)).all (fun x => x.1.isSome)
      && decide ([e].length + ([] : List Keyword).length + (if ([] : List Keyword).isEmpty then 0 else 1) < 30)) = true := by rfl)
    (hline : (apos.endLine == pos.line) = true := by rfl) (hs : starEach [e] X.env = (false, eval e X.env) :: starEach [] X.env := by rfl) (hplain : (backTo pos (starEach [] X.env)).any (·.1) = false := by rfl) : PWE X (.Call (.Attribute a "append" apos) [e] [] pos) (wAppend wa we) := by
  obtain ⟨t, h1, h2⟩ := ho.ex
  obtain ⟨u, h3, h4⟩ := hb.ex
  exact ⟨_, pe_bm PySem.F.plainAttrs_list PySem.F.slot_list_append PySem.F.type_list_append mt_append h1 (pa_cons h3 pa_nil hs) hbase hfew hline hs hplain, wsim_append h2 h4⟩
theorem q_clear {apos : Pos} (ho : PWE X a wa) (hbase : attributeBase a "clear" X.env (eval a X.env) = eval a X.env := by rfl) (hline : (apos.endLine == pos.line) = true := by rfl) : PWE X (.Call (.Attribute a "clear" apos) [] [] pos) (wClear wa) := by
  obtain ⟨t, h1, h2⟩ := ho.ex
  exact ⟨_, pe_bm0 PySem.F.plainAttrs_list PySem.F.slot_list_clear PySem.F.type_list_clear mt_clear h1 hbase hline, wsim_clear h2⟩
theorem q_mAppend {apos : Pos} (ho : PWE X a wa) (hb : PWA X (e :: es) was n) (hbase : attributeBase a "append" X.env (eval a X.env) = eval a X.env := by rfl)
    (hfew : ((backTo pos (starEach (e :: es) X.env)).all (fun x => !x.1) && (backToKw pos (keywordEach [] X.env)).all (fun x => x.1.isSome)
      && decide ((e :: es).length + ([] : List Keyword).length + (if ([] : List Keyword).isEmpty then 0 else 1) < 30)) = true := by rfl)
    (hline : (apos.endLine == pos.line) = true := by rfl) (hs : starEach (e :: es) X.env = (false, eval e X.env) :: starEach es X.env := by rfl) (hplain : (backTo pos (starEach es X.env)).any (·.1) = false := by rfl) : PWE X (.Call (.Attribute a "append" apos) (e :: es) [] pos) (wM mAppend wa was) := by
  obtain ⟨t, h1, h2⟩ := ho.ex
  obtain ⟨u, h3, h4⟩ := hb.ex
  exact ⟨_, pe_bm PySem.F.plainAttrs_list PySem.F.slot_list_append PySem.F.type_list_append mt_append h1 h3 hbase hfew hline hs hplain, wsim_bm sm_append lm_append h2 h4⟩
theorem q_mClear {apos : Pos} (ho : PWE X a wa) (hbase : attributeBase a "clear" X.env (eval a X.env) = eval a X.env := by rfl) (hline : (apos.endLine == pos.line) = true := by rfl) : PWE X (.Call (.Attribute a "clear" apos) [] [] pos) (wM mClear wa wNil) := by
  obtain ⟨t, h1, h2⟩ := ho.ex
  exact ⟨_, pe_bm0 PySem.F.plainAttrs_list PySem.F.slot_list_clear PySem.F.type_list_clear mt_clear h1 hbase hline, wsim_bm0 sm_clear lm_clear h2⟩
end
/-! ### calls -/
structure HasW (P : Program) (w : World) (K : PySem.W.Frag) (mg : Str → Option Value) (base : Heap) (x : Str) (k n : Nat) (df : WF) : Prop where
  ex : ∃ (f : Addr) (fd : FuncData) (ps : List Str), FnOk P w K mg base CX0 k f fd ps (spW K df n) ∧ mg x = some (.ref f) ∧ PySem.W.keepIn K (.ref f) = true ∧ Binds K fd ps []
section
variable {X : Cx} {e : Expr} {es : List Expr} {was : WA} {p pos : Pos} {x : Str} {k n : Nat} {df : DF} {wf : WF}
theorem q_def (Hs : HasW X.prog X.w X.K X.mg X.base x k n wf) (hr : Room k X.A) (ha : PWA X (e :: es) was n) (hg : Gl X x := by rfl) (hdb : (x == ("__debug__" : Str)) = false := by decide) (he : starEach (e :: es) X.env = (false, eval e X.env) :: starEach es X.env := by rfl) (hpl : (backTo pos (starEach es X.env)).any (·.1) = false := by rfl) :
    PWE X (.Call (.Name x p) (e :: es) [] pos) (wCall wf was) := by
  obtain ⟨f, fd, ps, F, hm, hk, hb⟩ := Hs.ex
  obtain ⟨t, h1, h2⟩ := ha.ex
  exact ⟨_, pe_call F hr hg hm hk hb .nil pass0 h1 hdb he hpl, wsim_call h2 ha.len⟩
theorem q_defD (Hs : Has X.prog X.w X.K X.mg X.base x k n df) (hr : Room k X.A) (ha : PWA X (e :: es) was n) (hg : Gl X x := by rfl) (hdb : (x == ("__debug__" : Str)) = false := by decide) (he : starEach (e :: es) X.env = (false, eval e X.env) :: starEach es X.env := by rfl) (hpl : (backTo pos (starEach es X.env)).any (·.1) = false := by rfl) :
    PWE X (.Call (.Name x p) (e :: es) [] pos) (wCallD df was) := by
  obtain ⟨f, fd, ps, F, hm, hk, hb⟩ := Hs.ex
  obtain ⟨t, h1, h2⟩ := ha.ex
  exact ⟨_, pe_call F hr hg hm hk hb .nil pass0 h1 hdb he hpl, wsim_callD h2 ha.len⟩
end
/-! ### comprehensions -/
structure PWTs (X : Cx) (es : List Expr) (d : WT) : Prop where
  ex : ∃ t, PTs X es t ∧ SimWT X.K t d
theorem qc_nil {X : Cx} : PWTs X [] wYes := ⟨_, pts_nil, ⟨fun {F κ G σ ρ S H b S' Q} W E h k => by
  cases h
  exact k κ G H (Le.refl _ _) W⟩⟩
theorem qc_one {X : Cx} {e : Expr} {ta : WT} (h : PWT X e ta) : PWTs X [e] ta := by
  obtain ⟨t, h1, h2⟩ := h.ex
  exact ⟨_, pts_one h1, h2⟩
def tOfW (K : PySem.W.Frag) (d : WE) : TE := fun σ H Q => ∃ F κ G ρ S w S', SmW K F κ G S H ∧ SeW K κ G σ ρ ∧ d ρ S = some (w, S') ∧ PVW K F κ G Q w S'
def tOfWT (K : PySem.W.Frag) (d : WT) : TT := fun σ H Q => ∃ F κ G ρ S b S', SmW K F κ G S H ∧ SeW K κ G σ ρ ∧ d ρ S = some (b, S') ∧ ∀ κ' G' H', Le κ G κ' G' → SmW K F κ' G' S' H' → Q b H'
theorem simOfW {K : PySem.W.Frag} {d : WE} : SimWE K (tOfW K d) d := ⟨fun {F κ G σ ρ S H Q w S'} W E h k => ⟨F, κ, G, ρ, S, w, S', W, E, h, k⟩⟩
theorem simOfWT {K : PySem.W.Frag} {d : WT} : SimWT K (tOfWT K d) d := ⟨fun {F κ G σ ρ S H b S' Q} W E h k => ⟨F, κ, G, ρ, S, b, S', W, E, h, k⟩⟩
theorem PWE.can {X : Cx} {e : Expr} {d : WE} (h : PWE X e d) : PE X e (tOfW X.K d) := by
  obtain ⟨t, h1, h2⟩ := h.ex
  exact ⟨fun pins s σ H Q I ⟨F, κ, G, ρ, S, w, S', W, E, hd, k⟩ => h1.run pins s σ H Q I (h2.run W E hd k)⟩
theorem PWTs.can {X : Cx} {es : List Expr} {d : WT} (h : PWTs X es d) : PTs X es (tOfWT X.K d) := by
  obtain ⟨t, h1, h2⟩ := h.ex
  exact ⟨fun pins s σ H Q I ⟨F, κ, G, ρ, S, w, S', W, E, hd, k⟩ => h1.run pins s σ H Q I (h2.run W E hd k)⟩
section
variable {X : Cx} {pos : Pos} {tg : Expr}
theorem q_lc {elt iter : Expr} {ifs : List Expr} {scope : Scope} (own : List (Str × Nat)) {it : DI} {tgt : Tgt} {tt : WT} {el : WE} (hN : X.N.Nodup) (hi : PDI X tg iter it) (ok : blkC X.N X.env.scope scope own = true)
    (hg : ∀ (s : Shared) (H : Hp) (C : Addr) (cl : List (Str × Addr)) (fp : List Addr), PDG (X.blk s H scope (compEnvC scope cl C X.env) fp) tg tgt) (ht : ∀ (s : Shared) (H : Hp) (C : Addr) (cl : List (Str × Addr)) (fp : List Addr), PWTs (X.blk s H scope (compEnvC scope cl C X.env) fp) ifs tt)
    (he : ∀ (s : Shared) (H : Hp) (C : Addr) (cl : List (Str × Addr)) (fp : List Addr), PWE (X.blk s H scope (compEnvC scope cl C X.env) fp) elt el) (hown : ∀ i ∈ tgt.slots, i ∈ own.map (·.2) := by decide) (hc : X.calm = true := by rfl) (hs : ∀ x, foldedSetIterable iter X.env x = pure x := by intro _; rfl) :
    PWE X (.ListComp elt [⟨tg, iter, ifs, 0⟩] scope pos) (wComp it tgt tt el (own.map (·.2))) := by
  obtain ⟨t, h1, h2⟩ := hi.ex
  exact ⟨_, pe_lc hc hN h1 (blkOk_by ok) (fun s H C cl fp => (hg s H C cl fp).ex) (fun s H C cl fp => (ht s H C cl fp).can) (fun s H C cl fp => (he s H C cl fp).can) hs, wsim_lc h2 simOfWT simOfW hown⟩
/-- name = [..], flat -/
theorem qs_setLcF (i : Nat) (c : Bool) {y : Str} {py spos : Pos} {elt iter : Expr} {ifs : List Expr} {scope : Scope} (own : List (Str × Nat)) {it : DI} {tgt : Tgt} {tt : DT} {el : DE} (hN : X.N.Nodup) (hi : PDI X tg iter it) (ok : blkC X.N X.env.scope scope own = true)
    (hg : ∀ (s : Shared) (H : Hp) (C : Addr) (cl : List (Str × Addr)) (fp : List Addr), PDG (X.blk s H scope (compEnvC scope cl C X.env) fp) tg tgt) (ht : ∀ (s : Shared) (H : Hp) (C : Addr) (cl : List (Str × Addr)) (fp : List Addr), PDTs (X.blk s H scope (compEnvC scope cl C X.env) fp) ifs tt)
    (he : ∀ (s : Shared) (H : Hp) (C : Addr) (cl : List (Str × Addr)) (fp : List Addr), PD (X.blk s H scope (compEnvC scope cl C X.env) fp) elt el)
    (hsw : swapsWith (.ListComp elt [⟨tg, iter, ifs, 0⟩] scope pos) (some (.Name y py)) spos.line X.env = pure true) (hy : X.N[i]? = some y := by rfl) (hyl : X.env.scope.names.lookup y = some .local := by rfl) (hown : ∀ i ∈ tgt.slots, i ∈ own.map (·.2) := by decide) (hc : X.calm = true := by rfl) (hs : ∀ x, foldedSetIterable iter X.env x = pure x := by intro _; rfl) :
    PWS X (.Assign [.Name y py] (.ListComp elt [⟨tg, iter, ifs, 0⟩] scope pos) spos) (sAsg (.name i) (wE (eComp c it tgt tt el (own.map (·.2))))) := by
  obtain ⟨t1, a1, a2⟩ := hi.ex
  have h := wss_asg (tg := .name i) (wsim_E (sim_lc (c := c) (tg := tgt) a2 simOfT simOf hown (K := X.K) (t := tt) (el := el)))
  simp only [Tgt.tg] at h
  exact ⟨_, ps_setLc hc hN hy hyl hsw a1 (blkOk_by ok) (fun s H C cl fp => (hg s H C cl fp).ex) (fun s H C cl fp => (ht s H C cl fp).can) (fun s H C cl fp => (he s H C cl fp).can) hs, h⟩
/-- name = [..] -/
theorem qs_setLc (i : Nat) {y : Str} {py spos : Pos} {elt iter : Expr} {ifs : List Expr} {scope : Scope} (own : List (Str × Nat)) {it : DI} {tgt : Tgt} {tt : WT} {el : WE} (hN : X.N.Nodup) (hi : PDI X tg iter it) (ok : blkC X.N X.env.scope scope own = true)
    (hg : ∀ (s : Shared) (H : Hp) (C : Addr) (cl : List (Str × Addr)) (fp : List Addr), PDG (X.blk s H scope (compEnvC scope cl C X.env) fp) tg tgt) (ht : ∀ (s : Shared) (H : Hp) (C : Addr) (cl : List (Str × Addr)) (fp : List Addr), PWTs (X.blk s H scope (compEnvC scope cl C X.env) fp) ifs tt)
    (he : ∀ (s : Shared) (H : Hp) (C : Addr) (cl : List (Str × Addr)) (fp : List Addr), PWE (X.blk s H scope (compEnvC scope cl C X.env) fp) elt el)
    (hsw : swapsWith (.ListComp elt [⟨tg, iter, ifs, 0⟩] scope pos) (some (.Name y py)) spos.line X.env = pure true) (hy : X.N[i]? = some y := by rfl) (hyl : X.env.scope.names.lookup y = some .local := by rfl) (hown : ∀ i ∈ tgt.slots, i ∈ own.map (·.2) := by decide) (hc : X.calm = true := by rfl) (hs : ∀ x, foldedSetIterable iter X.env x = pure x := by intro _; rfl) :
    PWS X (.Assign [.Name y py] (.ListComp elt [⟨tg, iter, ifs, 0⟩] scope pos) spos) (sAsg (.name i) (wComp it tgt tt el (own.map (·.2)))) := by
  obtain ⟨t1, a1, a2⟩ := hi.ex
  have h := wss_asg (tg := .name i) (wsim_lc (tg := tgt) a2 simOfWT simOfW hown (K := X.K) (t := tt) (el := el))
  simp only [Tgt.tg] at h
  exact ⟨_, ps_setLc hc hN hy hyl hsw a1 (blkOk_by ok) (fun s H C cl fp => (hg s H C cl fp).ex) (fun s H C cl fp => (ht s H C cl fp).can) (fun s H C cl fp => (he s H C cl fp).can) hs, h⟩
end
/-! ### statements -/
section
variable {X : Cx} {a b c e : Expr} {pos : Pos} {da di : DE} {wa wb we wo : WE} {tc : WT} {tg : Expr} {st : Stmt} {rest : List Stmt} {s t u : WS}
theorem qb_nil : PWB X [] sPass := ⟨_, pss_nil, wss_pass⟩
theorem qb_cons (h1 : PWS X st s) (h2 : PWB X rest t) : PWB X (st :: rest) (sSeq s t) := by
  obtain ⟨t1, a1, a2⟩ := h1.ex
  obtain ⟨t2, b1, b2⟩ := h2.ex
  exact ⟨_, pss_cons a1 b1, wss_seq a2 b2⟩
theorem qb_one (h1 : PWS X st s) : PWB X [st] s := by
  obtain ⟨t1, a1, a2⟩ := h1.ex
  exact ⟨_, pss_one a1, a2⟩
theorem qb_wipe (vs : List Nat) (h : PWB X rest s) : PWB X rest (sWipe vs s) := by
  obtain ⟨t1, a1, a2⟩ := h.ex
  exact ⟨_, a1, wss_wipe vs a2⟩
theorem qb_pre (vs : List Nat) (h : PWB X rest s) : PWB X rest (sPre vs s) := by
  obtain ⟨t1, a1, a2⟩ := h.ex
  exact ⟨_, a1, wss_pre vs a2⟩
theorem qs_pass : PWS X (.Pass pos) sPass := ⟨_, ps_pass, wss_pass⟩
theorem qs_break : PWS X (.Break pos) sBreak := ⟨_, ps_break, wss_break⟩
theorem qs_cont : PWS X (.Continue pos) sCont := ⟨_, ps_continue, wss_cont⟩
theorem qs_never : PWS X st sNever := ⟨_, ps_never, wss_never⟩
theorem qs_set (i : Nat) {y : Str} {pos' : Pos} (hN : X.N.Nodup) (he : PWE X e we) (hi : X.N[i]? = some y := by rfl) (hx : Loc X.env.scope y := by first | exact Or.inl rfl | exact Or.inr rfl) (hs : swapsWith e (some (.Name y pos')) pos.line X.env = pure false := by rfl) (hf : X.fn y = true ∨ X.env.scope.names.lookup y = some .local := by first | exact .inl rfl | exact .inr rfl) :
    PWS X (.Assign [.Name y pos'] e pos) (sAsg (.name i) we) := by
  obtain ⟨t1, a1, a2⟩ := he.ex
  have h := wss_asg (tg := .name i) a2
  simp only [Tgt.tg] at h
  exact ⟨_, ps_set hN hi hx a1 hs hf, h⟩
theorem qs_asg {tgt : Tgt} (he : PWE X e we) (hg : PDG X tg tgt) (hs : swapsWithSole [tg] e pos.line X.env = pure false := by rfl) (hw : swappedStores [tg] e X.env = pure none := by rfl)
    (h1 : (assignEach [tg] X.env).map (·.2) = [assign tg X.env] := by rfl) : PWS X (.Assign [tg] e pos) (sAsg tgt we) := by
  obtain ⟨t1, a1, a2⟩ := he.ex
  exact ⟨_, ps_asg a1 hg.ex hs hw h1, wss_asg a2⟩
theorem qs_par (i j : Nat) {y z : Str} {px py pt : Pos} {kt k2 : Nat} {pt2 : Pos} (hN : X.N.Nodup) (ha : PWE X a wa) (hb : PWE X b wb) (hi : X.N[i]? = some y := by rfl) (hj : X.N[j]? = some z := by rfl) (hij : i ≠ j := by decide)
    (hx : X.env.scope.names.lookup y = some .local := by rfl) (hy : X.env.scope.names.lookup z = some .local := by rfl) (hc : X.calm = true := by rfl)
    (hst : starEach [a, b] X.env = (false, eval a X.env) :: starEach [b] X.env := by rfl) (hst2 : starEach [b] X.env = (false, eval b X.env) :: starEach [] X.env := by rfl)
    (hw : swappedStores [.Tuple [.Name y px, .Name z py] kt pt] (.Tuple [a, b] k2 pt2) X.env = pure (some [y, z]) := by rfl)
    (hs : swapsWithSole [.Tuple [.Name y px, .Name z py] kt pt] (.Tuple [a, b] k2 pt2) pos.line X.env = pure false := by rfl) :
    PWS X (.Assign [.Tuple [.Name y px, .Name z py] kt pt] (.Tuple [a, b] k2 pt2) pos) (sPar i j wa wb) := by
  obtain ⟨t1, a1, a2⟩ := ha.ex
  obtain ⟨t2, b1, b2⟩ := hb.ex
  exact ⟨_, ps_par hc hN hi hj hij hx hy (pa_cons a1 (pa_cons b1 pa_nil hst2) hst) hw hs, wss_par a2 b2⟩
theorem qs_aug (i : Nat) {y : Str} {op : Operator} {f : O2} {pos' : Pos} (hN : X.N.Nodup) (hr : AugR X op f) (he : PWE X e we) (hi : X.N[i]? = some y := by rfl) (hx : Loc X.env.scope y := by first | exact Or.inl rfl | exact Or.inr rfl) (hf : X.fn y = true ∨ X.env.scope.names.lookup y = some .local := by first | exact .inl rfl | exact .inr rfl) :
    PWS X (.AugAssign (.Name y pos') op e pos) (sAug i f we) := by
  obtain ⟨t1, a1, a2⟩ := he.ex
  obtain ⟨r, h1, h2⟩ := hr.ex
  exact ⟨_, ps_aug hN hi hx a1 h1 hf, wss_aug h2 a2⟩
theorem qs_put {o i : Expr} {pos' : Pos} (ho : PWE X o wo) (hi : PD X i di) (he : PWE X e we)
    (ha : ∀ v, assign (.Subscript o i pos') X.env v = (do
      let ov ← holding [v] (eval o X.env)
      let iv ← holding [v, ov] (eval i X.env)
      standAt pos'
      holding [v, ov, iv] (setItem ov iv v)
      release [v, ov, iv] []) := by intro _; rfl)
    (hs : swapsWithSole [.Subscript o i pos'] e pos.line X.env = pure false := by rfl) (hw : swappedStores [.Subscript o i pos'] e X.env = pure none := by rfl)
    (h1 : (assignEach [.Subscript o i pos'] X.env).map (·.2) = [assign (.Subscript o i pos') X.env] := by rfl) : PWS X (.Assign [.Subscript o i pos'] e pos) (sPut wo di we) := by
  obtain ⟨t1, a1, a2⟩ := ho.ex
  obtain ⟨t2, b1, b2⟩ := hi.ex
  obtain ⟨t3, c1, c2⟩ := he.ex
  exact ⟨_, ps_asg c1 (pg_sub a1 b1 set_list ha) hs hw h1, wss_put a2 b2 c2⟩
theorem qs_augS {o i : Expr} {op : Operator} {f : O2} {tpos : Pos} (hr : AugR X op f) (ho : PWE X o wo) (hi : PD X i di) (he : PWE X e we) (ha : ∀ ov iv new, augStore i ov iv new = (do holding [new, ov, iv] (setItem ov iv new); release [new, ov, iv] []; pure .next) := by intros; rfl) :
    PWS X (.AugAssign (.Subscript o i tpos) op e pos) (sAugS f wo di we) := by
  obtain ⟨t1, a1, a2⟩ := ho.ex
  obtain ⟨t2, b1, b2⟩ := hi.ex
  obtain ⟨t3, c1, c2⟩ := he.ex
  obtain ⟨r, h1, h2⟩ := hr.ex
  exact ⟨_, ps_augS a1 b1 get_list c1 h1 set_list ha, wss_augS h2 a2 b2 c2⟩
theorem qs_expr (he : PWE X e we) (hs : swapsWith e none pos.line X.env = pure false := by rfl) : PWS X (.Expr e pos) (sExpr we) := by
  obtain ⟨t1, a1, a2⟩ := he.ex
  exact ⟨_, ps_expr a1 hs, wss_expr a2⟩
theorem qs_ret (he : PWE X e we) : PWS X (.Return (some e) pos) (sRet we) := by
  obtain ⟨t1, a1, a2⟩ := he.ex
  exact ⟨_, ps_ret a1, wss_ret a2⟩
theorem qs_if {x y : List Stmt} (hc : PWT X c tc) (ha : PWB X x s) (hb : PWB X y t) : PWS X (.If c x y pos) (sIf tc s t) := by
  obtain ⟨t1, a1, a2⟩ := hc.ex
  obtain ⟨t2, b1, b2⟩ := ha.ex
  obtain ⟨t3, c1, c2⟩ := hb.ex
  exact ⟨_, ps_if a1 b1 c1, wss_if a2 b2 c2⟩
theorem qs_for {iter : Expr} {body : List Stmt} {it : DI} {tgt : Tgt} (hi : PDI X tg iter it) (hg : PDG X tg tgt) (hb : PWB X body s) (hp : PassesOwn (model X.prog X.w) X.A X.env X.xe := by exact PassesOwn.never) (hc : X.calm = true := by rfl) (hs : ∀ x, foldedSetIterable iter X.env x = pure x := by intro _; rfl) : PWS X (.For tg iter body [] pos) (sFor it tgt s) := by
  obtain ⟨t1, a1, a2⟩ := hi.ex
  obtain ⟨t3, c1, c2⟩ := hb.ex
  exact ⟨_, ps_for hp hc a1 hg.ex c1 hs, wss_for a2 c2⟩
theorem qs_forL {iter : Expr} {body : List Stmt} {tgt : Tgt} (hi : PWE X iter we) (hg : PDG X tg tgt) (hb : PWB X body s) (hp : PassesOwn (model X.prog X.w) X.A X.env X.xe := by exact PassesOwn.never) (hc : X.calm = true := by rfl) (hs : ∀ x, foldedSetIterable iter X.env x = pure x := by intro _; rfl) : PWS X (.For tg iter body [] pos) (sForL we tgt s) := by
  obtain ⟨t1, a1, a2⟩ := hi.ex
  obtain ⟨t3, c1, c2⟩ := hb.ex
  exact ⟨_, ps_for hp hc (pi_list a1) hg.ex c1 hs, wss_forL a2 c2⟩
theorem qs_while {body : List Stmt} (hc : PWT X c tc) (hb : PWB X body s) (hp : PassesOwn (model X.prog X.w) X.A X.env X.xe := by exact PassesOwn.never) : PWS X (.While c body [] pos) (sWhile tc s) := by
  obtain ⟨t1, a1, a2⟩ := hc.ex
  obtain ⟨t3, c1, c2⟩ := hb.ex
  exact ⟨_, ps_while hp a1 c1, wss_while a2 c2⟩
end
end Rw
end PRwWRules
section PRwSemV
set_option autoImplicit false
set_option linter.all false
/-! RwSemV: calls by the parameters' names, list.remove, least and sorted of rows of whole numbers. -/
namespace Rw
open PySem (Str)
noncomputable section
/-- what stands at these places -/
def prm {α : Type} (is : List Nat) (xs : List α) : List α := is.filterMap fun i => xs[i]?
/-- a call by the parameters' names: what is written in which order -/
def eCallK (is : List Nat) (f : DF) (as : DA) : DE := eA (fun vs M => f (prm is vs) M) as
/-- xs.remove(y) -/
def mRemove : Dv → List Dv → DSt → Option (Dv × DSt) := fun v as M => match v, as with
  | .c n, [.d y] => match (M[n]?).join with
    | some xs => grd (y.shp 8 = true ∧ (D.lst xs).shp 9 = true) (match xs.findIdx? fun b => D.eqv b y with
      | some j => some (.d .non, setC M n (xs.eraseIdx j))
      | none => none)
    | none => none
  | _, _ => none
/-- a tuple (t), or a list, of whole numbers -/
def rowT (t : Bool) : D → Option (List Int)
  | .tup xs => if t then intsD xs else none
  | .lst xs => if t then none else intsD xs
  | _ => none
def rowsT (t : Bool) : List D → Option (List (List Int))
  | [] => some []
  | x :: r => match rowT t x, rowsT t r with
    | some a, some b => some (a :: b)
    | _, _ => none
def bkD (t : Bool) (ns : List Int) : D := if t then .tup (ns.map D.int) else .lst (ns.map D.int)
def minL : List Int → List (List Int) → List Int
  | x, [] => x
  | x, y :: r => minL (if lexZ y x then y else x) r
/-- min(xs), tuples of whole numbers -/
def oMinT : OA := fun vs M => match vs with
  | [v] => match lv M v with
    | some xs => match rowsT true xs with
      | some (x :: r) => some (.d (bkD true (minL x r)), M)
      | _ => none
    | none => none
  | _ => none
/-- sorted(xs), tuples (t) or lists of whole numbers -/
def oSortT (t c : Bool) : OA := fun vs M => match vs with
  | [v] => match lv M v with
    | some xs => match rowsT t xs with
      | some nss => grd (nss.length ≤ 4000 ∧ (t = true → ∀ ns ∈ nss, ns ≠ [])) (mkL c ((nss.mergeSort fun a b => !lexZ b a).map (bkD t)) M)
      | none => none
    | none => none
  | _ => none
end
end Rw
end PRwSemV
section PRwOkV
set_option linter.all false
set_option maxHeartbeats 1000000
namespace Rw
section
variable {ρ : DEnv} {M : DSt} {P : Dv × DSt → Prop}
@[simp ↓] theorem ok_callK {is : List Nat} {f : DF} {as : DA} : Ok (eCallK is f as ρ M) P ↔ Ok (as ρ M) fun p => Ok (f (prm is p.1) p.2) P := by
  unfold eCallK
  exact ok_eA
theorem rowsT_map (t : Bool) : ∀ nss : List (List Int), rowsT t (nss.map (bkD t)) = some nss := by
  have hi : ∀ ns : List Int, intsD (ns.map D.int) = some ns := fun ns => by
    induction ns with
    | nil => rfl
    | cons x r ih => simp [intsD, ih]
  intro nss
  induction nss with
  | nil => rfl
  | cons n r ih =>
    have : rowT t (bkD t n) = some n := by cases t <;> simp [bkD, rowT, hi]
    simp [rowsT, this, ih]
end
end Rw
end PRwOkV
section PRwVar
set_option Elab.async false
set_option linter.all false
set_option maxRecDepth 100000
set_option maxHeartbeats 2000000
/-! RwVar: the layer keeps the constructs of RwSemV. -/
namespace Rw
open PySem L2 PySem.Spec PyProof.Rows
open Evl (Ex)
/-! ### calls by the parameters' names -/
section
variable {K : PySem.W.Frag} {κ : List Addr} {G : Hp}
theorem Rxs.at_ : ∀ {us : List V} {xs : List Dv} (i : Nat), Rxs K κ G us xs → (us[i]? = none ∧ xs[i]? = none) ∨ ∃ u x, us[i]? = some u ∧ xs[i]? = some x ∧ Rx K κ G u x
  | _, _, _, .nil => .inl (by simp)
  | _, _, 0, .cons h _ => .inr ⟨_, _, rfl, rfl, h⟩
  | _, _, i + 1, .cons _ r => by simpa using Rxs.at_ i r
theorem Rxs.prm {us : List V} {xs : List Dv} (r : Rxs K κ G us xs) : ∀ is : List Nat, Rxs K κ G (prm is us) (prm is xs)
  | [] => .nil
  | i :: is => by
    unfold Rw.prm
    rcases r.at_ i with ⟨a, b⟩ | ⟨u, x, a, b, h⟩
    · rw [List.filterMap_cons_none a, List.filterMap_cons_none b]
      exact Rxs.prm r is
    · rw [List.filterMap_cons_some a, List.filterMap_cons_some b]
      exact .cons h (Rxs.prm r is)
theorem vals_at : ∀ {us : List V} {xs : List Value} (i : Nat), Vals us xs → (us[i]? = none ∧ xs[i]? = none) ∨ ∃ u x, us[i]? = some u ∧ xs[i]? = some x ∧ RelV u x
  | _, _, _, .nil => .inl (by simp)
  | _, _, 0, .cons h _ => .inr ⟨_, _, rfl, rfl, h⟩
  | _, _, i + 1, .cons _ r => by simpa using vals_at i r
theorem vals_prm {us : List V} {xs : List Value} (r : Vals us xs) : ∀ is : List Nat, Vals (prm is us) (prm is xs)
  | [] => .nil
  | i :: is => by
    unfold Rw.prm
    rcases vals_at i r with ⟨a, b⟩ | ⟨u, x, a, b, h⟩
    · rw [List.filterMap_cons_none a, List.filterMap_cons_none b]
      exact vals_prm r is
    · rw [List.filterMap_cons_some a, List.filterMap_cons_some b]
      exact .cons h (vals_prm r is)
end
structure HasK (P : Program) (w : World) (K : PySem.W.Frag) (mg : Str → Option Value) (base : Heap) (x : Str) (k n : Nat) (ks : List Str) (is : List Nat) (df : DF) : Prop where
  ex : ∃ (f : Addr) (fd : FuncData) (ps : List Str), FnOk P w K mg base CX0 k f fd ps (spD K df n) ∧ mg x = some (.ref f) ∧ PySem.W.keepIn K (.ref f) = true ∧ KBn K fd ps 0 ks (fun _ ws => prm is ws) (fun _ zs => prm is zs)
  len : ∀ xs : List Dv, xs.length = ks.length → (prm is xs).length = n
theorem fun_kb {K : PySem.W.Frag} {x qual : Str} {st : Stmt} {f : Addr} {fd : FuncData} {ps : List Str} (ks : List Str) (is : List Nat) (F : Fun K x qual st f fd)
    (h : ∀ (kV doc pm : Value) (an : Option Addr) (cdv ct : Value) (ws : List Value), ws.length = ks.length → bindArgs (PySem.W.fnOf x qual (defArgs st) (defBody st) (defScope st) .none kV doc pm an cdv ct) ⟨[], ks.zip ws⟩ = pure (ps.zip (prm is ws))) : KBn K fd ps 0 ks (fun _ ws => prm is ws) (fun _ zs => prm is zs) := by
  obtain ⟨oc, od, kV, doc, pm, an, cdv, ct, osl, rfl, lk, hcd⟩ := F.ex
  refine ⟨fun s us ws X l1 l2 => ?_, fun _ r => vals_prm r is⟩
  cases us with
  | nil => exact .of_eq (h kV doc pm an cdv ct ws l2)
  | cons _ _ => cases l1
structure PDK (X : Cx) (kws : List Keyword) (das : DA) (n : Nat) : Prop where
  ex : ∃ t, PK X kws t ∧ SimA X.K t das
  len : ∀ ρ M vs M', das ρ M = some (vs, M') → vs.length = n
section
variable {X : Cx} {kws : List Keyword} {das : DA} {n m k : Nat} {e : Expr} {de : DE} {nm : Option Str} {kpos p pos : Pos} {x : Str} {ks : List Str} {is : List Nat} {df : DF}
theorem kw_nil : PDK X [] aNil 0 := ⟨⟨_, pk_nil, sim_nil⟩, al_nil⟩
theorem kw_cons (ha : PD X e de) (hr : PDK X kws das n) : PDK X (⟨nm, e, kpos⟩ :: kws) (aCons de das) (n + 1) := by
  obtain ⟨t, h1, h2⟩ := ha.ex
  obtain ⟨u, h3, h4⟩ := hr.ex
  exact ⟨⟨_, pk_cons h1 h3, sim_cons h2 h4⟩, al_cons hr.len⟩
theorem pe_callN0 {CX : CXT} {f : Addr} {fd : FuncData} {ps : List Str} {sp : Sp} {E : XK} {tk : TA} {g : List Value → List Value → List Value} {gV : List V → List V → List V} (F : FnOk X.prog X.w X.K X.mg X.base CX k f fd ps sp) (hr : Room k X.A) (hg : Gl X x) (hm : X.mg x = some (.ref f)) (hk : PySem.W.keepIn X.K (.ref f) = true) (hb : KBn X.K fd ps 0 ks g gV) (hx : Passes CX X E)
    (hkw : PK X kws tk) (hall : (backToKw pos (keywordEach kws X.env)).all (·.1.isSome) = true := by rfl) (hks : (backToKw pos (keywordEach kws X.env)).filterMap (·.1) = ks := by rfl)
    (hdb : (x == ("__debug__" : Str)) = false := by decide)
    (hpl : ((backTo pos (starEach [] X.env)).any (·.1) || (backToKw pos (keywordEach kws X.env)).any (·.1.isNone)) = false := by rfl) :
    PE X (.Call (.Name x p) [] kws pos) (fun σ H Q => tk σ H fun zs H2 => zs.length = ks.length ∧ sp (gV [] zs) H2 Q E) := by
  refine ⟨fun pins s σ H Q I h => ?_⟩
  refine wpAny_Call_Name_kw (ld_glob I hg hm ?_ hdb)
  refine PySem.W.callWith_KW0 (h₀ := X.base) I.ok.mod.kin hk hall ?_ hpl
  refine thn (hkw.run pos pins s σ H _ I h) fun ws s2 ⟨zs, H2, I2, rz, l2, q2⟩ => ⟨I2.kIn, ?_⟩
  rw [hks]
  exact run_fnN (us := []) (vs := []) F hr hb hx I2 .nil rz rfl l2 q2
theorem d_defK (Hs : HasK X.prog X.w X.K X.mg X.base x k n ks is df) (hr : Room k X.A) (ha : PDK X kws das m) (hn : m = ks.length := by rfl) (hg : Gl X x := by rfl) (hdb : (x == ("__debug__" : Str)) = false := by decide)
    (hall : (backToKw pos (keywordEach kws X.env)).all (·.1.isSome) = true := by rfl) (hks : (backToKw pos (keywordEach kws X.env)).filterMap (·.1) = ks := by rfl)
    (hpl : ((backTo pos (starEach [] X.env)).any (·.1) || (backToKw pos (keywordEach kws X.env)).any (·.1.isNone)) = false := by rfl) :
    PD X (.Call (.Name x p) [] kws pos) (eCallK is df das) := by
  obtain ⟨f, fd, ps, F, hm, hk, hb⟩ := Hs.ex
  obtain ⟨t, h1, h2⟩ := ha.ex
  refine ⟨_, pe_callN0 F hr hg hm hk hb pass0 h1 hall hks hdb hpl, ⟨fun {F κ G σ ρ M H Q z M'} S E h k => ?_⟩⟩
  unfold eCallK eA at h
  split at h
  · rename_i xs M1 e
    refine h2.run S E e fun κ1 G1 us H1 l1 S1 r1 => ?_
    have hl := ha.len _ _ _ _ e
    refine ⟨by rw [r1.length, hl, hn], F, κ1, G1, M1, _, z, M', S1, r1.prm is, Hs.len _ (by rw [hl, hn]), h, k.weak l1⟩
  · cases h
end
/-! ### xs.remove(y) -/
theorem findIdx_toPys {a : D} (ha : a.shp 8 = true) : ∀ {ys : List D}, ys.all (D.shp 8) = true → ((D.toPys ys).findIdx? fun z => PyData.eqv z a.toPy) = ys.findIdx? fun b => D.eqv b a
  | [], _ => rfl
  | y :: ys, h => by
    rw [List.all_cons, Bool.and_eq_true] at h
    show ((y.toPy :: D.toPys ys).findIdx? _) = _
    rw [List.findIdx?_cons, List.findIdx?_cons, eqv_of 8 y a h.1 ha, findIdx_toPys ha h.2]
def rRemD (K : PySem.W.Frag) : V → List V → Hp → VK → Prop := fun x xs H Q => ∃ (l : Addr) (vs : List V) (y : V) (ds : List PyData) (d : PyData) (j : Nat), x = .ref l ∧ xs = [y] ∧ H l = some (.lst vs) ∧ DpAll K H vs ds ∧ Dp K H y d ∧ PyData.canLayAll0 ds = true ∧ SeqAt.shaped d = true ∧ SeqAt.dataPlace ds d = some j ∧ Q .non (upd H l (.lst (vs.eraseIdx j)))
theorem mt_remD {X : Cx} (hu : X.A.units + 65 < cLine) : MtR X "list.remove" (rRemD X.K) := by
  intro pins s σ H x xs v us Q I rx rxs h
  obtain ⟨l, vs, y, ds, d, j, rfl, rfl, hH, hds, hd, s1, s2, hj, q⟩ := h
  cases rx
  obtain ⟨u, rfl, ru⟩ := rxs.one
  obtain ⟨z, its, n, r, hl, e⟩ := I.lstM hH
  obtain ⟨as, ra⟩ := Dp.readsAll I ds vs its hds r
  obtain ⟨bs, rb⟩ := Dp.reads I d y u hd ru
  have hdp := SeqAt.depth_of_shaped s2
  refine SeqAt.remove_list_data (vs := its.toArray) ⟨_, e, rfl, n, rfl⟩ (by simpa using ra) rb (PyData.plainAll_of_canLay0 _ s1) (PyData.plain_of_canLay0 _ (SeqAt.canLay_of_shaped s2)) (by omega) hj (by rw [List.size_toArray]; omega) ?_
  refine ⟨.non, _, I.lset (its' := its.eraseIdx j) hH e (by simp) (r.eraseIdx j) ?_, rfl, q⟩
  have := List.length_eraseIdx_le (l := vs) (i := j)
  omega
theorem sm_remD {K : PySem.W.Frag} : SimRM K "list" (rRemD K) mRemove := fun {F κ G M H Q x xs z M' u us} S r rs h k => by
  unfold mRemove at h
  split at h
  · rename_i n y
    split at h
    · rename_i ys e
      obtain ⟨⟨h1, h2⟩, h⟩ := grd_some h
      split at h
      · rename_i j ej
        cases h
        obtain ⟨a, rfl, ha⟩ := r
        obtain ⟨v, rfl, rv⟩ := rxs1 rs
        obtain ⟨vs, _, _, e3, e4⟩ := cell_at S e ha
        have h2' : ys.all (D.shp 8) = true := h2
        refine ⟨a, vs, v, D.toPys ys, y.toPy, j, rfl, rfl, e3, dp_all (n := 8) (fun d v rv hd => dp_of S.ex 8 d v rv hd) e4 h2', dp_of S.ex 8 y v rv h1, (shp_lay_all (n := 8) (shp_lay 8) ys h2').1, shaped_of h1 (by decide), ?_, ?_⟩
        · unfold SeqAt.dataPlace
          rw [findIdx_toPys h1 h2']
          exact ej
        · exact k κ G _ _ (Le.refl _ _) (S.put e ha (e4.eraseIdx j)) Rv.non
      · cases h
    · cases h
  · cases h
theorem lm_remD : ∀ v as M z, mRemove v as M = some z → ∃ n, v = .c n := fun v as M z h => by
  unfold mRemove at h
  split at h
  · exact ⟨_, rfl⟩
  · cases h
theorem d_remove {X : Cx} {k n : Nat} {a e : Expr} {es : List Expr} {da : DE} {das : DA} {apos pos : Pos} (hr : Room k X.A) (ho : PD X a da) (hb : PDA X (e :: es) das n) (hbase : attributeBase a "remove" X.env (eval a X.env) = eval a X.env := by rfl)
    (hfew : ((backTo pos (starEach (e :: es) X.env)).all (fun x => !x.1) && (backToKw pos (keywordEach [] X.env)).all (fun x => x.1.isSome) && decide ((e :: es).length + ([] : List Keyword).length + (if ([] : List Keyword).isEmpty then 0 else 1) < 30)) = true := by rfl)
    (hline : (apos.endLine == pos.line) = true := by rfl) (hs : starEach (e :: es) X.env = (false, eval e X.env) :: starEach es X.env := by rfl) (hplain : (backTo pos (starEach es X.env)).any (·.1) = false := by rfl) : PD X (.Call (.Attribute a "remove" apos) (e :: es) [] pos) (eM mRemove da das) := by
  obtain ⟨t, h1, h2⟩ := ho.ex
  obtain ⟨u, h3, h4⟩ := hb.ex
  exact ⟨_, pe_bm PySem.F.plainAttrs_list PySem.F.slot_list_remove PySem.F.type_list_remove (mt_remD (by have := hr.un; omega)) h1 h3 hbase hfew hline hs hplain, sim_bm sm_remD lm_remD h2 h4⟩
/-! ### min(xs), sorted(xs): rows of whole numbers -/
theorem minD_mem : ∀ (xs : List PyData) (x : PyData), PySem.W.minD x xs ∈ x :: xs
  | [], x => by simp [PySem.W.minD]
  | y :: r, x => by
    have ih := minD_mem r (if PySem.W.dataLt y x then y else x)
    have e : PySem.W.minD x (y :: r) = PySem.W.minD (if PySem.W.dataLt y x then y else x) r := rfl
    rw [e]
    rcases List.mem_cons.mp ih with h | h
    · rw [h]
      split
      · simp
      · simp
    · simp [h]
theorem vals_back : ∀ {us : List V} {xs : List Value} {i : Nat} {x : Value}, Vals us xs → xs[i]? = some x → ∃ u, us[i]? = some u ∧ RelV u x
  | _, _, i, x, r, h => by
    rcases vals_at i r with ⟨a, b⟩ | ⟨u, y, a, b, c⟩
    · rw [b] at h; cases h
    · rw [b] at h
      cases h
      exact ⟨u, a, c⟩
def rMinD (K : PySem.W.Frag) : List V → Hp → VK → Prop := fun vs H Q => ∃ (a : Addr) (xs : List V) (d : PyData) (ds : List PyData), vs = [V.ref a] ∧ SqL K H a xs ∧ DpAll K H xs (d :: ds) ∧ PySem.W.AlikeAll (d :: ds) ∧ PyData.depthAll (d :: ds) ≤ 60 ∧ ∀ (i : Nat) (x : V), xs[i]? = some x → (d :: ds)[i]? = some (PySem.W.minD d ds) → Q x H
theorem cr_minD {X : Cx} (hc : X.calm = true) (hu : X.A.units + 64 < cLine) : CallR X (.builtin "min") (rMinD X.K) := by
  intro pins s σ H vs us Q I r h
  obtain ⟨a, xs, d, ds, rfl, hs, hd, hal, hdp, q⟩ := h
  obtain ⟨its, rv, hl, _⟩ := I.list hs
  rw [Vals.ref1 r]
  obtain ⟨as, ra⟩ := Dp.readsAll I _ _ _ hd rv
  refine PySem.W.min_list_data (I.ok.hd hc) hl.isList (by simpa using ra) hal (by omega) fun i v h' tk bs hi hrd hk => ?_
  have hi2 : its[i]? = some v := by simpa using hi
  obtain ⟨x, hx, rx⟩ := vals_back rv hi2
  obtain ⟨cs, r3, h4, h5, h6⟩ := PySem.W.readsAll_at ra i v hi2
  have hm := minD_mem ds d
  have eu := PySem.W.alike_unique _ _ _ _ _ (hal.1 _ h5 _ hm) (PySem.W.reads_keeps hk r3) hrd
  refine ⟨x, H, I.kept hk, rx, q i x hx ?_⟩
  rw [← eu, List.getD_eq_getElem?_getD]
  cases e9 : (d :: ds)[i]? with
  | none => rw [List.getElem?_eq_getElem h4] at e9; cases e9
  | some y => rfl
def encT (t : Bool) (ns : List Int) : PyData := if t then .tuple (ns.map .int) else .list (ns.map .int)
theorem lexZ_lt : ∀ xs ys : List Int, lexZ xs ys = decide (xs < ys)
  | [], [] => by simp [lexZ]
  | [], y :: ys => by simp [lexZ]
  | x :: xs, [] => by simp [lexZ]
  | x :: xs, y :: ys => by
    rw [lexZ]
    by_cases h : x = y
    · subst h
      simp [lexZ_lt xs ys, List.cons_lt_cons_iff]
    · simp [h, List.cons_lt_cons_iff]
theorem dataLt_enc (t : Bool) (xs ys : List Int) : PySem.W.dataLt (encT t xs) (encT t ys) = lexZ xs ys := by
  rw [lexZ_lt, ← PySem.W.dataLt_ints]
  cases t
  · exact PySem.W.dataLt_list _ _
  · exact PySem.W.dataLt_tuple _ _
theorem alike_enc (t : Bool) (xs ys : List Int) : PySem.W.alike (encT t xs) (encT t ys) = true := by
  cases t
  · exact PySem.W.alike_ints xs ys
  · exact PySem.W.alike_ints xs ys
theorem depth_enc (t : Bool) (xs : List Int) : (encT t xs).depth ≤ 1 := by
  cases t <;> simp [encT, PyData.depth, PySem.W.depth_ints]
theorem minD_enc : ∀ (nss : List (List Int)) (ns : List Int), PySem.W.minD (encT true ns) (nss.map (encT true)) = encT true (minL ns nss)
  | [], _ => rfl
  | m :: r, ns => by
    have e : PySem.W.minD (encT true ns) ((m :: r).map (encT true)) = PySem.W.minD (if PySem.W.dataLt (encT true m) (encT true ns) then encT true m else encT true ns) (r.map (encT true)) := rfl
    rw [e, dataLt_enc, minL]
    by_cases h : lexZ m ns = true
    · rw [if_pos h, if_pos h, minD_enc r m]
    · rw [if_neg h, if_neg h, minD_enc r ns]
theorem encT_inj {t : Bool} {a b : List Int} (h : encT t a = encT t b) : a = b := by
  have inj : ∀ (a b : List Int), a.map PyData.int = b.map PyData.int → a = b := fun a => by
    induction a with
    | nil => intro b h; cases b with
      | nil => rfl
      | cons => cases h
    | cons x r ih => intro b h; cases b with
      | nil => cases h
      | cons y s =>
        simp only [List.map_cons, List.cons.injEq, PyData.int.injEq] at h
        rw [h.1, ih _ h.2]
  cases t <;> simp only [encT, Bool.false_eq_true, if_false, if_true] at h
  · injection h with h; exact inj _ _ h
  · injection h with h; exact inj _ _ h
section
variable {K : PySem.W.Frag}
theorem rowT_bk {t : Bool} {x : D} {ns : List Int} (h : rowT t x = some ns) : x = bkD t ns := by
  have back : ∀ (xs : List D) (ns : List Int), intsD xs = some ns → xs = ns.map D.int := fun xs => by
    induction xs with
    | nil => intro ns h; cases h; rfl
    | cons y r ih =>
      intro ns h
      cases y with
      | int i =>
        simp only [intsD] at h
        cases e : intsD r with
        | none => rw [e] at h; cases h
        | some ms =>
          rw [e] at h
          cases h
          rw [ih ms e]
          rfl
      | _ => cases h
  cases x with
  | tup xs =>
    cases t with
    | false => cases h
    | true => simp only [rowT, if_true] at h; simp only [bkD, if_true]; rw [back _ _ h]
  | lst xs =>
    cases t with
    | true => cases h
    | false => simp only [rowT, Bool.false_eq_true, if_false] at h; simp only [bkD, Bool.false_eq_true, if_false]; rw [back _ _ h]
  | _ => cases h
theorem rowsT_bk {t : Bool} : ∀ {xs : List D} {nss : List (List Int)}, rowsT t xs = some nss → xs = nss.map (bkD t)
  | [], _, h => by cases h; rfl
  | x :: r, nss, h => by
    unfold rowsT at h
    split at h
    · rename_i a b e1 e2
      cases h
      rw [rowT_bk e1, rowsT_bk e2]
      rfl
    · cases h
theorem dp_bk {G H : Hp} (e : Ex G H) {t : Bool} {v : V} {ns : List Int} (r : Rv K G v (bkD t ns)) : Dp K H v (encT t ns) := by
  have sh : ∀ l : List Int, (l.map D.int).all (D.shp 1) = true := fun l => by simp [D.shp]
  have tp : ∀ l : List Int, D.toPys (l.map D.int) = l.map PyData.int := fun l => by
    induction l with
    | nil => rfl
    | cons x r ih => show PyData.int x :: D.toPys (r.map D.int) = _; rw [ih]; rfl
  have h2 : (bkD t ns).shp 2 = true := by cases t <;> simp [bkD, D.shp]
  have h3 := dp_of e 2 _ v r h2
  have h4 : (bkD t ns).toPy = encT t ns := by cases t <;> simp only [bkD, encT, Bool.false_eq_true, if_false, if_true, D.toPy, tp]
  rw [h4] at h3
  exact h3
theorem rvs_dpall {G H : Hp} (e : Ex G H) {t : Bool} : ∀ {vs : List V} {nss : List (List Int)}, Rvs K G vs (nss.map (bkD t)) → DpAll K H vs (nss.map (encT t))
  | _, [], .nil => .nil
  | _, _ :: _, .cons h r => .cons (dp_bk e h) (rvs_dpall e r)
theorem depthAll_enc (t : Bool) : ∀ nss : List (List Int), PyData.depthAll (nss.map (encT t)) ≤ 1
  | [] => by simp [PyData.depthAll]
  | n :: r => by
    have h1 := depth_enc t n
    have h2 := depthAll_enc t r
    simp only [List.map_cons, PyData.depthAll]
    omega
theorem sa_minT : SimRA K (rMinD K) oMinT := fun {F κ G M H Q xs z M' us} S r h k => by
  unfold oMinT at h
  split at h
  · split at h
    · rename_i ys e
      split at h
      · rename_i n ns en
        cases h
        obtain ⟨u, rfl, a⟩ := rxs1 r
        obtain ⟨p, vs, rfl, hs, rr⟩ := lv_at S a e
        rw [rowsT_bk en] at rr
        refine ⟨p, vs, encT true n, ns.map (encT true), rfl, hs, rvs_dpall (nss := n :: ns) S.ex rr, ⟨fun x hx y hy => ?_, fun x hx => ?_⟩, ?_, fun i x hx hi => ?_⟩
        · obtain ⟨a, _, rfl⟩ := List.mem_map.mp (show x ∈ (n :: ns).map (encT true) from hx)
          obtain ⟨b, _, rfl⟩ := List.mem_map.mp (show y ∈ (n :: ns).map (encT true) from hy)
          exact alike_enc _ _ _
        · obtain ⟨a, _, rfl⟩ := List.mem_map.mp (show x ∈ (n :: ns).map (encT true) from hx)
          simp [encT]
        · have := depthAll_enc true (n :: ns)
          simp only [List.map_cons] at this
          omega
        · obtain ⟨d, hd, rd⟩ := rr.get' hx
          rw [List.getElem?_map] at hd
          have hi2 : ((n :: ns).map (encT true))[i]? = some (PySem.W.minD (encT true n) (ns.map (encT true))) := hi
          rw [List.getElem?_map, minD_enc] at hi2
          cases e9 : (n :: ns)[i]? with
          | none => rw [e9] at hd; cases hd
          | some m =>
            rw [e9] at hd hi2
            cases hd
            have : m = minL n ns := encT_inj (Option.some.inj hi2)
            subst this
            exact k.here S rd
      · cases h
    · cases h
  · cases h
theorem each_vals {α : Type} {f : α → V} : ∀ {ps : List α} {us : List Value}, Vals (ps.map f) us → PySem.W.EachIs (fun v p => RelV (f p) v) us ps
  | [], _, .nil => .nil
  | _ :: _, _, .cons h r => .cons h (each_vals r)
theorem vals_each {α : Type} {f : α → V} : ∀ {ps : List α} {us : List Value}, PySem.W.EachIs (fun v p => RelV (f p) v) us ps → Vals (ps.map f) us
  | _, _, .nil => .nil
  | _, _, .cons h r => .cons h (vals_each r)
theorem each_reads {X : Cx} {pins : List (Addr × Obj)} {σ : L2.St} {H : Hp} {s : Shared} (I : Inv X pins σ H s) : ∀ {ps : List (V × PyData)} {us : List Value}, (∀ p ∈ ps, Dp X.K H p.1 p.2) → Vals (ps.map (·.1)) us → PySem.W.EachIs (fun v p => ∃ as, Reads s.heap v p.2 as) us ps
  | [], _, _, .nil => .nil
  | p :: ps, _, h, .cons r rs => .cons (Dp.reads I p.2 p.1 _ (h p (List.mem_cons_self ..)) r) (each_reads I (fun q hq => h q (List.mem_cons_of_mem _ hq)) rs)
def rSortD (K : PySem.W.Frag) : List V → Hp → VK → Prop := fun vs H Q => ∃ (a : Addr) (ps : List (V × PyData)), vs = [V.ref a] ∧ SqL K H a (ps.map (·.1)) ∧ (∀ p ∈ ps, Dp K H p.1 p.2) ∧ PySem.W.AllAlike (ps.map (·.2)) ∧ PySem.W.Sortable (ps.map (·.2)) ∧ ps.length ≤ 4000 ∧ (∀ p ∈ ps, p.2.depth ≤ 60) ∧
  ∀ q, H q = none → Q (.ref q) (upd H q (.lst ((ps.mergeSort (PySem.W.dataLe false (·.2))).map (·.1))))
theorem cr_sortD {X : Cx} (hu : X.A.units + 64 < cLine) : CallR X (.builtin "sorted") (rSortD X.K) := by
  intro pins s σ H vs us Q I r h
  obtain ⟨a, ps, rfl, hs, hd, hal, hso, h4, hdp, q⟩ := h
  obtain ⟨its, rv, hl, _⟩ := I.list hs
  rw [Vals.ref1 r]
  have h40 : (4000 : Nat) ≤ sizeLine := by rw [sizeLine_eq]; omega
  refine PySem.W.sorted_data (enc := fun p : V × PyData => p.2) hl.isList (each_vals (f := fun p : V × PyData => p.1) rv) (each_reads I hd rv) hal hso (Nat.le_trans h4 h40) (fun b hb => by have := hdp b hb; omega) fun out ho he => ?_
  obtain ⟨ep, he'⟩ := PyProof.Rows.sortedAll_at s.heap its out.toArray
  have hv := vals_each he
  have hlen : ((ps.mergeSort (PySem.W.dataLe false (·.2))).map (·.1)).length ≤ sizeLine := by rw [List.length_map, List.length_mergeSort]; omega
  exact ⟨.ref _, upd H (s.heap.objs.size + 1) (.lst _), I.laid (t' := s.toks) (fun _ _ => PyProof.Rows.sortedAll_old) (Nat.le_succ _) ⟨hlen, out, ep, hv, he'⟩, rfl, q _ (I.hok.fresh (Nat.le_succ _))⟩
theorem rvs_zip {G : Hp} {t : Bool} : ∀ {vs : List V} {nss : List (List Int)}, Rvs K G vs (nss.map (bkD t)) → ∃ qs : List (V × List Int), qs.map (·.1) = vs ∧ qs.map (·.2) = nss ∧ ∀ q ∈ qs, Rv K G q.1 (bkD t q.2)
  | _, [], .nil => ⟨[], rfl, rfl, fun q h => nomatch h⟩
  | v :: vs, n :: r, .cons h rr => by
    obtain ⟨qs, e1, e2, e3⟩ := rvs_zip rr
    exact ⟨(v, n) :: qs, by simp [e1], by simp [e2], fun q hq => by
      rcases List.mem_cons.mp hq with rfl | hq
      · exact h
      · exact e3 q hq⟩
theorem zip_rvs {G : Hp} {t : Bool} : ∀ (qs : List (V × List Int)), (∀ q ∈ qs, Rv K G q.1 (bkD t q.2)) → Rvs K G (qs.map (·.1)) ((qs.map (·.2)).map (bkD t))
  | [], _ => .nil
  | q :: qs, h => .cons (h q (List.mem_cons_self ..)) (zip_rvs qs fun p hp => h p (List.mem_cons_of_mem _ hp))
theorem sa_sortT (t c : Bool) : SimRA K (rSortD K) (oSortT t c) := fun {F κ G M H Q xs z M' us} S r h k => by
  unfold oSortT at h
  split at h
  · split at h
    · rename_i ys e
      split at h
      · rename_i nss en
        obtain ⟨⟨h1, h2⟩, h⟩ := grd_some h
        obtain ⟨u, rfl, a⟩ := rxs1 r
        obtain ⟨p, vs, rfl, hs, rr⟩ := lv_at S a e
        rw [rowsT_bk en] at rr
        obtain ⟨qs, e1, e2, e3⟩ := rvs_zip rr
        have ef : (qs.map fun q => (q.1, encT t q.2)).map (·.1) = vs := by rw [List.map_map, ← e1]; rfl
        have eg : (qs.map fun q => (q.1, encT t q.2)).map (·.2) = nss.map (encT t) := by rw [List.map_map, ← e2, List.map_map]; rfl
        refine ⟨p, qs.map fun q => (q.1, encT t q.2), rfl, by rw [ef]; exact hs, fun x hx => ?_, ?_, ?_, ?_, fun x hx => ?_, fun q hq => ?_⟩
        · obtain ⟨q, hq, rfl⟩ := List.mem_map.mp hx
          exact dp_bk S.ex (e3 q hq)
        · rw [eg]
          exact PySem.W.AllAlike.of fun a b => alike_enc t a b
        · rw [eg]
          cases t with
          | true =>
            refine .inl fun d hd => ?_
            obtain ⟨ns, hn, rfl⟩ := List.mem_map.mp hd
            cases ns with
            | nil => exact absurd rfl (h2 rfl _ hn)
            | cons x r => exact ⟨_, _, rfl⟩
          | false =>
            refine .inr fun d hd => ?_
            obtain ⟨ns, hn, rfl⟩ := List.mem_map.mp hd
            exact ⟨by simp [encT], fun xs => by simp [encT]⟩
        · have : qs.length = nss.length := by rw [← e2, List.length_map]
          rw [List.length_map]
          omega
        · obtain ⟨q, hq, rfl⟩ := List.mem_map.mp hx
          have := depth_enc t q.2
          show (encT t q.2).depth ≤ 60
          omega
        · have le1 : ∀ a ∈ qs, ∀ b ∈ qs, (fun a b : V × List Int => !lexZ b.2 a.2) a b = PySem.W.dataLe false (fun p : V × PyData => p.2) (a.1, encT t a.2) (b.1, encT t b.2) := fun a _ b _ => by
            rw [PySem.W.dataLe_eq]
            show _ = !PySem.W.dataLt (encT t b.2) (encT t a.2)
            rw [dataLt_enc]
          have m1 := List.map_mergeSort (f := fun q : V × List Int => (q.1, encT t q.2)) le1
          have m2 : (qs.mergeSort fun a b => !lexZ b.2 a.2).map (·.2) = nss.mergeSort fun a b => !lexZ b a := by
            rw [← e2]
            exact List.map_mergeSort (f := fun q : V × List Int => q.2) fun _ _ _ _ => rfl
          rw [← m1, List.map_map]
          have r3 := zip_rvs (K := K) (G := G) (t := t) (qs.mergeSort fun a b => !lexZ b.2 a.2) fun q hq => e3 q (List.mem_mergeSort.mp hq)
          rw [m2] at r3
          obtain ⟨κ', G', l', S', r'⟩ := S.new hq r3 h
          exact k κ' G' _ _ l' S' r'
      · cases h
    · cases h
  · cases h
end
section
variable {X : Cx} {e : Expr} {es : List Expr} {das : DA} {n k : Nat} {p pos : Pos}
theorem d_minT (hr : Room k X.A) (hm : X.mg "min" = none) (ha : PDA X (e :: es) das n) (hc : X.calm = true := by rfl) (hg : Gl X "min" := by rfl) (he : starEach (e :: es) X.env = (false, eval e X.env) :: starEach es X.env := by rfl) (hpl : (backTo pos (starEach es X.env)).any (·.1) = false := by rfl) : PD X (.Call (.Name "min" p) (e :: es) [] pos) (eA oMinT das) := d_bi (x := "min") (cr_minD hc (by have := hr.units; omega)) sa_minT hg hm (by decide +kernel) ha (he := he) (hpl := hpl)
theorem d_sortT (t c : Bool) (hr : Room k X.A) (hm : X.mg "sorted" = none) (ha : PDA X (e :: es) das n) (hg : Gl X "sorted" := by rfl) (he : starEach (e :: es) X.env = (false, eval e X.env) :: starEach es X.env := by rfl) (hpl : (backTo pos (starEach es X.env)).any (·.1) = false := by rfl) : PD X (.Call (.Name "sorted" p) (e :: es) [] pos) (eA (oSortT t c) das) := d_bi (x := "sorted") (cr_sortD (by have := hr.units; omega)) (sa_sortT t c) hg hm (by decide +kernel) ha (he := he) (hpl := hpl)
end
/-- len of what raises -/
theorem x_len {X : Cx} {W : WX} {e : Expr} {p pos : Pos} {dx : DX} (hm : X.mg "len" = none) (ha : PEX X W e dx) (hg : Gl X "len" := by rfl) (he : starEach [e] X.env = (false, eval e X.env) :: starEach [] X.env := by rfl) (hpl : (backTo pos (starEach [] X.env)).any (·.1) = false := by rfl) :
    PEX X W (.Call (.Name "len" p) [e] [] pos) dx := by
  obtain ⟨t, h1, h2⟩ := ha.ex
  refine ⟨_, pe_callB (x := "len") call_len hg hm (by decide +kernel) (pa_cons h1 pa_nil he) (by decide) (by decide) he hpl, ?_⟩
  intro F' κ G σ ρ M H c ρ' M' Q S E h kk
  exact h2 _ S E h kk
end Rw
end PRwVar
section PRwWV
set_option autoImplicit false
set_option linter.all false
/-! RwWV: a loop over enumerate of a deep list. -/
namespace Rw
noncomputable section
def enumW (k : Nat) : List Wv → List Wv
  | [] => []
  | w :: r => mkT [.v (.d (.int (k : Int))), w] :: enumW (k + 1) r
def sForE (a : WE) (tg : Tgt) (s : WS) : WS := fun ρ S => match a ρ S with
  | some (.l n, S1) => match S1.N n with
    | some ws => forW (fun S' => S'.N n = some ws) (stepW tg s) (enumW 0 ws) ρ S1
    | none => none
  | _ => none
end
end Rw
end PRwWV
section PRwWOkV
set_option linter.all false
set_option maxHeartbeats 1000000
namespace Rw
section
variable {ρ : WEnv} {S : WSt} {P : WOut → Prop}
@[simp ↓] theorem ok_sForE {a : WE} {tg : Tgt} {s : WS} : Ok (sForE a tg s ρ S) P ↔ Ok (a ρ S) fun p => Ok (asL p.1) fun n => Ok (p.2.N n) fun ws => Ok (forW (fun S' => S'.N n = some ws) (stepW tg s) (enumW 0 ws) ρ p.2) P := by
  unfold sForE
  cases a ρ S with
  | none => simp
  | some p =>
    obtain ⟨w, S1⟩ := p
    simp only [ok_some]
    cases w with
    | l n =>
      simp only [asL, ok_some]
      cases S1.N n with
      | none => simp
      | some ws => simp
    | _ => simp [asL]
theorem enumW_at : ∀ (ws : List Wv) (k i : Nat) (t : Wv), (enumW k ws)[i]? = some t → ∃ w, ws[i]? = some w ∧ t = mkT [.v (.d (.int ((k + i : Nat) : Int))), w]
  | [], _, _, _, h => by simp [enumW] at h
  | x :: r, k, 0, t, h => by simp [enumW] at h; exact ⟨x, rfl, by rw [← h]; simp⟩
  | x :: r, k, i + 1, t, h => by
    simp only [enumW, List.getElem?_cons_succ] at h
    obtain ⟨w, h1, h2⟩ := enumW_at r (k + 1) i t h
    refine ⟨w, by simpa using h1, ?_⟩
    rw [h2]
    congr 6
    omega
theorem enumW_len : ∀ (ws : List Wv) (k : Nat), (enumW k ws).length = ws.length
  | [], _ => rfl
  | _ :: r, k => by simp [enumW, enumW_len r]
/-- cells, one behind another -/
def cellsW (c0 k : Nat) : List Wv := (List.range k).map fun i => .v (.c (c0 + i))
theorem comp_cellsW {α : Type} {chk : WSt → Prop} {step : D → WSt → Option (Option Wv × WSt)} {e : α → D} {w : α → List D} (hc : ∀ S, chk S) : ∀ (Q : List α) (S : WSt), (∀ x ∈ Q, ∀ S, step (e x) S = some (some (.v (.c S.M.length)), ⟨S.M ++ [some (w x)], S.N⟩)) → compW chk step (Q.map e) S = some (cellsW S.M.length Q.length, ⟨S.M ++ Q.map (fun x => some (w x)), S.N⟩)
  | [], S, _ => by
    unfold compW
    simp only [List.map_nil]
    rw [grd_ok (hc S)]
    simp [cellsW]
  | x :: Q, S, h => by
    simp only [List.map_cons]
    unfold compW
    rw [grd_ok (hc S), h x (by simp) S]
    simp only
    rw [comp_cellsW hc Q _ fun y hy => h y (by simp [hy])]
    simp only [List.length_append, List.length_singleton, List.append_assoc, List.singleton_append, List.length_cons, List.length_nil, Nat.zero_add]
    have : (.v (.c S.M.length)) :: cellsW (S.M.length + 1) Q.length = cellsW S.M.length (Q.length + 1) := by
      unfold cellsW
      rw [List.range_succ_eq_map, List.map_cons, List.map_map]
      congr 1
      refine List.map_congr_left fun i _ => ?_
      show Wv.v (.c (S.M.length + 1 + i)) = Wv.v (.c (S.M.length + (i + 1)))
      congr 2
      omega
    rw [this]
/-- a comprehension that changes nothing -/
theorem comp_sameW {α : Type} {chk : WSt → Prop} {step : D → WSt → Option (Option Wv × WSt)} {e : α → D} {w : α → Wv} {S : WSt} (hc : chk S) : ∀ (Q : List α), (∀ x ∈ Q, step (e x) S = some (some (w x), S)) → compW chk step (Q.map e) S = some (Q.map w, S)
  | [], _ => by
    unfold compW
    simp only [List.map_nil]
    rw [grd_ok hc]
  | x :: Q, h => by
    simp only [List.map_cons]
    unfold compW
    rw [grd_ok hc, h x (by simp)]
    simp only
    rw [comp_sameW hc Q fun y hy => h y (by simp [hy])]
theorem rs_cellsW {b n c0 k : Nat} {S : WSt} {G : Nat → List D} (hb : b ≤ c0) (hn : b ≤ n) (hN : S.N n = some (cellsW c0 k)) (h : ∀ i, i < k → S.M[c0 + i]? = some (some (G i))) : rs b 5 S (.l n) = some (.lst ((List.range k).map fun i => .lst (G i))) := by
  rw [rs_l hn hN]
  unfold cellsW
  rw [rsL_map (h := fun i => .lst (G i))]
  · rfl
  · intro i hi
    exact rs_c (by omega) (h i (List.mem_range.mp hi))
theorem cellsW_at {c0 k i : Nat} (h : i < k) : (cellsW c0 k)[i]? = some (.v (.c (c0 + i))) := by
  unfold cellsW
  rw [List.getElem?_map, List.getElem?_range h]
  rfl
/-- o[i] = e, o a flat cell -/
theorem sPut_c {o e : WE} {i : DE} {ρ : WEnv} {S : WSt} {n j : Nat} {y : D} {k : Int} {xs : List D} (he : e ρ S = some (.v (.d y), S)) (ho : o ρ S = some (.v (.c n), S)) (hi : wE i ρ S = some (.v (.d (.int k)), S)) (hx : S.M[n]? = some (some xs)) (hj : ixD xs.length k = some j) : sPut o i e ρ S = some (.nx ρ ⟨setC S.M n (xs.set j y), S.N⟩) := by
  unfold sPut
  simp only [he, ho, hi, hx, Option.join_some, hj]
theorem sAugS_c {f : O2} {o e : WE} {i : DE} {ρ : WEnv} {S : WSt} {n j : Nat} {x z : D} {y : Dv} {k : Int} {xs : List D} (ho : o ρ S = some (.v (.c n), S)) (hi : wE i ρ S = some (.v (.d (.int k)), S)) (hx : S.M[n]? = some (some xs)) (hj : ixD xs.length k = some j) (hxj : xs[j]? = some x) (he : e ρ S = some (.v y, S)) (hf : f (.d x) y S.M = some (.d z, S.M)) : sAugS f o i e ρ S = some (.nx ρ ⟨setC S.M n (xs.set j z), S.N⟩) := by
  unfold sAugS
  simp only [he, ho, hi, hx, Option.join_some, hj, hxj, hf, if_true]
end
end Rw
end PRwWOkV
section PRwWVar
set_option Elab.async false
set_option linter.all false
set_option maxRecDepth 100000
set_option maxHeartbeats 2000000
/-! RwWVar: a loop over enumerate of a deep list. -/
namespace Rw
open PySem L2 PySem.Spec PyProof.Rows
open Evl (Ex)
theorem enumW_get : ∀ (ws : List Wv) (k i : Nat) (w : Wv), ws[i]? = some w → (enumW k ws)[i]? = some (mkT [.v (.d (.int ((k + i : Nat) : Int))), w])
  | [], _, _, _, h => by simp at h
  | x :: r, k, 0, w, h => by simp at h; subst h; simp [enumW]
  | x :: r, k, i + 1, w, h => by
    simp only [enumW, List.getElem?_cons_succ]
    rw [enumW_get r (k + 1) i w (by simpa using h)]
    congr 6
    omega
theorem enumW_length : ∀ (ws : List Wv) (k : Nat), (enumW k ws).length = ws.length
  | [], _ => rfl
  | _ :: r, k => by simp [enumW, enumW_length r]
section
variable {K : PySem.W.Frag}
theorem rxw_mkT {κ : List Addr} {G : Hp} {a : Addr} {us : List V} {ws : List Wv} (h : SqT K G a us) (r : RxWs K κ G us ws) : RxW K κ G (.ref a) (mkT ws) := by
  unfold mkT
  split
  · rename_i xs e
    exact .v (show Rv K G (.ref a) (.tup xs) from .tup h (allW_of r e))
  · exact .t h r
theorem wss_forE {ta : TE} {a : WE} {tg : Tgt} {tb : TS} {s : WS} (ha : SimWE K ta a) (hs : SimWS K tb s) : SimWS K (tFor (iEnum K (tCons ta tNil)) (tg.tg K) tb) (sForE a tg s) := ⟨fun {F κ G σ ρ S H D o} W E h k => by
  unfold sForE at h
  split at h
  · rename_i n S1 e
    split at h
    · rename_i ws ew
      refine ha.run W E e fun κ1 G1 u H1 l1 W1 r1 => ?_
      cases r1 with
      | l hb =>
        rename_i b
        obtain ⟨us, q1, q2⟩ := W1.getL ew hb
        refine ⟨b, us, rfl, .of q1, ?_⟩
        have WK : Walk (Ite K b) ws.length (fun H => ∃ us κ G, SqL K H b us ∧ RxWs K κ G us ws) (fun i H v H' => ∃ T x, v = .ref T ∧ H T = none ∧ H' = upd H T (.tup [.int (i : Nat), x]) ∧ ∀ us, SqL K H b us → us[i]? = some x) :=
          ⟨fun i H hi ⟨us, κ, G, q, p⟩ => by
            have hl : i < us.length := by rw [p.length]; exact hi
            exact ⟨us, us[i], q, by simp [hl]⟩, fun H ⟨us, κ, G, q, p⟩ => ⟨us, q, by rw [p.length]; exact Nat.le_refl _⟩, fun i H x H' hi _ y => y⟩
        refine for_it WK (fun i σ H => ∃ κ2 G2 ρ2 S3, Le κ1 G1 κ2 G2 ∧ SmW K F κ2 G2 S3 H ∧ SeW K κ2 G2 σ ρ2 ∧ i ≤ ws.length ∧ forW (fun S' => S'.N n = some ws) (stepW tg s) ((enumW 0 ws).drop i) ρ2 S3 = some o) ?_ ?_ ?_ ?_
        · exact ⟨κ1, G1, ρ, _, Le.refl _ _, W1, E.mono l1, Nat.zero_le _, h⟩
        · rintro i σ H hi ⟨κ2, G2, ρ2, S3, l2, W2, E2, _, h2⟩
          have st : S3.N n = some ws := by
            cases hx : (enumW 0 ws).drop i with
            | nil => rw [hx] at h2; unfold forW at h2; exact (grd_some h2).1
            | cons y r => rw [hx] at h2; unfold forW at h2; exact (grd_some h2).1
          obtain ⟨vs, p1, p2⟩ := W2.getL st (l2.at_ hb)
          exact ⟨vs, κ2, G2, .of p1, p2⟩
        · rintro i x σ H H' hi ⟨κ2, G2, ρ2, S3, l2, W2, E2, _, h2⟩ ⟨T, y, rfl, hT, rfl, hy⟩
          have hi2 : i < (enumW 0 ws).length := by rw [enumW_length]; exact hi
          have hx : (enumW 0 ws).drop i = (enumW 0 ws)[i] :: (enumW 0 ws).drop (i + 1) := List.drop_eq_getElem_cons hi2
          rw [hx] at h2
          unfold forW at h2
          obtain ⟨st, h2⟩ := grd_some h2
          obtain ⟨vs, p1, p2⟩ := W2.getL st (l2.at_ hb)
          obtain ⟨w, hw, rw'⟩ := p2.get' (hy vs (.of p1))
          have ed2 : (enumW 0 ws)[i] = mkT [.v (.d (.int (i : Nat))), w] := by
            have := enumW_get ws 0 i w hw
            rw [List.getElem?_eq_getElem hi2, Nat.zero_add] at this
            exact Option.some.inj this
          rw [ed2] at h2
          obtain ⟨g1, l3, W3⟩ := W2.newG (.tup [.int (i : Nat), y]) hT
          have hG : upd G2 T (.tup [.int (i : Nat), y]) T = some (.tup [.int (i : Nat), y]) := by simp [upd]
          have rT : RxW K κ2 (upd G2 T (.tup [.int (i : Nat), y])) (.ref T) (mkT [.v (.d (.int (i : Nat))), w]) := rxw_mkT (.of hG) (.cons (.v (show Rv K _ _ _ from .int _)) (.cons (rw'.mono l3) .nil))
          generalize mkT [.v (.d (.int (i : Nat))), w] = tw at *
          cases es : stepW tg s tw ρ2 S3 with
          | none => simp only [es] at h2; cases h2
          | some q =>
            simp only [es] at h2
            unfold stepW at es
            cases ep : tg.putW tw ρ2 with
            | none => simp only [ep] at es; cases es
            | some ρ1 =>
              simp only [ep] at es
              refine putW_ok W3 tg rT (E2.mono l3) ep fun σ2 E3 => hs.run W3 E3 es ?_
              cases q with
              | nx ρ4 M4 => exact fun κ' G' σ' H' l S' E' => ⟨κ', G', ρ4, M4, (l2.trans l3).trans l, S', E', by omega, h2⟩
              | ct ρ4 M4 => exact fun κ' G' σ' H' l S' E' => ⟨κ', G', ρ4, M4, (l2.trans l3).trans l, S', E', by omega, h2⟩
              | bk ρ4 M4 =>
                cases h2
                exact fun κ' G' σ' H' l S' E' => k κ' G' σ' H' (((l1.trans l2).trans l3).trans l) S' E'
              | rt v M4 =>
                cases h2
                exact fun κ' G' u H' l S' r => k κ' G' u H' (((l1.trans l2).trans l3).trans l) S' r
        · rintro σ H ⟨κ2, G2, ρ2, S3, l2, W2, E2, _, h2⟩
          rw [List.drop_eq_nil_of_le (by rw [enumW_length]; exact Nat.le_refl _)] at h2
          unfold forW at h2
          obtain ⟨st, h2⟩ := grd_some h2
          cases h2
          exact k κ2 G2 σ H (l1.trans l2) W2 E2
    · cases h
  · cases h⟩
end
theorem qs_forE {X : Cx} {a : Expr} {we : WE} {elts : List Expr} {kk : Nat} {p pos pos' tpos : Pos} {body : List Stmt} {tgt : Tgt} {s : WS} (hm : X.mg "enumerate" = none) (hi : PWE X a we) (hg : PDG X (.Tuple elts kk tpos) tgt) (hb : PWB X body s) (hgl : Gl X "enumerate" := by rfl) (hst : starEach [a] X.env = [(false, eval a X.env)] := by rfl) (hp : PassesOwn (model X.prog X.w) X.A X.env X.xe := by exact PassesOwn.never) (hc : X.calm = true := by rfl) (hs : ∀ x, foldedSetIterable (.Call (.Name "enumerate" p) [a] [] pos') X.env x = pure x := by intro _; rfl) : PWS X (.For (.Tuple elts kk tpos) (.Call (.Name "enumerate" p) [a] [] pos') body [] pos) (sForE we tgt s) := by
  obtain ⟨t1, a1, a2⟩ := hi.ex
  obtain ⟨t3, c1, c2⟩ := hb.ex
  exact ⟨_, ps_for hp hc (pi_enum hgl hm (pa_cons a1 pa_nil hst) hst) hg.ex c1 hs, wss_forE a2 c2⟩
section
variable {X : Cx} {a b c e : Expr} {pos : Pos} {tg : Expr}
/-- name = [..], data -/
theorem qs_setLcZ (i : Nat) {y : Str} {py spos : Pos} {elt iter : Expr} {ifs : List Expr} {scope : Scope} (own : List (Str × Nat)) {it : DI} {tgt : Tgt} {tt : WT} {el : WE} (hN : X.N.Nodup) (hi : PDI X tg iter it) (ok : blkC X.N X.env.scope scope own = true)
    (hg : ∀ (s : Shared) (H : Hp) (C : Addr) (cl : List (Str × Addr)) (fp : List Addr), PDG (X.blk s H scope (compEnvC scope cl C X.env) fp) tg tgt) (ht : ∀ (s : Shared) (H : Hp) (C : Addr) (cl : List (Str × Addr)) (fp : List Addr), PWTs (X.blk s H scope (compEnvC scope cl C X.env) fp) ifs tt)
    (he : ∀ (s : Shared) (H : Hp) (C : Addr) (cl : List (Str × Addr)) (fp : List Addr), PWE (X.blk s H scope (compEnvC scope cl C X.env) fp) elt el)
    (hsw : swapsWith (.ListComp elt [⟨tg, iter, ifs, 0⟩] scope pos) (some (.Name y py)) spos.line X.env = pure true) (hy : X.N[i]? = some y := by rfl) (hyl : X.env.scope.names.lookup y = some .local := by rfl) (hown : ∀ i ∈ tgt.slots, i ∈ own.map (·.2) := by decide) (hc : X.calm = true := by rfl) (hs : ∀ x, foldedSetIterable iter X.env x = pure x := by intro _; rfl) :
    PWS X (.Assign [.Name y py] (.ListComp elt [⟨tg, iter, ifs, 0⟩] scope pos) spos) (sAsg (.name i) (wFrz (wComp it tgt tt el (own.map (·.2))))) := by
  obtain ⟨t1, a1, a2⟩ := hi.ex
  have h := wss_asg (tg := .name i) (wsim_frz (wsim_lc (tg := tgt) a2 simOfWT simOfW hown (K := X.K) (t := tt) (el := el)))
  simp only [Tgt.tg] at h
  exact ⟨_, ps_setLc hc hN hy hyl hsw a1 (blkOk_by ok) (fun s H C cl fp => (hg s H C cl fp).ex) (fun s H C cl fp => (ht s H C cl fp).can) (fun s H C cl fp => (he s H C cl fp).can) hs, h⟩
end
section
variable {X : Cx} {a b : Expr} {pos : Pos} {wa wb : WE}
/-- an item of a flat thing -/
theorem q_ixF (ha : PWE X a wa) (hb : PWE X b wb) (hs : PlainIx b := by exact fun _ _ => rfl) : PWE X (.Subscript a b pos) (w2 oIx wa wb) := by
  obtain ⟨t1, a1, a2⟩ := ha.ex
  obtain ⟨t2, b1, b2⟩ := hb.ex
  exact ⟨_, pe_ix ix_seq a1 b1 hs, wsim_2 sr_ix a2 b2⟩
end
end Rw
end PRwWVar
section PRwWS
set_option autoImplicit false
set_option linter.all false
/-! RwWS: a slice of a deep tuple. -/
namespace Rw
noncomputable section
def cutW (xs : List Wv) (lo hi : Option Int) : List Wv := (xs.drop (sIxD xs.length 0 lo)).take (sIxD xs.length xs.length hi - sIxD xs.length 0 lo)
def wSl (a : WE) (lo hi : DO) : WE := fun ρ S => match a ρ S with
  | some (.t ws, S1) => match lo (flE ρ) S1.M with
    | some (l, M2) => match hi (flE ρ) M2 with
      | some (h, M3) => some (mkT (cutW ws l h), ⟨M3, S1.N⟩)
      | none => none
    | none => none
  | _ => none
end
end Rw
namespace Rw
noncomputable section
def cstepL (i : Nat) (t : WT) (el : WE) (ρ : WEnv) (w : Wv) (S : WSt) : Option (Option Wv × WSt) :=
  match t (ρ.set i (some w)) S with
    | some (true, S1) => match el (ρ.set i (some w)) S1 with
      | some (w, S2) => some (some w, S2)
      | none => none
    | some (false, S1) => some (none, S1)
    | none => none
/-- [el for name in a], a a deep list, which stays -/
def wCompL (a : WE) (i : Nat) (t : WT) (el : WE) (own : List Nat) : WE := fun ρ S => match a ρ S with
  | some (.l n, S1) => match S1.N n with
    | some ws => grd (ws.length ≤ big) (match compW (fun S' => S'.N n = some ws) (cstepL i t el (wipeW ρ own)) ws S1 with
      | some (zs, S2) => some (newL zs S2)
      | none => none)
    | none => none
  | _ => none
end
end Rw
namespace Rw
/-- x in xs, xs a tuple of things of any depth -/
noncomputable def oInT (neg : Bool) : O2 := fun x y M => match dv M x, dv M y with
  | some a, some (.tup ys) => grd (a.shp 8 = true ∧ (D.tup ys).shp 9 = true) (some (.d (.bl (xor neg (ys.any fun b => D.eqv b a))), M))
  | _, _ => none
end Rw
end PRwWS
section PRwWSl
set_option Elab.async false
set_option linter.all false
set_option maxRecDepth 100000
set_option maxHeartbeats 2000000
/-! RwWSl: a slice of a deep tuple. -/
namespace Rw
open PySem L2 PySem.Spec PyProof.Rows
open Evl (Ex)
section
variable {K : PySem.W.Frag}
theorem RxWs.drop {κ : List Addr} {G : Hp} : ∀ {us : List V} {ws : List Wv} (i : Nat), RxWs K κ G us ws → RxWs K κ G (us.drop i) (ws.drop i)
  | _, _, 0, h => h
  | _, _, i + 1, .nil => .nil
  | _, _, i + 1, .cons _ r => RxWs.drop i r
theorem RxWs.take {κ : List Addr} {G : Hp} : ∀ {us : List V} {ws : List Wv} (i : Nat), RxWs K κ G us ws → RxWs K κ G (us.take i) (ws.take i)
  | _, _, 0, _ => by simp; exact .nil
  | _, _, i + 1, .nil => .nil
  | _, _, i + 1, .cons h r => .cons h (RxWs.take i r)
theorem RxWs.cut {κ : List Addr} {G : Hp} {us : List V} {ws : List Wv} (r : RxWs K κ G us ws) (lo hi : Option Int) : RxWs K κ G (cutV us lo hi) (cutW ws lo hi) := by
  unfold cutW cutV
  rw [sIx_eq, sIx_eq, r.length]
  exact (r.drop _).take _
theorem cutW_whole {xs : List Wv} {lo hi : Option Int} (h : HT.sIx xs.length 0 lo = 0 ∧ HT.sIx xs.length xs.length hi = xs.length) : cutW xs lo hi = xs := by
  unfold cutW
  rw [sIx_eq, sIx_eq, h.1, h.2]
  simp
theorem wsim_sl {ta : TE} {a : WE} {tl th : TO} {lo hi : DO} (ha : SimWE K ta a) (hl : SimO K tl lo) (hh : SimO K th hi) : SimWE K (tSl (rSlA K) ta tl th) (wSl a lo hi) := ⟨fun {F κ G σ ρ S H Q w S'} W E h k => by
  unfold wSl at h
  split at h
  · rename_i ws S1 e1
    split at h
    · rename_i l M2 e2
      split at h
      · rename_i hv M3 e3
        cases h
        refine ha.run W E e1 fun κ1 G1 u H1 l1 W1 r1 => ?_
        obtain ⟨Z, S0, hz, hn⟩ := W1.ex
        refine hl.run S0 (E.mono l1).flat e2 fun κ2 G2 H2 l2 S2 => hh.run S2 ((E.mono l1).mono l2).flat e3 fun κ3 G3 H3 l3 S3 => ?_
        have W3 := SmW.flat (F := F) hz hn (l2.trans l3) S3
        have r3 := r1.mono (l2.trans l3)
        have l03 := l1.trans (l2.trans l3)
        cases r3 with
        | t hs r =>
          rename_i p us
          refine ⟨p, us, rfl, Evl.ex_t S3.ex hs, fun w => ?_, fun _ q hq => ?_⟩
          · rw [r.length] at w
            have e := cutW_whole w
            exact (k.weak l03).here W3 (by rw [e]; exact mkT_of hs r)
          · obtain ⟨g, l4, W4⟩ := W3.newG (.tup (cutV us l hv)) hq
            exact k κ3 _ _ _ (l03.trans l4) W4 (mkT_of (.of upd_same) ((r.cut l hv).mono l4))
      · cases h
    · cases h
  · cases h⟩
end
section
variable {X : Cx} {e : Expr} {lo hi : Option Expr} {pos p2 : Pos} {we : WE} {dl dh : DO}
theorem q_sl (he : PWE X e we) (hl : PDO X lo dl) (hh : PDO X hi dh) : PWE X (.Subscript e (.Slice lo hi none p2) pos) (wSl we dl dh) := by
  obtain ⟨t1, h1, h2⟩ := he.ex
  obtain ⟨t2, h3, h4⟩ := hl.ex
  obtain ⟨t3, h5, h6⟩ := hh.ex
  exact ⟨_, pe_slice sl_tupA h1 h3 h5, wsim_sl h2 h4 h6⟩
end
theorem wsim_lcL {K : PySem.W.Frag} {ta : TE} {a : WE} {i0 : Nat} {tt : TT} {t : WT} {te : TE} {el : WE} {own : List Nat} (ha : SimWE K ta a) (ht : SimWT K tt t) (he : SimWE K te el) (hown : i0 ∈ own) : SimWE K (tLc (iList K ta) ((Tgt.name i0).tg K) tt te own) (wCompL a i0 t el own) := ⟨fun {F κ G σ ρ S H Q w S'} W E h k => by
  unfold wCompL at h
  split at h
  · rename_i n S1 e
    split at h
    · rename_i ws ew
      obtain ⟨hbig, h⟩ := grd_some h
      split at h
      · rename_i ys S2 hl
        cases h
        refine ha.run W E e fun κ1 G1 u H1 l1 W1 r1 => ?_
        cases r1 with
        | l hb =>
          rename_i b
          obtain ⟨us, q1, q2⟩ := W1.getL ew hb
          refine ⟨b, rfl, ⟨us, .of q1⟩, fun Dl hD => ?_⟩
          have E1 := E.mono l1
          have WK : Walk (Itl K b) ws.length (fun H => ∃ us κ G, SqL K H b us ∧ RxWs K κ G us ws) (fun i H x H' => H' = H ∧ ∀ us, SqL K H b us → us[i]? = some x) :=
            ⟨fun i H hi ⟨us, κ, G, q, p⟩ => by
              have hl : i < us.length := by rw [p.length]; exact hi
              exact ⟨us, us[i], q, by simp [hl]⟩, fun H ⟨us, κ, G, q, p⟩ => ⟨us, q, by rw [p.length]; exact Nat.le_refl _⟩, fun i H x H' hi _ y => y⟩
          obtain ⟨fD, W1f⟩ := W1.frame hD []
          refine lc_it WK (fun i H => ∃ κ2 G2 S3 acc as zs, Le κ1 G1 κ2 G2 ∧ SmW K (F.up Dl (.lst acc)) κ2 G2 S3 H ∧ RxWs K κ2 G2 acc as ∧ acc.length ≤ i ∧ i ≤ ws.length ∧ compW (fun S' => S'.N n = some ws) (cstepL i0 t el (wipeW ρ own)) (ws.drop i) S3 = some (zs, S2) ∧ ys = as ++ zs) ?_ ?_ ?_ ?_
          · exact ⟨κ1, G1, _, [], [], ys, Le.refl _ _, W1f, .nil, Nat.zero_le _, Nat.zero_le _, hl, rfl⟩
          · rintro i H hi ⟨κ2, G2, S3, acc, as, zs, l2, W2, ra, la, _, h2, e2⟩
            have st : S3.N n = some ws := by
              cases hx : ws.drop i with
              | nil => rw [hx] at h2; unfold compW at h2; exact (grd_some h2).1
              | cons y r => rw [hx] at h2; unfold compW at h2; exact (grd_some h2).1
            obtain ⟨vs, p1, p2⟩ := W2.getL st (l2.at_ hb)
            exact ⟨vs, κ2, G2, .of p1, p2⟩
          · rintro i x H H' hi ⟨κ2, G2, S3, acc, as, zs, l2, W2, ra, la, _, h2, e2⟩ ⟨rfl, hy⟩
            have hx : ws.drop i = ws[i] :: ws.drop (i + 1) := List.drop_eq_getElem_cons hi
            rw [hx] at h2
            unfold compW at h2
            obtain ⟨st, h2⟩ := grd_some h2
            obtain ⟨vs, p1, p2⟩ := W2.getL st (l2.at_ hb)
            obtain ⟨w, hw, rw'⟩ := p2.get' (hy vs (.of p1))
            have ed2 : ws[i] = w := by
              rw [List.getElem?_eq_getElem hi] at hw
              exact Option.some.inj hw
            rw [ed2] at h2
            cases es : cstepL i0 t el (wipeW ρ own) w S3 with
            | none => simp only [es] at h2; cases h2
            | some q =>
              obtain ⟨o, S5⟩ := q
              simp only [es] at h2
              cases ec : compW (fun S' => S'.N n = some ws) (cstepL i0 t el (wipeW ρ own)) (ws.drop (i + 1)) S5 with
              | none => simp only [ec] at h2; cases h2
              | some q =>
                obtain ⟨zs', S6⟩ := q
                simp only [ec] at h2
                unfold cstepL at es
                have E2 := ((E1.mono l2).wipe2 own).set rw' i0
                refine ⟨?_, ?_⟩
                · rw [wipe_set hown]
                  apply List.ext_getElem?
                  intro j
                  rw [wipe_get, wipe_get, wipe_length_ite]
                · cases et : t ((wipeW ρ own).set i0 (some w)) S3 with
                  | none => simp only [et] at es; cases es
                  | some p =>
                    obtain ⟨b, S7⟩ := p
                    simp only [et] at es
                    refine ht.run W2 E2 et fun κ4 G4 H4 l4 W5 => ?_
                    cases b with
                    | false =>
                      simp only at es
                      cases es
                      cases h2
                      rw [if_neg Bool.false_ne_true]
                      exact ⟨κ4, G4, _, acc, as, _, l2.trans l4, W5, ra.mono l4, by omega, by omega, ec, e2⟩
                    | true =>
                      simp only at es
                      rw [if_pos rfl]
                      cases ee : el ((wipeW ρ own).set i0 (some w)) S7 with
                      | none => simp only [ee] at es; cases es
                      | some q =>
                        obtain ⟨v, S8⟩ := q
                        simp only [ee] at es
                        cases es
                        cases h2
                        refine he.run W5 (E2.mono l4) ee fun κ5 G5 u H5 l5 W6 r5 => ?_
                        obtain ⟨Z6, S60, _⟩ := W6.ex
                        have ra5 : RxWs K κ5 G5 acc as := (ra.mono l4).mono l5
                        refine ⟨acc, S60.fx Dl _ upd_same, sz_big1 (by omega), κ5, G5, _, acc ++ [u], as ++ [v], zs', (l2.trans l4).trans l5, W6.grow _, ra5.append (.cons r5 .nil), by simp; omega, by omega, ec, ?_⟩
                        rw [e2]
                        simp
          · rintro H ⟨κ2, G2, S3, acc, as, zs, l2, W2, ra, la, _, h2, e2⟩
            rw [List.drop_length] at h2
            unfold compW at h2
            obtain ⟨st, h2⟩ := grd_some h2
            cases h2
            rw [List.append_nil] at e2
            subst e2
            obtain ⟨l', W', r'⟩ := W2.made fD ra
            exact k _ _ _ _ ((l1.trans l2).trans l') W' r'
      · cases h
    · cases h
  · cases h⟩
section
variable {X : Cx} {pos : Pos}
/-- name = [.. for y in a], a deep, as data -/
theorem qs_setLcLZ (i i0 : Nat) {y z : Str} {py spos pz : Pos} {elt iter : Expr} {ifs : List Expr} {scope : Scope} (own : List (Str × Nat)) {a : WE} {tt : WT} {el : WE} (hN : X.N.Nodup) (hi : PWE X iter a) (ok : blkC X.N X.env.scope scope own = true)
    (hg : ∀ (s : Shared) (H : Hp) (C : Addr) (cl : List (Str × Addr)) (fp : List Addr), PDG (X.blk s H scope (compEnvC scope cl C X.env) fp) (.Name z pz) (.name i0)) (ht : ∀ (s : Shared) (H : Hp) (C : Addr) (cl : List (Str × Addr)) (fp : List Addr), PWTs (X.blk s H scope (compEnvC scope cl C X.env) fp) ifs tt)
    (he : ∀ (s : Shared) (H : Hp) (C : Addr) (cl : List (Str × Addr)) (fp : List Addr), PWE (X.blk s H scope (compEnvC scope cl C X.env) fp) elt el)
    (hsw : swapsWith (.ListComp elt [⟨.Name z pz, iter, ifs, 0⟩] scope pos) (some (.Name y py)) spos.line X.env = pure true) (hy : X.N[i]? = some y := by rfl) (hyl : X.env.scope.names.lookup y = some .local := by rfl) (hown : i0 ∈ own.map (·.2) := by decide) (hc : X.calm = true := by rfl) (hs : ∀ x, foldedSetIterable iter X.env x = pure x := by intro _; rfl) :
    PWS X (.Assign [.Name y py] (.ListComp elt [⟨.Name z pz, iter, ifs, 0⟩] scope pos) spos) (sAsg (.name i) (wFrz (wCompL a i0 tt el (own.map (·.2))))) := by
  obtain ⟨t1, a1, a2⟩ := hi.ex
  have h := wss_asg (tg := .name i) (wsim_frz (wsim_lcL a2 simOfWT simOfW hown (K := X.K) (t := tt) (el := el)))
  simp only [Tgt.tg] at h
  exact ⟨_, ps_setLc hc hN hy hyl hsw (pi_list a1) (blkOk_by ok) (fun s H C cl fp => (hg s H C cl fp).ex) (fun s H C cl fp => (ht s H C cl fp).can) (fun s H C cl fp => (he s H C cl fp).can) hs, h⟩
end
section
variable {K : PySem.W.Frag}
def rInT (K : PySem.W.Frag) (neg : Bool) : R2 := fun x y H Q => ∃ d ds, Dp K H x d ∧ Dp K H y (.tuple ds) ∧ SeqAt.shaped d = true ∧ SeqAt.shaped (.tuple ds) = true ∧ Q (.bl (xor neg (ds.any fun z => PyData.eqv z d))) H
theorem sr_inT {neg : Bool} : SimR2 K (rInT K neg) (oInT neg) := fun {F κ G M H Q x y z M' u v} S rx ry h k => by
  unfold oInT at h
  split at h
  · rename_i a ys e1 e2
    obtain ⟨⟨h1, h2⟩, h⟩ := grd_some h
    cases h
    refine ⟨a.toPy, D.toPys ys, dp_dv S rx e1 (n := 7) h1, dp_dv S ry e2 (n := 8) h2, shaped_of h1 (by decide), shaped_of h2 (by decide), ?_⟩
    rw [any_toPys h1 h2]
    exact k.here S (Rv.bl (xor neg (ys.any fun b => D.eqv b a)))
  · cases h
end
section
variable {X : Cx}
theorem op_inT (hu : X.A.units + 65 < cLine) : OpR X (compareOp .In) (rInT X.K false) := by
  intro pins s σ H x y v u Q I rx ry h
  obtain ⟨d, ds, hd, he, sd, se, q⟩ := h
  obtain ⟨as, r1⟩ := Dp.reads I d x v hd rx
  obtain ⟨bs, r2⟩ := Dp.reads I (.tuple ds) y u he ry
  exact SeqAt.in_tuple_reads r2 r1 (SeqAt.canLay_of_shaped se) (SeqAt.canLay_of_shaped sd) (room_in_shaped sd hu) ⟨.bl _, H, I, rfl, by simpa using q⟩
theorem op_notInT (hu : X.A.units + 65 < cLine) : OpR X (compareOp .NotIn) (rInT X.K true) := by
  intro pins s σ H x y v u Q I rx ry h
  obtain ⟨d, ds, hd, he, sd, se, q⟩ := h
  obtain ⟨as, r1⟩ := Dp.reads I d x v hd rx
  obtain ⟨bs, r2⟩ := Dp.reads I (.tuple ds) y u he ry
  exact SeqAt.notIn_tuple_reads r2 r1 (SeqAt.canLay_of_shaped se) (SeqAt.canLay_of_shaped sd) (room_in_shaped sd hu) ⟨.bl _, H, I, rfl, by simpa using q⟩
theorem k_inT {k : Nat} (hr : Room k X.A) : CmpR X .In (oInT false) := ⟨_, op_inT (by have := hr.un; omega), sr_inT⟩
theorem k_notinT {k : Nat} (hr : Room k X.A) : CmpR X .NotIn (oInT true) := ⟨_, op_notInT (by have := hr.un; omega), sr_inT⟩
end
end Rw
end PRwWSl
section PRwBent
set_option autoImplicit false
set_option linter.all false
set_option maxRecDepth 100000
/-! RwBent: ways that lay two lists side by side, least sums. -/
namespace Rw
/-- within the band -/
def inB (b i j : Nat) : Bool := decide (i ≤ j + b ∧ j ≤ i + b)
/-- the places ahead of two places -/
def ahd (b i j : Nat) : List (Nat × Nat) := (if 1 ≤ i ∧ inB b (i - 1) j = true then [(i - 1, j)] else []) ++ (if 1 ≤ j ∧ inB b i (j - 1) = true then [(i, j - 1)] else []) ++ (if 1 ≤ i ∧ 1 ≤ j ∧ inB b (i - 1) (j - 1) = true then [(i - 1, j - 1)] else [])
theorem ahd_mem {b i j : Nat} {x : Nat × Nat} (h : x ∈ ahd b i j) : inB b x.1 x.2 = true ∧ x.1 ≤ i ∧ x.2 ≤ j ∧ x.1 + x.2 < i + j := by
  unfold ahd at h
  rcases List.mem_append.mp h with h | h
  · rcases List.mem_append.mp h with h | h
    · split at h
      · rename_i c
        simp at h
        subst h
        exact ⟨c.2, by simp, by simp, by simp; omega⟩
      · simp at h
    · split at h
      · rename_i c
        simp at h
        subst h
        exact ⟨c.2, by simp, by simp, by simp; omega⟩
      · simp at h
  · split at h
    · rename_i c
      simp at h
      subst h
      exact ⟨c.2.2, by simp, by simp, by simp; omega⟩
    · simp at h
theorem ahd_zero {b : Nat} : ahd b 0 0 = [] := by simp [ahd]
theorem ahd_ne {b i j : Nat} (h : inB b i j = true) (h0 : ¬ (i = 0 ∧ j = 0)) : ahd b i j ≠ [] := by
  unfold inB at h
  rw [decide_eq_true_eq] at h
  intro e
  unfold ahd at e
  rw [List.append_eq_nil_iff, List.append_eq_nil_iff] at e
  obtain ⟨⟨e1, e2⟩, e3⟩ := e
  by_cases hi : i = 0
  · rw [if_pos] at e2
    · cases e2
    · refine ⟨by omega, ?_⟩
      unfold inB
      rw [decide_eq_true_eq]
      omega
  · by_cases hj : j = 0
    · rw [if_pos] at e1
      · cases e1
      · refine ⟨by omega, ?_⟩
        unfold inB
        rw [decide_eq_true_eq]
        omega
    · rw [if_pos] at e3
      · cases e3
      · refine ⟨by omega, by omega, ?_⟩
        unfold inB
        rw [decide_eq_true_eq]
        omega
/-- least of some, 0 of none -/
def lsZ : List Int → Int
  | [] => 0
  | [x] => x
  | x :: y :: r => min x (lsZ (y :: r))
theorem lsZ_eq : ∀ l : List Int, lsZ l = minZ l
  | [] => rfl
  | [x] => rfl
  | x :: y :: r => by
    show min x (lsZ (y :: r)) = min x (minZ (y :: r))
    rw [lsZ_eq (y :: r)]
theorem lsZ_mem : ∀ {l : List Int}, l ≠ [] → lsZ l ∈ l
  | [], h => absurd rfl h
  | [x], _ => by simp [lsZ]
  | x :: y :: r, _ => by
    have ih := lsZ_mem (l := y :: r) (by simp)
    unfold lsZ
    rw [Int.min_def]
    split
    · simp
    · exact List.mem_cons_of_mem _ ih
theorem lsZ_le : ∀ {l : List Int} {x : Int}, x ∈ l → lsZ l ≤ x
  | [], x, h => by cases h
  | [y], x, h => by simp at h; subst h; simp [lsZ]
  | z :: y :: r, x, h => by
    unfold lsZ
    rcases List.mem_cons.mp h with rfl | h
    · omega
    · have := lsZ_le (l := y :: r) h
      omega
/-- least sums, to a depth -/
def hF (sq : Nat → Nat → Int) (b : Nat) : Nat → Nat → Nat → Int
  | 0, i, j => sq i j
  | k + 1, i, j => sq i j + lsZ ((ahd b i j).map fun x => hF sq b k x.1 x.2)
theorem hF_eq {sq : Nat → Nat → Int} {b : Nat} : ∀ {k i j : Nat}, i + j ≤ k → hF sq b k i j = hF sq b (i + j) i j
  | 0, i, j, h => by
    have : i + j = 0 := by omega
    rw [this]
  | k + 1, i, j, h => by
    cases hn : i + j with
    | zero =>
      have h1 : i = 0 := by omega
      have h2 : j = 0 := by omega
      subst h1 h2
      show sq 0 0 + lsZ ((ahd b 0 0).map _) = sq 0 0
      rw [ahd_zero]
      simp [lsZ]
    | succ n =>
      show sq i j + lsZ ((ahd b i j).map fun x => hF sq b k x.1 x.2) = sq i j + lsZ ((ahd b i j).map fun x => hF sq b n x.1 x.2)
      congr 2
      refine List.map_congr_left fun x hx => ?_
      have := ahd_mem hx
      rw [hF_eq (k := k) (by omega), hF_eq (k := n) (by omega)]
def hZ (sq : Nat → Nat → Int) (b i j : Nat) : Int := hF sq b (i + j) i j
theorem hZ_step {sq : Nat → Nat → Int} {b i j : Nat} : hZ sq b i j = sq i j + lsZ ((ahd b i j).map fun x => hZ sq b x.1 x.2) := by
  unfold hZ
  have h := hF_eq (sq := sq) (b := b) (k := i + j + 1) (i := i) (j := j) (by omega)
  rw [← h]
  show sq i j + lsZ ((ahd b i j).map fun x => hF sq b (i + j) x.1 x.2) = _
  congr 2
  refine List.map_congr_left fun x hx => ?_
  have := ahd_mem hx
  exact hF_eq (by omega)
/-- a way of so many steps, with its sum -/
inductive Way (sq : Nat → Nat → Int) (b : Nat) : Nat → Nat → Nat → Int → Prop
  | start : Way sq b 0 0 0 (sq 0 0)
  | step {k a c i j : Nat} {s : Int} : Way sq b k a c s → (a, c) ∈ ahd b i j → inB b i j = true → Way sq b (k + 1) i j (s + sq i j)
theorem Way.inB {sq : Nat → Nat → Int} {b k i j : Nat} {s : Int} (h : Way sq b k i j s) : Rw.inB b i j = true := by
  cases h with
  | start => simp [Rw.inB]
  | step _ _ h => exact h
theorem Way.ge {sq : Nat → Nat → Int} {b k i j : Nat} {s : Int} (h : Way sq b k i j s) : hZ sq b i j ≤ s := by
  induction h with
  | start => simp [hZ, hF]
  | step _ hm hb ih =>
    rename_i k a c i j s w
    rw [hZ_step]
    have := lsZ_le (List.mem_map.mpr ⟨_, hm, rfl⟩ : hZ sq b a c ∈ (ahd b i j).map fun x => hZ sq b x.1 x.2)
    omega
theorem Way.steps {sq : Nat → Nat → Int} {b k i j : Nat} {s : Int} (h : Way sq b k i j s) : k ≤ i + j := by
  induction h with
  | start => omega
  | step _ hm _ ih =>
    have := (ahd_mem hm).2.2.2
    simp at this
    omega
/-- the place ahead that has the least sum -/
theorem ahd_least {sq : Nat → Nat → Int} {b i j : Nat} (h : inB b i j = true) (h0 : ¬ (i = 0 ∧ j = 0)) : ∃ x ∈ ahd b i j, hZ sq b i j = sq i j + hZ sq b x.1 x.2 := by
  have hm := lsZ_mem (l := (ahd b i j).map fun x => hZ sq b x.1 x.2) (by
    intro e
    exact ahd_ne h h0 (List.map_eq_nil_iff.mp e))
  obtain ⟨x, hx, e⟩ := List.mem_map.mp hm
  exact ⟨x, hx, by rw [hZ_step, ← e]⟩
theorem way_least {sq : Nat → Nat → Int} {b : Nat} : ∀ (n i j : Nat), i + j ≤ n → inB b i j = true → ∃ k, Way sq b k i j (hZ sq b i j)
  | n, i, j, hn, h => by
    by_cases h0 : i = 0 ∧ j = 0
    · obtain ⟨rfl, rfl⟩ := h0
      exact ⟨0, by simpa [hZ, hF] using Way.start⟩
    · obtain ⟨x, hx, e⟩ := ahd_least (sq := sq) h h0
      have hm := ahd_mem hx
      cases n with
      | zero => omega
      | succ n =>
        obtain ⟨k, w⟩ := way_least n x.1 x.2 (by omega) hm.1
        refine ⟨k + 1, ?_⟩
        have := Way.step (i := i) (j := j) w hx h
        rw [e, Int.add_comm]
        exact this
/-- a way as a list of places -/
inductive Wl (sq : Nat → Nat → Int) (b : Nat) : List (Nat × Nat) → Nat → Nat → Int → Prop
  | start : Wl sq b [(0, 0)] 0 0 (sq 0 0)
  | step {W : List (Nat × Nat)} {a c i j : Nat} {s : Int} : Wl sq b W a c s → (a, c) ∈ ahd b i j → inB b i j = true → Wl sq b (W ++ [(i, j)]) i j (s + sq i j)
theorem Wl.last {sq : Nat → Nat → Int} {b i j : Nat} {W : List (Nat × Nat)} {s : Int} (h : Wl sq b W i j s) : ∃ W', W = W' ++ [(i, j)] := by
  cases h with
  | start => exact ⟨[], rfl⟩
  | step => exact ⟨_, rfl⟩
/-- what the rest R, from the end on, makes of a way -/
def Tl (sq : Nat → Nat → Int) (b m n : Nat) (R : List (Nat × Nat)) (i j : Nat) : Prop := ∀ W s, Wl sq b W i j s → Wl sq b (W.dropLast ++ R.reverse) m n (s - hZ sq b i j + hZ sq b m n)
theorem Tl.start {sq : Nat → Nat → Int} {b m n : Nat} : Tl sq b m n [(m, n)] m n := fun W s h => by
  obtain ⟨W', rfl⟩ := h.last
  have e : s - hZ sq b m n + hZ sq b m n = s := by omega
  rw [e]
  simpa using h
theorem Tl.step {sq : Nat → Nat → Int} {b m n i j a c : Nat} {R : List (Nat × Nat)} (h : Tl sq b m n R i j) (hm : (a, c) ∈ ahd b i j) (hb : inB b i j = true) (e : hZ sq b i j = sq i j + hZ sq b a c) : Tl sq b m n (R ++ [(a, c)]) a c := fun W s w => by
  have k := h _ _ (Wl.step w hm hb)
  obtain ⟨W', rfl⟩ := w.last
  have e2 : s + sq i j - hZ sq b i j + hZ sq b m n = s - hZ sq b a c + hZ sq b m n := by omega
  rw [e2] at k
  simpa using k
theorem Tl.done {sq : Nat → Nat → Int} {b m n : Nat} {R : List (Nat × Nat)} (h : Tl sq b m n R 0 0) : Wl sq b R.reverse m n (hZ sq b m n) := by
  have := h _ _ Wl.start
  have e : sq 0 0 - hZ sq b 0 0 + hZ sq b m n = hZ sq b m n := by simp [hZ, hF]
  rw [e] at this
  simpa using this
/-- the least of rows has the least head -/
theorem minL_mem : ∀ (r : List (List Int)) (x : List Int), minL x r ∈ x :: r
  | [], x => by simp [minL]
  | y :: r, x => by
    unfold minL
    have := minL_mem r (if lexZ y x then y else x)
    rcases List.mem_cons.mp this with h | h
    · rw [h]
      split <;> simp
    · simp [h]
theorem lex_head {a b : Int} {r s : List Int} : (lexZ (a :: r) (b :: s) = true → a ≤ b) ∧ (lexZ (a :: r) (b :: s) = false → b ≤ a) := by
  unfold lexZ
  by_cases h : a = b
  · simp [h]
  · simp [h]
    omega
theorem minL_head {α : Type} {f : α → Int} {g : α → List Int} : ∀ (l : List α) (x : α), ∃ y, y ∈ x :: l ∧ minL (f x :: g x) (l.map fun z => f z :: g z) = f y :: g y ∧ ∀ z ∈ x :: l, f y ≤ f z
  | [], x => ⟨x, by simp, rfl, fun z hz => by simp at hz; subst hz; exact Int.le_refl _⟩
  | w :: l, x => by
    rw [List.map_cons, minL]
    cases hl : lexZ (f w :: g w) (f x :: g x) with
    | true =>
      obtain ⟨y, h1, h2, h3⟩ := minL_head (f := f) (g := g) l w
      simp only [if_true]
      refine ⟨y, List.mem_cons_of_mem _ h1, h2, fun z hz => ?_⟩
      rcases List.mem_cons.mp hz with rfl | hz
      · have := lex_head.1 hl
        have := h3 w (by simp)
        omega
      · exact h3 z hz
    | false =>
      obtain ⟨y, h1, h2, h3⟩ := minL_head (f := f) (g := g) l x
      simp only [Bool.false_eq_true, if_false]
      refine ⟨y, ?_, h2, fun z hz => ?_⟩
      · rcases List.mem_cons.mp h1 with h | h
        · simp [h]
        · simp [h]
      · rcases List.mem_cons.mp hz with rfl | hz
        · exact h3 z (by simp)
        · rcases List.mem_cons.mp hz with rfl | hz
          · have := lex_head.2 hl
            have := h3 x (by simp)
            omega
          · exact h3 z (by simp [hz])
/-- a place ahead with the least height of those ahead -/
theorem least_ahd {sq : Nat → Nat → Int} {b i j : Nat} {y : Nat × Nat} (hy : y ∈ ahd b i j) (h : ∀ z ∈ ahd b i j, hZ sq b y.1 y.2 ≤ hZ sq b z.1 z.2) : hZ sq b i j = sq i j + hZ sq b y.1 y.2 := by
  rw [hZ_step]
  congr 1
  have h1 := lsZ_le (List.mem_map.mpr ⟨y, hy, rfl⟩ : hZ sq b y.1 y.2 ∈ (ahd b i j).map fun x => hZ sq b x.1 x.2)
  have h2 := lsZ_mem (l := (ahd b i j).map fun x => hZ sq b x.1 x.2) (by intro e; rw [List.map_eq_nil_iff] at e; rw [e] at hy; cases hy)
  obtain ⟨x, hx, e⟩ := List.mem_map.mp h2
  have := h x hx
  omega
/-! ### all ways, step by step -/
def nxt (m n b a c : Nat) : List (Nat × Nat) := [(a + 1, c), (a, c + 1), (a + 1, c + 1)].filter fun y => decide (y.1 < m ∧ y.2 < n ∧ inB b y.1 y.2 = true)
theorem nxt_mem {m n b a c i j : Nat} : (i, j) ∈ nxt m n b a c ↔ ((i = a + 1 ∧ j = c) ∨ (i = a ∧ j = c + 1) ∨ (i = a + 1 ∧ j = c + 1)) ∧ i < m ∧ j < n ∧ inB b i j = true := by
  unfold nxt
  rw [List.mem_filter, decide_eq_true_eq]
  simp
theorem ahd_iff {b a c i j : Nat} (h : inB b a c = true) : (a, c) ∈ ahd b i j ↔ ((i = a + 1 ∧ j = c) ∨ (i = a ∧ j = c + 1) ∨ (i = a + 1 ∧ j = c + 1)) := by
  unfold ahd
  constructor
  · intro k
    rcases List.mem_append.mp k with k | k
    · rcases List.mem_append.mp k with k | k
      · split at k
        · simp at k; omega
        · simp at k
      · split at k
        · simp at k; omega
        · simp at k
    · split at k
      · simp at k; omega
      · simp at k
  · rintro (⟨rfl, rfl⟩ | ⟨rfl, rfl⟩ | ⟨rfl, rfl⟩)
    · simp [h]
    · simp [h]
    · simp [h]
def nxW (sq : Nat → Nat → Int) (m n b : Nat) (x : Nat × Nat × Int) : List (Nat × Nat × Int) := (nxt m n b x.1 x.2.1).map fun y => (y.1, y.2, x.2.2 + sq y.1 y.2)
def wN (sq : Nat → Nat → Int) (m n b : Nat) : Nat → List (Nat × Nat × Int)
  | 0 => [(0, 0, sq 0 0)]
  | t + 1 => (wN sq m n b t).flatMap (nxW sq m n b)
theorem wN_way {sq : Nat → Nat → Int} {m n b : Nat} (hm : 0 < m) (hn : 0 < n) : ∀ {t i j : Nat} {s : Int}, (i, j, s) ∈ wN sq m n b t → Way sq b t i j s ∧ i < m ∧ j < n
  | 0, i, j, s, h => by
    simp [wN] at h
    obtain ⟨rfl, rfl, rfl⟩ := h
    exact ⟨.start, hm, hn⟩
  | t + 1, i, j, s, h => by
    obtain ⟨⟨a, c, r⟩, h1, h2⟩ := List.mem_flatMap.mp h
    obtain ⟨⟨i', j'⟩, h3, h4⟩ := List.mem_map.mp h2
    simp at h4
    obtain ⟨rfl, rfl, rfl⟩ := h4
    obtain ⟨w, _, _⟩ := wN_way hm hn h1
    obtain ⟨n1, n2, n3, n4⟩ := nxt_mem.mp h3
    exact ⟨.step w ((ahd_iff w.inB).mpr n1) n4, n2, n3⟩
theorem way_wN {sq : Nat → Nat → Int} {m n b t i j : Nat} {s : Int} (h : Way sq b t i j s) : i < m → j < n → (i, j, s) ∈ wN sq m n b t := by
  induction h with
  | start => intro _ _; simp [wN]
  | step w hm hb ih =>
    rename_i k a c i j s
    intro hi hj
    have e := (ahd_iff w.inB).mp hm
    have := ih (by omega) (by omega)
    refine List.mem_flatMap.mpr ⟨_, this, List.mem_map.mpr ⟨(i, j), nxt_mem.mpr ⟨e, hi, hj, hb⟩, rfl⟩⟩
theorem nxW_len {sq : Nat → Nat → Int} {m n b : Nat} {x : Nat × Nat × Int} : (nxW sq m n b x).length ≤ 3 := by
  unfold nxW nxt
  rw [List.length_map]
  exact Nat.le_trans (List.length_filter_le _ _) (by simp)
theorem flat_len {α β : Type} {f : α → List β} {k : Nat} (h : ∀ x, (f x).length ≤ k) : ∀ l : List α, (l.flatMap f).length ≤ k * l.length
  | [] => by simp
  | x :: l => by
    have := h x
    have := flat_len h l
    rw [List.flatMap_cons, List.length_append, List.length_cons, Nat.mul_add]
    omega
theorem wN_len {sq : Nat → Nat → Int} {m n b : Nat} : ∀ t, (wN sq m n b t).length ≤ 3 ^ t
  | 0 => by simp [wN]
  | t + 1 => by
    have h1 := flat_len (f := nxW sq m n b) (k := 3) (fun x => nxW_len) (wN sq m n b t)
    have h2 := wN_len (sq := sq) (m := m) (n := n) (b := b) t
    show ((wN sq m n b t).flatMap (nxW sq m n b)).length ≤ _
    rw [Nat.pow_succ]
    omega
def endW (m n : Nat) (x : Nat × Nat × Int) : List Int := if x.1 + 1 = m ∧ x.2.1 + 1 = n then [x.2.2] else []
def fnd (sq : Nat → Nat → Int) (m n b t : Nat) : List Int := (List.range t).flatMap fun t => (wN sq m n b t).flatMap (endW m n)
theorem fnd_succ {sq : Nat → Nat → Int} {m n b t : Nat} : fnd sq m n b (t + 1) = fnd sq m n b t ++ (wN sq m n b t).flatMap (endW m n) := by
  unfold fnd
  rw [List.range_succ, List.flatMap_append]
  simp
theorem fnd_mem {sq : Nat → Nat → Int} {m n b : Nat} {s : Int} : s ∈ fnd sq (m + 1) (n + 1) b (m + 1 + (n + 1)) ↔ ∃ t, Way sq b t m n s := by
  unfold fnd
  rw [List.mem_flatMap]
  constructor
  · rintro ⟨t, _, h⟩
    obtain ⟨⟨i, j, r⟩, h1, h2⟩ := List.mem_flatMap.mp h
    unfold endW at h2
    split at h2
    · rename_i c
      simp at h2 c
      obtain ⟨rfl, rfl⟩ := c
      subst h2
      exact ⟨t, (wN_way (by omega) (by omega) h1).1⟩
    · cases h2
  · rintro ⟨t, w⟩
    have := w.steps
    refine ⟨t, List.mem_range.mpr (by omega), List.mem_flatMap.mpr ⟨_, way_wN w (by omega) (by omega), ?_⟩⟩
    simp [endW]
theorem fnd_len {sq : Nat → Nat → Int} {m n b : Nat} : ∀ t, (fnd sq m n b t).length ≤ 3 ^ t
  | 0 => by simp [fnd]
  | t + 1 => by
    rw [fnd_succ, List.length_append, Nat.pow_succ]
    have h1 := fnd_len (sq := sq) (m := m) (n := n) (b := b) t
    have h2 := wN_len (sq := sq) (m := m) (n := n) (b := b) t
    have h3 := flat_len (f := endW m n) (k := 1) (fun x => by unfold endW; split <;> simp) (wN sq m n b t)
    omega
theorem fnd_nil {sq : Nat → Nat → Int} {m n b : Nat} (h : inB b m n = false) : fnd sq (m + 1) (n + 1) b (m + 1 + (n + 1)) = [] := by
  apply List.eq_nil_iff_forall_not_mem.mpr
  intro s hs
  obtain ⟨t, w⟩ := fnd_mem.mp hs
  rw [w.inB] at h
  cases h
theorem fnd_min {sq : Nat → Nat → Int} {m n b : Nat} (h : inB b m n = true) : fnd sq (m + 1) (n + 1) b (m + 1 + (n + 1)) ≠ [] ∧ minZ (fnd sq (m + 1) (n + 1) b (m + 1 + (n + 1))) = hZ sq b m n := by
  obtain ⟨k, w⟩ := way_least (sq := sq) (m + n) m n (Nat.le_refl _) h
  have hm := fnd_mem.mpr ⟨k, w⟩
  have ne : fnd sq (m + 1) (n + 1) b (m + 1 + (n + 1)) ≠ [] := by
    intro e
    rw [e] at hm
    cases hm
  refine ⟨ne, ?_⟩
  rw [← lsZ_eq]
  have h1 := lsZ_le hm
  obtain ⟨t, w2⟩ := fnd_mem.mp (lsZ_mem ne)
  have := w2.ge
  omega
/-! ### band 0: the diagonal -/
theorem hZ_diag {sq : Nat → Nat → Int} : ∀ k, hZ sq 0 k k = ((List.range (k + 1)).map fun i => sq i i).sum
  | 0 => by simp [hZ, hF, List.range_succ]
  | k + 1 => by
    rw [hZ_step]
    have e : ahd 0 (k + 1) (k + 1) = [(k, k)] := by
      have : ¬ (k + 1 ≤ k) := by omega
      simp [ahd, inB, this]
    rw [e, List.range_succ, List.map_append, List.sum_append]
    simp only [List.map_cons, List.map_nil, lsZ]
    rw [hZ_diag k]
    simp
    omega
end Rw
end PRwBent
section PDk95
set_option linter.all false
set_option maxRecDepth 100000
namespace Lk95
open Rw
open PySem (Str)
noncomputable section
def v_MOST_LENGTH : D := (.int 40)
def v_STEPS : D := (.tup [(.tup [(.int 1), (.int 0)]), (.tup [(.int 0), (.int 1)]), (.tup [(.int 1), (.int 1)])])
/-- _law_mixed(_law_cell, _law_k): slots _law_cell 0, _law_k 1, _law_number 2 -/
def b__law_mixed : DS :=
    (dSeq (dAsg (.name 2) (e2 oMod (e2 (oMulU false) (e2 (oAdd false) (e2 (oAdd false) (e2 (oAdd false) (e2 (oMulU false) (eVar 0) (eVar 0)) (e2 (oMulU false) (eC (.int 3)) (eVar 0))) (e2 (oMulU false) (eC (.int 7919)) (eVar 1))) (eC (.int 1))) (eC (.int 48271))) (eC (.int 2147483629))))
    (dSeq (dAsg (.name 2) (e2 oMod (e2 (oAdd false) (e2 (oMulU false) (eVar 2) (eVar 2)) (eC (.int 7))) (eC (.int 2147483587))))
    (dRet (e2 oMod (e2 (oMulU false) (eVar 2) (e2 (oAdd false) (eVar 2) (eC (.int 69621)))) (eC (.int 2147483563))))))
def f__law_mixed : DF := fnD 3 b__law_mixed
/-- _law_purse(_law_script): slots _law_script 0, _law_cells 1, _law_number 2, _law_k 3 -/
def b__law_purse : DS :=
    (dSeq (dAsg (.name 1) (e2 (oAdd false) (eSl (slU false) (eVar 0) pNone (pSome (eC (.int 63)))) (eLst false (aCons (eC (.int 0)) aNil))))
    (dSeq (dAsg (.name 2) (eC (.int 1)))
    (dSeq (dFor (iR1 (aCons (eC (.int 150)) aNil)) (.name 3) (dWipe [3] (dAsg (.name 2) (e2 (oAdd false) (e2 (oMulU false) (eVar 2) (eC (.int 2147483587))) (eCall f__law_mixed (aCons (e2 oIx (eVar 1) (e2 oMod (eVar 3) (eA oLen (aCons (eVar 1) aNil)))) (aCons (eVar 3) aNil)))))))
    (dSeq (dIf (tVal (e2 oGe (e2 oIx (eVar 1) (eC (.int 0))) (e2 oPow (eC (.int 10)) (eC (.int 18))))) (dRet (eLst true (aCons (e2 oDiv (e2 oIx (eVar 1) (eC (.int 0))) (e2 oPow (eC (.int 10)) (eC (.int 18)))) (aCons (eVar 2) aNil)))) dPass)
    (dRet (eLst true (aCons (eVar 2) (aCons (eVar 2) aNil))))))))
def f__law_purse : DF := fnD 4 b__law_purse
/-- _law_draw(_law_purse_here, _law_out_of): slots _law_purse_here 0, _law_out_of 1, _law_drawn 2; cells _law_purse_here -/
def b__law_draw : DS :=
    (dSeq (dIf (tVal (e2 oEq (e2 oIx (eVar 0) (eC (.int 0))) (eC (.int 0)))) (dPut (eVar 0) (eC (.int 0)) (e2 oIx (eVar 0) (eC (.int 1)))) dPass)
    (dSeq (dAsg (.name 2) (e2 oMod (e2 oIx (eVar 0) (eC (.int 0))) (eVar 1)))
    (dSeq (dPut (eVar 0) (eC (.int 0)) (e2 oDiv (e2 oIx (eVar 0) (eC (.int 0))) (eVar 1)))
    (dRet (eVar 2)))))
def f__law_draw : DF := fnD 3 b__law_draw
/-- _law_lists(_law_purse_here, _law_most): slots _law_purse_here 0, _law_most 1, _law_width 2, _law_one 3, _law_other 4, _law_number 5, _law_k 6; cells _law_purse_here -/
def b__law_lists : DS :=
    (dSeq (dAsg (.name 2) (e2 oIx (eLst false (aCons (eC (.int 1)) (aCons (eC (.int 2)) (aCons (eC (.int 9)) (aCons (eC (.int 1000)) (aCons (e2 oSub (e2 oPow (eC (.int 10)) (eC (.int 9))) (eC (.int 1))) aNil)))))) (eCall f__law_draw (aCons (eVar 0) (aCons (eC (.int 5)) aNil)))))
    (dSeq (dAsg (.name 3) (eComp false (iR1 (aCons (e2 (oAdd false) (eC (.int 1)) (eCall f__law_draw (aCons (eVar 0) (aCons (eVar 1) aNil)))) aNil)) (.name 6) Rw.tYes (e2 oSub (eCall f__law_draw (aCons (eVar 0) (aCons (e2 (oAdd false) (e2 (oMulU false) (eC (.int 2)) (eVar 2)) (eC (.int 1))) aNil))) (eVar 2)) [6]))
    (dSeq (dAsg (.name 4) (eComp false (iR1 (aCons (e2 (oAdd false) (eC (.int 1)) (eCall f__law_draw (aCons (eVar 0) (aCons (eVar 1) aNil)))) aNil)) (.name 6) Rw.tYes (e2 oSub (eCall f__law_draw (aCons (eVar 0) (aCons (e2 (oAdd false) (e2 (oMulU false) (eC (.int 2)) (eVar 2)) (eC (.int 1))) aNil))) (eVar 2)) [6]))
    (dSeq (dIf (tVal (e2 oEq (eCall f__law_draw (aCons (eVar 0) (aCons (eC (.int 3)) aNil))) (eC (.int 0)))) (dSeq (dAsg (.name 4) (eLst false aNil))
      (dSeq (dFor (iS (eVar 3)) (.name 5) (dWipe [5] (dAsg (.name 4) (e2 (oAdd false) (eVar 4) (e2 (oMulU false) (eLst false (aCons (eVar 5) aNil)) (e2 (oAdd false) (eC (.int 1)) (eCall f__law_draw (aCons (eVar 0) (aCons (eC (.int 2)) aNil)))))))))
      (dAsg (.name 4) (eSl (slU false) (eVar 4) pNone (pSome (eVar 1)))))) dPass)
    (dRet (eTup (aCons (eVar 3) (aCons (eVar 4) aNil))))))))
def f__law_lists : DF := fnD 7 b__law_lists
/-- must_band(band): slots band 0 -/
def b_must_band : DS :=
    (dIf (Rw.tNot (tVal (eChain oLe oLe (eC (.int 0)) (eVar 0) (eC v_MOST_LENGTH)))) dNever dPass)
def f_must_band : DF := fnD 1 b_must_band
/-- must_length(length): slots length 0 -/
def b_must_length : DS :=
    (dIf (Rw.tNot (tVal (eChain oLe oLe (eC (.int 1)) (eVar 0) (eC v_MOST_LENGTH)))) dNever dPass)
def f_must_length : DF := fnD 1 b_must_length
/-- must_lists(one, other, band): slots one 0, other 1, band 2 -/
def b_must_lists : DS :=
    (dSeq (dExpr (eCall f_must_band (aCons (eVar 2) aNil)))
    (dSeq (dExpr (eCall f_must_length (aCons (eA oLen (aCons (eVar 0) aNil)) aNil)))
    (dExpr (eCall f_must_length (aCons (eA oLen (aCons (eVar 1) aNil)) aNil)))))
def f_must_lists : DF := fnD 3 b_must_lists
/-- square_at(one, other, i, j): slots one 0, other 1, i 2, j 3 -/
def b_square_at : DS :=
    (dRet (e2 (oMulU false) (e2 oSub (e2 oIx (eVar 0) (eVar 2)) (e2 oIx (eVar 1) (eVar 3))) (e2 oSub (e2 oIx (eVar 0) (eVar 2)) (e2 oIx (eVar 1) (eVar 3)))))
def f_square_at : DF := fnD 4 b_square_at
/-- places_ahead(i, j, band): slots i 0, j 1, band 2, found 3, up 4, over 5; cells found -/
def b_places_ahead : DS :=
    (dSeq (dAsg (.name 3) (eLst true aNil))
    (dSeq (dFor (iS (eC v_STEPS)) (.tup [(.name 4), (.name 5)]) (dWipe [4, 5] (dIf (Rw.tAnd (tVal (e2 oGe (eVar 0) (eVar 4))) (Rw.tAnd (tVal (e2 oGe (eVar 1) (eVar 5))) (tVal (e2 oLe (eA oAbs (aCons (e2 (oAdd false) (e2 oSub (e2 oSub (eVar 0) (eVar 4)) (eVar 1)) (eVar 5)) aNil)) (eVar 2))))) (dExpr (eM mAppend (eVar 3) (aCons (eTup (aCons (e2 oSub (eVar 0) (eVar 4)) (aCons (e2 oSub (eVar 1) (eVar 5)) aNil))) aNil))) dPass)))
    (dRet (eVar 3))))
def f_places_ahead : DF := fnD 6 b_places_ahead
/-- least_sums(one, other, band): slots one 0, other 1, band 2, found 3, i 4, j 5, before 6, number 7, a 8, b 9 -/
def b_least_sums : WS :=
    (sSeq (sAsg (.name 3) (wComp (iS (eVar 0)) (.name 7) wYes (wE (e2 (oMulU true) (eLst false (aCons (eC .non) aNil)) (eA oLen (aCons (eVar 1) aNil)))) [7]))
    (sSeq (sFor (iR1 (aCons (eA oLen (aCons (eVar 0) aNil)) aNil)) (.name 4) (sWipe [4, 5, 6] (sPre [5, 6] (sFor (iR2 (aCons (eA oMax2 (aCons (eC (.int 0)) (aCons (e2 oSub (eVar 4) (eVar 2)) aNil))) (aCons (eA oMin2 (aCons (eA oLen (aCons (eVar 1) aNil)) (aCons (e2 (oAdd false) (e2 (oAdd false) (eVar 4) (eVar 2)) (eC (.int 1))) aNil))) aNil))) (.name 5) (sWipe [5, 6] (sSeq (sAsg (.name 6) (wFrz (wComp (iS (eFrz (eCall f_places_ahead (aCons (eVar 4) (aCons (eVar 5) (aCons (eVar 2) aNil)))))) (.tup [(.name 8), (.name 9)]) wYes (w2 oIx (wIx (wVar 3) (eVar 8)) (wE (eVar 9))) [8, 9])))
        (sSeq (sPut (wIx (wVar 3) (eVar 4)) (eVar 5) (wE (eCall f_square_at (aCons (eVar 0) (aCons (eVar 1) (aCons (eVar 4) (aCons (eVar 5) aNil)))))))
        (sIf (wT (tVal (e2 oNe (eVar 6) (eLst false aNil)))) (sAugS (oI fun i j => .int (i + j)) (wIx (wVar 3) (eVar 4)) (eVar 5) (wE (eA oMin1 (aCons (eVar 6) aNil)))) sPass))))))))
    (sRet (wVar 3))))
def f_least_sums : DF := fnF 10 b_least_sums
/-- least_sums(one, other, band): slots one 0, other 1, band 2, found 3, i 4, j 5, before 6, number 7, a 8, b 9 -/
def b_least_sums_W : WS :=
    (sSeq (sAsg (.name 3) (wComp (iS (eVar 0)) (.name 7) wYes (wE (e2 (oMulU true) (eLst false (aCons (eC .non) aNil)) (eA oLen (aCons (eVar 1) aNil)))) [7]))
    (sSeq (sFor (iR1 (aCons (eA oLen (aCons (eVar 0) aNil)) aNil)) (.name 4) (sWipe [4, 5, 6] (sPre [5, 6] (sFor (iR2 (aCons (eA oMax2 (aCons (eC (.int 0)) (aCons (e2 oSub (eVar 4) (eVar 2)) aNil))) (aCons (eA oMin2 (aCons (eA oLen (aCons (eVar 1) aNil)) (aCons (e2 (oAdd false) (e2 (oAdd false) (eVar 4) (eVar 2)) (eC (.int 1))) aNil))) aNil))) (.name 5) (sWipe [5, 6] (sSeq (sAsg (.name 6) (wFrz (wComp (iS (eFrz (eCall f_places_ahead (aCons (eVar 4) (aCons (eVar 5) (aCons (eVar 2) aNil)))))) (.tup [(.name 8), (.name 9)]) wYes (w2 oIx (wIx (wVar 3) (eVar 8)) (wE (eVar 9))) [8, 9])))
        (sSeq (sPut (wIx (wVar 3) (eVar 4)) (eVar 5) (wE (eCall f_square_at (aCons (eVar 0) (aCons (eVar 1) (aCons (eVar 4) (aCons (eVar 5) aNil)))))))
        (sIf (wT (tVal (e2 oNe (eVar 6) (eLst false aNil)))) (sAugS (oI fun i j => .int (i + j)) (wIx (wVar 3) (eVar 4)) (eVar 5) (wE (eA oMin1 (aCons (eVar 6) aNil)))) sPass))))))))
    (sRet (wVar 3))))
def f_least_sums_W : WF := fnW 10 b_least_sums_W
/-- way_by(sums, band): slots sums 0, band 1, way 2, ahead 3, a 4, b 5; cells way -/
def b_way_by : DS :=
    (dSeq (dAsg (.name 2) (eLst true (aCons (eTup (aCons (e2 oSub (eA oLen (aCons (eVar 0) aNil)) (eC (.int 1))) (aCons (e2 oSub (eA oLen (aCons (e2 oIx (eVar 0) (eC (.int 0))) aNil)) (eC (.int 1))) aNil))) aNil)))
    (dSeq (dWhile (tVal (e2 oNe (e2 oIx (eVar 2) (e1 oNeg (eC (.int 1)))) (eTup (aCons (eC (.int 0)) (aCons (eC (.int 0)) aNil))))) (dWipe [3] (dSeq (dAsg (.name 3) (eComp false (iS (eFrz (eCall f_places_ahead (aCons (e2 oIx (e2 oIx (eVar 2) (e1 oNeg (eC (.int 1)))) (eC (.int 0))) (aCons (e2 oIx (e2 oIx (eVar 2) (e1 oNeg (eC (.int 1)))) (eC (.int 1))) (aCons (eVar 1) aNil)))))) (.tup [(.name 4), (.name 5)]) Rw.tYes (eTup (aCons (e2 oIx (e2 oIx (eVar 0) (eVar 4)) (eVar 5)) (aCons (eVar 4) (aCons (eVar 5) aNil)))) [4, 5]))
      (dExpr (eM mAppend (eVar 2) (aCons (eSl (slU false) (eA oMinT (aCons (eVar 3) aNil)) (pSome (eC (.int 1))) pNone) aNil))))))
    (dRet (e1 (oRev true) (eVar 2)))))
def f_way_by : DF := fnD 6 b_way_by
/-- way_by(sums, band): slots sums 0, band 1, way 2, ahead 3, a 4, b 5; cells way -/
def b_way_by_W : WS :=
    (sSeq (sAsg (.name 2) (wLstC true (wCons (wTup (wCons (w2 oSub (wLen (wVar 0)) (wE (eC (.int 1)))) (wCons (w2 oSub (wOp oLen (wCons (wIx (wVar 0) (eC (.int 0))) wNil)) (wE (eC (.int 1)))) wNil))) wNil)))
    (sSeq (sWhile (wT (tVal (e2 oNe (e2 oIx (eVar 2) (e1 oNeg (eC (.int 1)))) (eTup (aCons (eC (.int 0)) (aCons (eC (.int 0)) aNil)))))) (sWipe [3] (sSeq (sAsg (.name 3) (wFrz (wComp (iS (eFrz (eCall f_places_ahead (aCons (e2 oIx (e2 oIx (eVar 2) (e1 oNeg (eC (.int 1)))) (eC (.int 0))) (aCons (e2 oIx (e2 oIx (eVar 2) (e1 oNeg (eC (.int 1)))) (eC (.int 1))) (aCons (eVar 1) aNil)))))) (.tup [(.name 4), (.name 5)]) wYes (wTup (wCons (w2 oIx (wIx (wVar 0) (eVar 4)) (wE (eVar 5))) (wCons (wE (eVar 4)) (wCons (wE (eVar 5)) wNil)))) [4, 5])))
      (sExpr (wE (eM mAppend (eVar 2) (aCons (eSl (slU false) (eA oMinT (aCons (eVar 3) aNil)) (pSome (eC (.int 1))) pNone) aNil)))))))
    (sRet (wE (e1 (oRev true) (eVar 2))))))
def f_way_by_W : WF := fnW 6 b_way_by_W
/-- bent_paper(one, other, band): slots one 0, other 1, band 2, sums 3 -/
def b_bent_paper : DS :=
    (dSeq (dExpr (eCall f_must_lists (aCons (eVar 0) (aCons (eVar 1) (aCons (eVar 2) aNil)))))
    (dSeq (dIf (tVal (e2 oGt (eA oAbs (aCons (e2 oSub (eA oLen (aCons (eVar 0) aNil)) (eA oLen (aCons (eVar 1) aNil))) aNil)) (eVar 2))) (dRet (eC .non)) dPass)
    (dSeq (dAsg (.name 3) (eCall f_least_sums (aCons (eVar 0) (aCons (eVar 1) (aCons (eVar 2) aNil)))))
    (dRet (eTup (aCons (e2 oIx (e2 oIx (eVar 3) (e1 oNeg (eC (.int 1)))) (e1 oNeg (eC (.int 1)))) (aCons (eFrz (eCall f_way_by (aCons (eVar 3) (aCons (eVar 2) aNil)))) (aCons (eVar 3) aNil))))))))
def f_bent_paper : DF := fnD 4 b_bent_paper
/-- bent_paper(one, other, band): slots one 0, other 1, band 2, sums 3 -/
def b_bent_paper_W : WS :=
    (sSeq (sExpr (wE (eCall f_must_lists (aCons (eVar 0) (aCons (eVar 1) (aCons (eVar 2) aNil))))))
    (sSeq (sIf (wT (tVal (e2 oGt (eA oAbs (aCons (e2 oSub (eA oLen (aCons (eVar 0) aNil)) (eA oLen (aCons (eVar 1) aNil))) aNil)) (eVar 2)))) (sRet (wE (eC .non))) sPass)
    (sSeq (sAsg (.name 3) (wCall f_least_sums_W (wCons (wE (eVar 0)) (wCons (wE (eVar 1)) (wCons (wE (eVar 2)) wNil)))))
    (sRet (wTup (wCons (w2 oIx (wIx (wVar 3) (e1 oNeg (eC (.int 1)))) (wE (e1 oNeg (eC (.int 1))))) (wCons (wCall f_way_by_W (wCons (wVar 3) (wCons (wE (eVar 2)) wNil))) (wCons (wVar 3) wNil))))))))
def f_bent_paper_W : WF := fnW 4 b_bent_paper_W
/-- bent_way(one, other, band): slots one 0, other 1, band 2, found 3 -/
def b_bent_way : DS :=
    (dSeq (dAsg (.name 3) (eCall f_bent_paper (aCons (eVar 0) (aCons (eVar 1) (aCons (eVar 2) aNil)))))
    (dSeq (dIf (tVal (e1 oIsN (eVar 3))) (dRet (eC .non)) dPass)
    (dRet (eSl (slU false) (eVar 3) pNone (pSome (eC (.int 2)))))))
def f_bent_way : DF := fnD 4 b_bent_way
/-- _law_drawn_sum(_law_purse_here, _law_one, _law_other, _law_band): slots _law_purse_here 0, _law_one 1, _law_other 2, _law_band 3, _law_i 4, _law_j 5, _law_total 6, _law_up 7, _law_over 8; cells _law_purse_here -/
def b__law_drawn_sum : DS :=
    (dSeq (dAsg (.name 4) (eC (.int 0)))
    (dSeq (dAsg (.name 5) (eC (.int 0)))
    (dSeq (dAsg (.name 6) (e2 oPow (e2 oSub (e2 oIx (eVar 1) (eC (.int 0))) (e2 oIx (eVar 2) (eC (.int 0)))) (eC (.int 2))))
    (dSeq (dWhile (Rw.tOr (tVal (e2 oLt (eVar 4) (e2 oSub (eA oLen (aCons (eVar 1) aNil)) (eC (.int 1))))) (tVal (e2 oLt (eVar 5) (e2 oSub (eA oLen (aCons (eVar 2) aNil)) (eC (.int 1)))))) (dWipe [7, 8] (dSeq (dAsg (.tup [(.name 7), (.name 8)]) (e2 oIx (eLst false (aCons (eTup (aCons (eC (.int 1)) (aCons (eC (.int 1)) aNil))) (aCons (eTup (aCons (eC (.int 1)) (aCons (eC (.int 0)) aNil))) (aCons (eTup (aCons (eC (.int 0)) (aCons (eC (.int 1)) aNil))) aNil)))) (eCall f__law_draw (aCons (eVar 0) (aCons (eC (.int 3)) aNil)))))
      (dSeq (dIf (Rw.tOr (tVal (e2 oEq (eVar 4) (e2 oSub (eA oLen (aCons (eVar 1) aNil)) (eC (.int 1))))) (Rw.tOr (tVal (e2 oEq (eVar 5) (e2 oSub (eA oLen (aCons (eVar 2) aNil)) (eC (.int 1))))) (tVal (e2 oGt (eA oAbs (aCons (e2 oSub (e2 oSub (e2 (oAdd false) (eVar 4) (eVar 7)) (eVar 5)) (eVar 8)) aNil)) (eVar 3))))) (dSeq (dAsg (.name 7) (eA oInt (aCons (e2 oLt (eVar 4) (e2 oSub (eA oLen (aCons (eVar 1) aNil)) (eC (.int 1)))) aNil)))
        (dAsg (.name 8) (eA oInt (aCons (e2 oLt (eVar 5) (e2 oSub (eA oLen (aCons (eVar 2) aNil)) (eC (.int 1)))) aNil)))) dPass)
      (dSeq (dAsg (.name 4) (e2 (oAdd false) (eVar 4) (eVar 7)))
      (dSeq (dAsg (.name 5) (e2 (oAdd false) (eVar 5) (eVar 8)))
      (dSeq (dIf (tVal (e2 oGt (eA oAbs (aCons (e2 oSub (eVar 4) (eVar 5)) aNil)) (eVar 3))) (dRet (eC .non)) dPass)
      (dAsg (.name 6) (e2 (oAdd false) (eVar 6) (e2 oPow (e2 oSub (e2 oIx (eVar 1) (eVar 4)) (e2 oIx (eVar 2) (eVar 5))) (eC (.int 2))))))))))))
    (dRet (eVar 6))))))
def f__law_drawn_sum : DF := fnD 9 b__law_drawn_sum
/-- heights_hold(one, other, band, heights): slots one 0, other 1, band 2, heights 3, i 4, row 5, j 6, height 7, square 8, a 9, b 10 -/
def b_heights_hold : DS :=
    (dSeq (dFor (iEn (aCons (eVar 3) aNil)) (.tup [(.name 4), (.name 5)]) (dWipe [4, 5, 6, 7, 8, 9, 10] (dPre [6, 7, 8, 9, 10] (dFor (iEn (aCons (eVar 5) aNil)) (.tup [(.name 6), (.name 7)]) (dWipe [6, 7, 8, 9, 10] (dIf (tVal (e1 oNotN (eVar 7))) (dSeq (dAsg (.name 8) (eCall f_square_at (aCons (eVar 0) (aCons (eVar 1) (aCons (eVar 4) (aCons (eVar 6) aNil))))))
          (dSeq (dIf (Rw.tAnd (tVal (e2 oEq (eTup (aCons (eVar 4) (aCons (eVar 6) aNil))) (eTup (aCons (eC (.int 0)) (aCons (eC (.int 0)) aNil))))) (tVal (e2 oGt (eVar 7) (eVar 8)))) (dRet (eC (.bl false))) dPass)
          (dPre [9, 10] (dFor (iS (eFrz (eCall f_places_ahead (aCons (eVar 4) (aCons (eVar 6) (aCons (eVar 2) aNil)))))) (.tup [(.name 9), (.name 10)]) (dWipe [9, 10] (dIf (tVal (e2 oGt (eVar 7) (e2 (oAdd false) (e2 oIx (e2 oIx (eVar 3) (eVar 9)) (eVar 10)) (eVar 8)))) (dRet (eC (.bl false))) dPass)))))) dPass))))))
    (dRet (eC (.bl true))))
def f_heights_hold : DF := fnD 11 b_heights_hold
/-- is_way(one, other, band, way): slots one 0, other 1, band 2, way 3, i 4, j 5, a 6, b 7 -/
def b_is_way : DS :=
    (dSeq (dIf (Rw.tOr (tVal (e2 oNe (eSl (slU false) (eVar 3) pNone (pSome (eC (.int 1)))) (eLst false (aCons (eTup (aCons (eC (.int 0)) (aCons (eC (.int 0)) aNil))) aNil)))) (tVal (e2 oNe (e2 oIx (eVar 3) (e1 oNeg (eC (.int 1)))) (eTup (aCons (e2 oSub (eA oLen (aCons (eVar 0) aNil)) (eC (.int 1))) (aCons (e2 oSub (eA oLen (aCons (eVar 1) aNil)) (eC (.int 1))) aNil)))))) (dRet (eC (.bl false))) dPass)
    (dSeq (dFor (iZ (aCons (eVar 3) (aCons (eSl (slU false) (eVar 3) (pSome (eC (.int 1))) pNone) aNil))) (.tup [(.tup [(.name 4), (.name 5)]), (.tup [(.name 6), (.name 7)])]) (dWipe [4, 5, 6, 7] (dIf (Rw.tOr (tVal (e2 (oInT true) (eTup (aCons (e2 oSub (eVar 6) (eVar 4)) (aCons (e2 oSub (eVar 7) (eVar 5)) aNil))) (eC v_STEPS))) (tVal (e2 oGt (eA oAbs (aCons (e2 oSub (eVar 6) (eVar 7)) aNil)) (eVar 2)))) (dRet (eC (.bl false))) dPass)))
    (dRet (eC (.bl true)))))
def f_is_way : DF := fnD 8 b_is_way
/-- are_heights(one, other, band, heights): slots one 0, other 1, band 2, heights 3, i 4, row 5, j 6, height 7 -/
def b_are_heights : DS :=
    (dSeq (dIf (tVal (e2 oNe (eA oLen (aCons (eVar 3) aNil)) (eA oLen (aCons (eVar 0) aNil)))) (dRet (eC (.bl false))) dPass)
    (dSeq (dFor (iEn (aCons (eVar 3) aNil)) (.tup [(.name 4), (.name 5)]) (dWipe [4, 5, 6, 7] (dSeq (dIf (tVal (e2 oNe (eA oLen (aCons (eVar 5) aNil)) (eA oLen (aCons (eVar 1) aNil)))) (dRet (eC (.bl false))) dPass)
      (dPre [6, 7] (dFor (iEn (aCons (eVar 5) aNil)) (.tup [(.name 6), (.name 7)]) (dWipe [6, 7] (dIf (tVal (e2 oNe (e1 oIsN (eVar 7)) (e2 oGt (eA oAbs (aCons (e2 oSub (eVar 4) (eVar 6)) aNil)) (eVar 2)))) (dRet (eC (.bl false))) dPass)))))))
    (dRet (eC (.bl true)))))
def f_are_heights : DF := fnD 8 b_are_heights
/-- shows_bent(one, other, band, paper): slots one 0, other 1, band 2, paper 3, total 4, way 5, heights 6, i 7, j 8 -/
def b_shows_bent : DS :=
    (dSeq (dExpr (eCall f_must_lists (aCons (eVar 0) (aCons (eVar 1) (aCons (eVar 2) aNil)))))
    (dSeq (dAsg (.tup [(.name 4), (.name 5), (.name 6)]) (eVar 3))
    (dSeq (dIf (Rw.tOr (Rw.tNot (tVal (eCall f_is_way (aCons (eVar 0) (aCons (eVar 1) (aCons (eVar 2) (aCons (eVar 5) aNil))))))) (Rw.tNot (tVal (eCall f_are_heights (aCons (eVar 0) (aCons (eVar 1) (aCons (eVar 2) (aCons (eVar 6) aNil)))))))) (dRet (eC (.bl false))) dPass)
    (dSeq (dIf (Rw.tOr (tVal (e2 oNe (eA oSum (aCons (eComp false (iS (eVar 5)) (.tup [(.name 7), (.name 8)]) Rw.tYes (eCall f_square_at (aCons (eVar 0) (aCons (eVar 1) (aCons (eVar 7) (aCons (eVar 8) aNil))))) [7, 8]) aNil)) (eVar 4))) (tVal (e2 oNe (e2 oIx (e2 oIx (eVar 6) (e1 oNeg (eC (.int 1)))) (e1 oNeg (eC (.int 1)))) (eVar 4)))) (dRet (eC (.bl false))) dPass)
    (dRet (eCall f_heights_hold (aCons (eVar 0) (aCons (eVar 1) (aCons (eVar 2) (aCons (eVar 6) aNil))))))))))
def f_shows_bent : DF := fnD 9 b_shows_bent
/-- law(_law_script): slots _law_script 0, _law_purse_here 1, _law_one 2, _law_other 3, _law_band 4, _law_found 5, _law_shown 6, _law_k 7, _law_total 8, _law_i 9, _law_heights 10, _law_marks 11, _law_again 12, _law_height 13; cells _law_heights, _law_purse_here -/
def b_law : WS :=
    (sSeq (sAsg (.name 1) (wE (eCall f__law_purse (aCons (eVar 0) aNil))))
    (sSeq (sAsg (.tup [(.name 2), (.name 3)]) (wE (eCall f__law_lists (aCons (eVar 1) (aCons (eC (.int 8)) aNil)))))
    (sSeq (sFor (iS (eLst false (aCons (eCall f__law_draw (aCons (eVar 1) (aCons (eC (.int 9)) aNil))) (aCons (eCall f__law_draw (aCons (eVar 1) (aCons (eC (.int 3)) aNil))) aNil)))) (.name 4) (sWipe [4, 5, 6, 7, 8, 9, 10, 11, 12] (sSeq (sAsg (.name 5) (wE (eCall f_bent_way (aCons (eVar 2) (aCons (eVar 3) (aCons (eVar 4) aNil))))))
      (sSeq (sAsg (.name 6) (wCall f_bent_paper_W (wCons (wE (eVar 2)) (wCons (wE (eVar 3)) (wCons (wE (eVar 4)) wNil)))))
      (sSeq (sIf (wOr (wT (tVal (e1 oIsN (eVar 5)))) (wTest (wIsN false (wVar 6)))) (sSeq (sIf (wOr (wT (tVal (e1 oNotN (eVar 5)))) (wOr (wTest (wIsN true (wVar 6))) (wT (tVal (e2 oLe (eA oAbs (aCons (e2 oSub (eA oLen (aCons (eVar 2) aNil)) (eA oLen (aCons (eVar 3) aNil))) aNil)) (eVar 4)))))) (sRet (wE (eC (.bl false)))) sPass)
        sCont) sPass)
      (sSeq (sIf (wBorT (Rw.tOr (tVal (e2 oNotB (eCall f_shows_bent (aCons (eVar 2) (aCons (eVar 3) (aCons (eVar 4) (aCons (eVar 6) aNil))))) (eC (.bl true)))) (tVal (e2 oNe (e2 oIx (eVar 6) (eC (.int 0))) (e2 oIx (eVar 5) (eC (.int 0))))))) (sRet (wE (eC (.bl false)))) sPass)
      (sPre [7, 8] (sSeq (sFor (iR1 (aCons (eC (.int 4)) aNil)) (.name 7) (sWipe [7, 8] (sSeq (sAsg (.name 8) (wE (eCall f__law_drawn_sum (aCons (eVar 1) (aCons (eVar 2) (aCons (eVar 3) (aCons (eVar 4) aNil)))))))
        (sIf (wT (Rw.tAnd (tVal (e1 oNotN (eVar 8))) (tVal (e2 oLt (eVar 8) (e2 oIx (eVar 5) (eC (.int 0))))))) (sRet (wE (eC (.bl false)))) sPass))))
      (sPre [9, 10] (sSeq (sForE (wIx (wVar 6) (eC (.int 2))) (.tup [(.name 9), (.name 10)]) (sWipe [9, 10] (sExpr (wE (eM mAppend (eVar 10) (aCons (e2 oSub (eVar 9) (eC (.int 500))) aNil))))))
      (sSeq (sAsg (.name 11) (wFrz (wCompL (wIx (wVar 6) (eC (.int 2))) 10 wYes (wE (eComp true (iS (eSl (slU false) (eVar 10) (pSome (eA oLen (aCons (eVar 3) aNil))) pNone)) (.name 13) Rw.tYes (eVar 13) [13])) [10])))
      (sSeq (sIf (wT (tVal (e2 oNe (eVar 11) (eComp false (iR1 (aCons (eA oLen (aCons (eVar 2) aNil)) aNil)) (.name 9) Rw.tYes (eLst false (aCons (e2 oSub (eVar 9) (eC (.int 500))) aNil)) [9])))) (sRet (wE (eC (.bl false)))) sPass)
      (sSeq (sExpr (wM mClear (wIx (wVar 6) (eC (.int 1))) wNil))
      (sSeq (sAsg (.name 12) (wFrz (wCall f_bent_paper_W (wCons (wE (eVar 2)) (wCons (wE (eVar 3)) (wCons (wE (eVar 4)) wNil))))))
      (sSeq (sIf (wT (Rw.tOr (tVal (e2 oNe (e2 oIx (eVar 12) (eC (.int 0))) (e2 oIx (eVar 5) (eC (.int 0))))) (tVal (e2 oNotB (eCall f_shows_bent (aCons (eVar 2) (aCons (eVar 3) (aCons (eVar 4) (aCons (eVar 12) aNil))))) (eC (.bl true)))))) (sRet (wE (eC (.bl false)))) sPass)
      (sSeq (sIf (wT (tVal (e2 oNe (e2 oIx (eCall f_bent_way (aCons (eVar 3) (aCons (eVar 2) (aCons (eVar 4) aNil)))) (eC (.int 0))) (e2 oIx (eVar 5) (eC (.int 0)))))) (sRet (wE (eC (.bl false)))) sPass)
      (sSeq (sIf (wT (Rw.tAnd (tVal (e2 oEq (eA oLen (aCons (eVar 2) aNil)) (eA oLen (aCons (eVar 3) aNil)))) (tVal (e2 oNe (e2 oIx (eCall f_bent_way (aCons (e1 (oRev false) (eVar 2)) (aCons (e1 (oRev false) (eVar 3)) (aCons (eVar 4) aNil)))) (eC (.int 0))) (e2 oIx (eVar 5) (eC (.int 0))))))) (sRet (wE (eC (.bl false)))) sPass)
      (sIf (wT (tVal (e2 oGt (e2 oIx (eCall f_bent_way (aCons (eVar 2) (aCons (eVar 3) (aCons (e2 (oAdd false) (e2 (oAdd false) (eVar 4) (eC (.int 1))) (eCall f__law_draw (aCons (eVar 1) (aCons (eC (.int 9)) aNil)))) aNil)))) (eC (.int 0))) (e2 oIx (eVar 5) (eC (.int 0)))))) (sRet (wE (eC (.bl false)))) sPass))))))))))))))))))
    (sRet (wE (eAnd (e2 oEq (e2 oIx (eCall f_bent_way (aCons (eVar 2) (aCons (eA (oList false) (aCons (eVar 2) aNil)) (aCons (eC (.int 0)) aNil)))) (eC (.int 0))) (eC (.int 0))) (e2 oEq (e2 oIx (eCall f_bent_way (aCons (eVar 2) (aCons (eA (oList false) (aCons (eVar 2) aNil)) (aCons (eC (.int 40)) aNil)))) (eC (.int 0))) (eC (.int 0)))))))))
def f_law : DF := fnF 14 b_law
end
end Lk95
end PDk95
section PUk95
set_option linter.all false
set_option maxHeartbeats 4000000
set_option maxRecDepth 100000
namespace Lk95
open Rw
theorem draw_ok {M : DSt} {n : Nat} {m : Int} (h : Purse n M) (h0 : 0 < m) (h1 : m ≤ 10 ^ 100) : Ok (f__law_draw [.c n, .d (.int m)] M) (Drawn n m M) := by
  obtain ⟨a, b, h⟩ := h
  unfold f__law_draw
  rw [ok_fn]
  have hm0 : m ≠ 0 := by omega
  have hd : divOk m := ⟨hm0, Nat.lt_of_lt_of_le (log2_lt (natAbs_lt (A := 10 ^ 100) (k := 400) ⟨by omega, h1⟩ (by decide +kernel)) (by decide)) (by decide)⟩
  have hn := (List.getElem?_eq_some_iff.mp h).1
  have hx : ∀ z : Int, ∃ r : Nat, (r : Int) < m ∧ z.fmod m = (r : Int) := by
    intro z
    have a := fmod_nn z h0
    have b := fmod_lt z h0
    exact ⟨(z.fmod m).toNat, by omega, by omega⟩
  have hp : Purse n M := ⟨a, b, h⟩
  by_cases ha : a = 0
  · have hset : (M.set n (some [.int b, .int b]))[n]? = some (some [.int b, .int b]) := List.getElem?_set_self hn
    simp [b__law_draw, startD, celOk h, ha, hd, hm0, celOk hset]
    obtain ⟨r, hr, e⟩ := hx b
    exact ⟨r, hr, by simp [e], hp.like.set _ _⟩
  · simp [b__law_draw, startD, celOk h, ha, hd, hm0]
    obtain ⟨r, hr, e⟩ := hx a
    exact ⟨r, hr, by simp [e], hp.like.set _ _⟩
theorem must_length_eq {M : DSt} {l : Nat} (l0 : 1 ≤ l) (l1 : l ≤ 40) : f_must_length [.d (.int l)] M = some (.d .non, M) := by
  apply ok_eq
  unfold f_must_length
  rw [ok_fn]
  have a : (1 : Int) ≤ l := by omega
  have b : (l : Int) ≤ 40 := by omega
  simp [b_must_length, startD, v_MOST_LENGTH, a, b]
theorem mixed_ok {M : DSt} {c : Int} {k : Nat} (hc : c.natAbs.log2 < 1048577) : Ok (f__law_mixed [.d (.int c), .d (.int k)] M) fun p => ∃ r, p = (.d (.int r), M) := by
  unfold f__law_mixed
  rw [ok_fn]
  have h1 : mulOk c c := .inr (.inr ⟨by unfold iLn; omega, by unfold iLn; omega⟩)
  generalize hz : (c * c + 3 * c + 7919 * (k : Int) + 1) * 48271 = z
  have z0 := fmod_nn z (show (0 : Int) < 2147483629 by decide)
  have z1 := fmod_lt z (show (0 : Int) < 2147483629 by decide)
  generalize hw : z.fmod 2147483629 = w at z0 z1
  have h2 : mulOk w w := mulOk_l (by omega) (by omega)
  have v0 := fmod_nn (w * w + 7) (show (0 : Int) < 2147483587 by decide)
  have v1 := fmod_lt (w * w + 7) (show (0 : Int) < 2147483587 by decide)
  have h3 : mulOk ((w * w + 7).fmod 2147483587) ((w * w + 7).fmod 2147483587 + 69621) := mulOk_l (by omega) (by omega)
  simp [b__law_mixed, startD, h1, hz, hw, h2, h3]
theorem purse_ok {M : DSt} {ns : List Int} (hb : ∀ z ∈ ns, z.natAbs.log2 < 1048577) : Ok (f__law_purse [.r (ns.map D.int)] M) fun p => ∃ a b, p = (.c M.length, M ++ [some [.int a, .int b]]) := by
  unfold f__law_purse
  rw [ok_fn]
  obtain ⟨cs, hcs, hlen, hcb⟩ : ∃ cs : List Int, cutD (ns.map D.int) none (some 63) ++ [.int 0] = cs.map D.int ∧ 0 < cs.length ∧ ∀ z ∈ cs, z.natAbs.log2 < 1048577 := by
    refine ⟨ns.take 63 ++ [0], by rw [sIx_cut, List.map_append, ← List.map_take]; rfl, by simp, ?_⟩
    intro z hz
    rcases List.mem_append.mp hz with hz | hz
    · exact hb z (List.mem_of_mem_take hz)
    · simp at hz
      subst hz
      decide
  have hl2 : (cutD (ns.map D.int) none (some 63)).length ≤ 63 := by rw [sIx_cut]; simp; omega
  simp [b__law_purse, startD, hcs, -seqP_nx]
  refine ⟨by omega, ?_⟩
  refine seqP_nx.mpr ?_
  simp [-seqP_nx]
  refine seqP_nx.mpr ?_
  simp [-seqP_nx]
  refine forL_by _ (fun _ ρ M' => M' = M ∧ ∃ x : Int, ρ = [some (.r (ns.map D.int)), some (.d (.lst (cs.map D.int))), some (.d (.int x)), none]) ⟨rfl, _, rfl⟩ ?_ ?_
  · rintro i x ρ M' hx ⟨rfl, x, rfl⟩
    obtain ⟨hi, rfl⟩ := rng_at.mp hx
    have q0 : (cs.length : Int) ≠ 0 := by omega
    have a0 := fmod_nn ((0 : Int) + (i : Int)) (show (0 : Int) < (cs.length : Int) by omega)
    have a1 := fmod_lt ((0 : Int) + (i : Int)) (show (0 : Int) < (cs.length : Int) by omega)
    refine ⟨by simp, ?_⟩
    simp [q0, -List.length_eq_zero_iff]
    simp only [Int.zero_add] at a0 a1
    refine ⟨by omega, ?_⟩
    refine pick a0 (by simpa using a1) fun z hz => ?_
    obtain ⟨c, hc, rfl⟩ := List.mem_map.mp hz
    refine (mixed_ok (hcb c hc)).mono ?_
    rintro _ ⟨r, rfl⟩
    simp
  · rintro ρ M' ⟨rfl, x, rfl⟩
    cases cs with
    | nil => simp at hlen
    | cons c cs =>
      by_cases hc : (10 ^ 18 : Int) ≤ c
      · simp only [show ((10 : Int) ^ 18) = 1000000000000000000 by decide] at hc
        simp [powOk, hc]
      · simp only [show ((10 : Int) ^ 18) = 1000000000000000000 by decide] at hc
        simp [powOk, hc]
theorem len_f {g : Int} (h : 1 ≤ g ∧ g ≤ 40) (M : DSt) : f_must_length [.d (.int g)] M = some (.d .non, M) := by
  obtain ⟨gn, rfl⟩ : ∃ n : Nat, g = (n : Int) := ⟨g.toNat, by omega⟩
  exact must_length_eq (by omega) (by omega)
def Kn (good : Bool) (sd : D) : Prop := if good = true then ∃ kd : Kd, sd = kd.s else ∃ s, sd = .str s ∧ ∀ kd : Kd, D.eqv kd.s (.str s) = false
def okG (g : Int) : Prop := 1 ≤ g ∧ g ≤ 200
def ref (good : Bool) (g l : Int) : Option String := if good = false then some "NoKind" else if ¬ (1 ≤ g ∧ g ≤ 200) then some "NoGap" else if ¬ (1 ≤ l ∧ l ≤ 40) then some "NoLength" else none
theorem if_yes {t : DT} {a b : DS} {ρ : DEnv} {M : DSt} {P : Out → Prop} (h : Ok (t ρ M) fun p => p = (true, M)) (k : Ok (a ρ M) P) : Ok (dIf t a b ρ M) P := by
  obtain ⟨_, e, rfl⟩ := h
  unfold dIf
  rw [e]
  exact k
theorem if_no {t : DT} {a b : DS} {ρ : DEnv} {M : DSt} {P : Out → Prop} (h : Ok (t ρ M) fun p => p = (false, M)) (k : Ok (b ρ M) P) : Ok (dIf t a b ρ M) P := by
  obtain ⟨_, e, rfl⟩ := h
  unfold dIf
  rw [e]
  exact k
def PurI (M : DSt) (ns cs : List Int) (ρ : DEnv) (M' : DSt) : Prop := M' = M ∧ ∃ x y : Int, 0 ≤ x ∧ x < 2147483629 ∧ ρ = [some (.r (ns.map D.int)), some (.d (.lst (cs.map D.int))), some (.d (.int x)), some (.d (.int y)), none, none]
/-- a drawn row in a new cell -/
def RowC (n : Nat) (m : Nat) (M : DSt) (p : Dv × DSt) : Prop := ∃ (zs : List Int) (M' : DSt), (∀ z ∈ zs, Bn 10 z) ∧ zs.length ≤ m ∧ Like n M M' ∧ p = (.c M.length, M' ++ [some (zs.map D.int)])
def RowE (n m c w : Nat) (ts : List Int) (b e : Int) (i v : Option Dv) (k : Nat) : DEnv := [some (.c n), some (.d (.int m)), some (.d (.int c)), some (.d (.int w)), some (.d (.lst (ts.map D.int))), some (.d (.int b)), some (.d (.int e)), some (.c k), i, v]
def RowI (n m c w : Nat) (ts : List Int) (M : DSt) (k i : Nat) (ρ : DEnv) (M1 : DSt) : Prop := ∃ (zs : List Int) (b e : Int), Grown n M M1 ∧ M1[k]? = some (some (zs.map D.int)) ∧ zs.length = i ∧ (∀ z ∈ zs, Bn 10 z) ∧ (-3 ≤ b ∧ b ≤ 3) ∧ (-10 ≤ e ∧ e ≤ 10) ∧ ρ = RowE n m c w ts b e none none k
/-- within a turn: by and more -/
def RowA (n m c w : Nat) (ts zs : List Int) (M : DSt) (k i : Nat) (o : Out) : Prop := ∃ (b e : Int) (M1 : DSt), Grown n M M1 ∧ M1[k]? = some (some (zs.map D.int)) ∧ (-3 ≤ b ∧ b ≤ 3) ∧ (-10 ≤ e ∧ e ≤ 10) ∧ o = .nx (RowE n m c w ts b e (some (.d (.int i))) none k) M1
/-- .. and the number -/
def RowB (n m c w : Nat) (ts zs : List Int) (M : DSt) (k i : Nat) (N : Int) (o : Out) : Prop := ∃ (b e z : Int) (M1 : DSt), Grown n M M1 ∧ M1[k]? = some (some (zs.map D.int)) ∧ (-3 ≤ b ∧ b ≤ 3) ∧ (-10 ≤ e ∧ e ≤ 10) ∧ (-N ≤ z ∧ z ≤ N) ∧ o = .nx (RowE n m c w ts b e (some (.d (.int i))) (some (.d (.int z))) k) M1
def RowM (n m : Nat) (M : DSt) (o : Out) : Prop := ∃ (c : Nat) (M1 : DSt), c ≤ m ∧ Grown n M M1 ∧ o = .nx [some (.c n), some (.d (.int m)), some (.d (.int c)), none, none, none, none, none, none, none] M1
/-- what is asked: a row, a kind, a gap, a length, in a list -/
def AskedL (n m : Nat) (M : DSt) (p : Dv × DSt) : Prop := ∃ (zs : List Int) (kd : Kd) (gap l : Nat), Row 10 zs ∧ zs.length ≤ m ∧ 1 ≤ gap ∧ gap ≤ 200 ∧ 1 ≤ l ∧ l ≤ 40 ∧ p.1 = .d (.lst [rowD zs, kd.s, .int gap, .int l]) ∧ Like n M p.2
def LenO (n m : Nat) (zs : List Int) (kd : Kd) (g : Nat) (M : DSt) (o : Out) : Prop := ∃ (l : Nat) (M1 : DSt), l ≤ 40 ∧ Like n M M1 ∧ o = .nx [some (.c n), some (.d (.int m)), some (.d (rowD zs)), some (.d kd.s), some (.d (.int l)), some (.d (.int g))] M1
def GapO (n m : Nat) (zs : List Int) (kd : Kd) (l : Nat) (M : DSt) (o : Out) : Prop := ∃ (g : Nat) (M1 : DSt), 1 ≤ g ∧ g ≤ 200 ∧ Like n M M1 ∧ o = .nx [some (.c n), some (.d (.int m)), some (.d (rowD zs)), some (.d kd.s), some (.d (.int l)), some (.d (.int g))] M1
theorem kd_at {r : Nat} (h : (r : Int) < 3) : ∃ kd : Kd, atD [.str "plain", .str "moved", .str "shape"] (r : Int) = some kd.s := by
  have : r = 0 ∨ r = 1 ∨ r = 2 := by omega
  rcases this with rfl | rfl | rfl
  · exact ⟨.pl, rfl⟩
  · exact ⟨.mo, rfl⟩
  · exact ⟨.sh, rfl⟩
theorem nat_at {xs : List Nat} {r m : Nat} (h : r < xs.length) (hm : ∀ x ∈ xs, 1 ≤ x ∧ x ≤ m) : ∃ q : Nat, atD (xs.map fun x => D.int (x : Nat)) (r : Int) = some (.int (q : Int)) ∧ 1 ≤ q ∧ q ≤ m := by
  refine ⟨xs[r], ?_, hm _ (List.getElem_mem h)⟩
  have : ixD (xs.map fun x => D.int (x : Nat)).length (r : Int) = some r := by
    unfold ixD
    rw [if_pos (by omega), if_pos (by simp; omega)]
    simp
  unfold atD
  rw [this]
  simp [h]
/-- a place or none -/
def nsD : Option Int → D
  | none => .non
  | some z => .int z
def nearsD (ns : List (Option Int)) : D := .lst (ns.map nsD)
/-- does a place's named one show that it is no lonelier -/
def enoughZ (kd : Kd) (ss : List (List Int)) (gap : Nat) (f : Int × Int) (p0 : Int) (k : Nat) : Option Int → Bool
  | none => decide (k < gap) && decide (ss.length ≤ k + gap)
  | some q => if 0 ≤ q ∧ q < ss.length then (if apartB gap k q.toNat = true then lessZ (farAt kd ss k q.toNat) f || (decide (farAt kd ss k q.toNat = f) && decide (p0 < k)) else false) else false
/-- all two places apart -/
def twoZ (n gap : Nat) : List (Nat × Nat) := (List.range n).flatMap fun p => (List.range (n - (p + gap))).map fun k => (p, p + gap + k)
def twosD (L : List (Nat × Nat)) : List D := L.map fwD
theorem twoZ_len {n gap : Nat} : (twoZ n gap).length ≤ n * n := by
  unfold twoZ
  rw [List.length_flatMap]
  have : ∀ l : List Nat, (l.map fun p => ((List.range (n - (p + gap))).map fun k => (p, p + gap + k)).length).sum ≤ l.length * n := by
    intro l
    induction l with
    | nil => simp
    | cons a l ih =>
      rw [List.map_cons, List.sum_cons, List.length_cons, Nat.add_mul, Nat.one_mul]
      simp only [List.length_map, List.length_range] at ih ⊢
      omega
  simpa using this (List.range n)
theorem two_pre {n gap : Nat} : ∀ m, ((List.range m).flatMap fun p => (List.range (n - (p + gap))).map fun k => (p, p + gap + k)).length ≤ m * n
  | 0 => by simp
  | m + 1 => by
    rw [List.range_succ, List.flatMap_append, List.length_append, Nat.add_mul, Nat.one_mul]
    have := two_pre (n := n) (gap := gap) m
    have e : ([m].flatMap fun p => (List.range (n - (p + gap))).map fun k => (p, p + gap + k)).length = n - (m + gap) := by simp
    omega
/-- a told loneliest, any places -/
def bestI : Option ((Int × Int) × (Int × Int)) → D
  | none => .non
  | some (f, p, q) => .tup [frD f, .int p, .int q]
def toI (b : Option ((Int × Int) × (Nat × Nat))) : Option ((Int × Int) × (Int × Int)) := b.map fun x => (x.1, ((x.2.1 : Int), (x.2.2 : Int)))
theorem bestI_of (b : Option ((Int × Int) × (Nat × Nat))) : bestI (toI b) = bestP b := by
  cases b <;> rfl
def namedAt (ns : List (Option Int)) (k : Nat) : Option Int := (ns[k]?).join
def showsL (kd : Kd) (ss : List (List Int)) (gap : Nat) (b : Option ((Int × Int) × (Int × Int))) (ns : List (Option Int)) : Bool :=
  if ns.length = ss.length then
    match b with
    | none => decide (ss.length ≤ gap) && ns.all (·.isNone)
    | some (f, p, q) => if (0 ≤ p ∧ p < ss.length) ∧ (nearZ kd ss gap p.toNat).map (fun x => (x.1, (x.2 : Int))) = some (f, q) ∧ namedAt ns p.toNat = some q then
        ((List.range ss.length).filter fun k : Nat => decide ((k : Int) ≠ p)).all fun k => enoughZ kd ss gap f p k (namedAt ns k) else false
  else false
theorem twoZ_nil {n gap : Nat} : twoZ n gap = [] ↔ n ≤ gap := by
  unfold twoZ
  constructor
  · intro h
    by_cases h0 : n ≤ gap
    · exact h0
    have := List.flatMap_eq_nil_iff.mp h 0 (by simp; omega)
    simp at this
    omega
  · intro h
    rw [List.flatMap_eq_nil_iff]
    intro p _
    have : n - (p + gap) = 0 := by omega
    simp [this]
theorem twos_shp {L : List (Nat × Nat)} : (D.lst (twosD L)).shp 9 = true := by
  simp [D.shp, twosD, fwD]
theorem ok_eqNil {L : List (Nat × Nat)} {M : DSt} {P : Dv × DSt → Prop} : Ok (oEq (.d (.lst (twosD L))) (.d (.lst [])) M) P ↔ P (.d (.bl (decide (L = []))), M) := by
  rw [ok_eqD twos_shp (by rfl)]
  cases L <;> simp [twosD, D.eqv, D.eqvs]
theorem named_at {ns : List (Option Int)} {k : Nat} (h : k < ns.length) : (ns.map nsD)[k]? = some (nsD (namedAt ns k)) := by
  simp [namedAt, h]
theorem eqv_near {x : Option ((Int × Int) × Nat)} {f : Int × Int} {q : Int} : D.eqv (bestD x) (.tup [frD f, .int q]) = decide (x.map (fun x => (x.1, (x.2 : Int))) = some (f, q)) := by
  cases x with
  | none => simp [bestD, D.eqv]
  | some y =>
    obtain ⟨g, r⟩ := y
    have := eqv_fr (f := g) (g := f)
    simp only [bestD, D.eqv, D.eqvs, this]
    by_cases h1 : g = f <;> by_cases h2 : (r : Int) = q <;> simp [h1, h2]
theorem eqv_ns {x : Option Int} {q : Int} : D.eqv (nsD x) (.int q) = decide (x = some q) := by
  cases x with
  | none => simp [nsD, D.eqv]
  | some y => by_cases h : y = q <;> simp [nsD, D.eqv, h]
theorem ns_shp {x : Option Int} {n : Nat} : (nsD x).shp n = true := by cases x <;> cases n <;> rfl
def nearOf (r : Option ((Int × Int) × Nat)) : Option Int := r.map fun x => (x.2 : Int)
/-- the loneliest of the row: what it is -/
theorem lone_some {rows : List (Option ((Int × Int) × Nat))} {f : Int × Int} {p q : Nat} (hp : ∀ p f r, rowAt rows p = some (f, r) → Low f) (h : loneZ rows (List.range rows.length) = some (f, p, q)) : p < rows.length ∧ rowAt rows p = some (f, q) ∧ ∀ k g r, rowAt rows k = some (g, r) → k ≠ p → lessZ g f = true ∨ (g = f ∧ p < k) := by
  rw [loneZ_fold] at h
  have pos : ∀ y ∈ candL rows (List.range rows.length), 0 < y.1.2 := fun y hy => (hp _ _ _ (candL_mem.mp hy).2).1
  obtain ⟨L1, L2, e, h1, h2⟩ := maxOf_some pos h
  have hm : (f, p, q) ∈ candL rows (List.range rows.length) := by rw [e]; simp
  have hm' := candL_mem.mp hm
  refine ⟨by simpa using hm'.1, hm'.2, ?_⟩
  intro k g r hk hkp
  have hkl : k < rows.length := by
    by_cases h : k < rows.length
    · exact h
    · simp [rowAt, List.getD_eq_getElem?_getD, List.getElem?_eq_none (by omega : rows.length ≤ k)] at hk
  have hc : (g, k, r) ∈ candL rows (List.range rows.length) := candL_mem.mpr ⟨by simpa using hkl, hk⟩
  have srt := candL_sorted (rows := rows) (n := rows.length)
  rw [e] at hc srt
  rw [List.pairwise_append] at srt
  rcases List.mem_append.mp hc with hc | hc
  · exact .inl (h1 _ hc)
  · rcases List.mem_cons.mp hc with hc | hc
    · cases hc
      exact absurd rfl hkp
    · have hlt := (List.pairwise_cons.mp srt.2.1).1 _ hc
      have n1 := h2 _ hc
      cases n2 : lessZ g f with
      | true => exact .inl rfl
      | false => exact .inr ⟨low_same (hp _ _ _ hk) (hp _ _ _ hm'.2) n2 n1, hlt⟩
theorem lone_of {rows : List (Option ((Int × Int) × Nat))} {f : Int × Int} {p q : Nat} (hp : ∀ p f r, rowAt rows p = some (f, r) → Low f) (h0 : rowAt rows p = some (f, q)) (h : ∀ k g r, rowAt rows k = some (g, r) → k ≠ p → lessZ g f = true ∨ (g = f ∧ p < k)) : loneZ rows (List.range rows.length) = some (f, p, q) := by
  have hkl : p < rows.length := by
    by_cases h : p < rows.length
    · exact h
    · simp [rowAt, List.getD_eq_getElem?_getD, List.getElem?_eq_none (by omega : rows.length ≤ p)] at h0
  cases e : loneZ rows (List.range rows.length) with
  | none =>
    rw [loneZ_fold] at e
    have := maxOf_none e
    have hc : (f, p, q) ∈ candL rows (List.range rows.length) := candL_mem.mpr ⟨by simpa using hkl, h0⟩
    rw [this] at hc
    cases hc
  | some x =>
    obtain ⟨g, k, r⟩ := x
    obtain ⟨k1, k2, k3⟩ := lone_some hp e
    by_cases hk : k = p
    · subst hk
      rw [h0] at k2
      cases k2
      rfl
    · rcases h k g r k2 hk with h1 | ⟨h1, h2⟩
      · rcases k3 p f q h0 (fun z => hk z.symm) with h3 | ⟨h3, h4⟩
        · rw [less_asymm h1] at h3
          cases h3
        · subst h3
          rw [lessZ_irr] at h1
          cases h1
      · rcases k3 p f q h0 (fun z => hk z.symm) with h3 | ⟨h3, h4⟩
        · subst h1
          rw [lessZ_irr] at h3
          cases h3
        · omega
theorem candN_mem {kd : Kd} {ss : List (List Int)} {gap p n : Nat} {x : (Int × Int) × Nat} : x ∈ candN kd ss gap p n ↔ x.2 < n ∧ gap ≤ (x.2 - p) + (p - x.2) ∧ x.1 = farAt kd ss p x.2 := by
  unfold candN
  rw [List.mem_filterMap]
  constructor
  · rintro ⟨q, hq, e⟩
    split at e
    · cases e
      exact ⟨by simpa using hq, by assumption, rfl⟩
    · cases e
  · rintro ⟨h1, h2, h3⟩
    refine ⟨x.2, by simpa using h1, ?_⟩
    rw [if_pos h2, ← h3]
theorem nearZ_some {kd : Kd} {ss : List (List Int)} {gap p : Nat} {f : Int × Int} {q : Nat} (hs : ∀ s ∈ ss, 0 < s.length) (hp : p < ss.length) (h : nearZ kd ss gap p = some (f, q)) : q < ss.length ∧ apartB gap p q = true ∧ f = farAt kd ss p q := by
  unfold nearZ at h
  rw [nearTo_min] at h
  have hm := (minOf_some (fun y hy => by rw [(candN_mem.mp hy).2.2]; exact (farAt_low hs hp).1) h).mem
  obtain ⟨h1, h2, h3⟩ := candN_mem.mp hm
  exact ⟨h1, by simpa [apartB] using h2, h3⟩
theorem nearZ_none {kd : Kd} {ss : List (List Int)} {gap p q : Nat} (hs : ∀ s ∈ ss, 0 < s.length) (hp : p < ss.length) (h : nearZ kd ss gap p = none) (hq : q < ss.length) : apartB gap p q = false := by
  unfold nearZ at h
  rw [nearTo_min, minOf_none (fun y hy => by rw [(candN_mem.mp hy).2.2]; exact (farAt_low hs hp).1)] at h
  by_cases ha : gap ≤ (q - p) + (p - q)
  · have hc : (farAt kd ss p q, q) ∈ candN kd ss gap p ss.length := candN_mem.mpr ⟨hq, ha, rfl⟩
    rw [h] at hc
    cases hc
  · simpa [apartB] using ha
theorem tab_row {p : Nat} (hp : p < (stretchesZ xs l).length) : rowAt (tableZ kd xs gap l) p = nearZ kd (stretchesZ xs l) gap p := by
  simp [rowAt, tableZ, hp]
theorem named_tab {p : Nat} (hp : p < (stretchesZ xs l).length) : namedAt ((tableZ kd xs gap l).map nearOf) p = nearOf (nearZ kd (stretchesZ xs l) gap p) := by
  simp [namedAt, tableZ, hp]
theorem st_pos (hx : Row 10 xs) (l0 : 1 ≤ l) : ∀ s ∈ stretchesZ xs l, 0 < s.length := fun s h => ((stretches_fine hx (show 0 < l by omega)).1 s h).2
theorem enough_tab (hx : Row 10 xs) (l0 : 1 ≤ l) {f : Int × Int} {p0 k : Nat} (hk : k < (stretchesZ xs l).length) :
    enoughZ kd (stretchesZ xs l) gap f p0 k (nearOf (nearZ kd (stretchesZ xs l) gap k)) = true ↔ ∀ g r, nearZ kd (stretchesZ xs l) gap k = some (g, r) → lessZ g f = true ∨ (g = f ∧ p0 < k) := by
  have hs := st_pos hx l0
  cases e : nearZ kd (stretchesZ xs l) gap k with
  | none =>
    have a1 := nearZ_none hs hk e (q := 0) (by omega)
    have a2 := nearZ_none hs hk e (q := (stretchesZ xs l).length - 1) (by omega)
    simp [apartB] at a1 a2
    simp [nearOf, enoughZ]
    omega
  | some x =>
    obtain ⟨g, r⟩ := x
    obtain ⟨h1, h2, h3⟩ := nearZ_some hs hk e
    have r1 : (r : Int) < ((stretchesZ xs l).length : Int) := by omega
    simp [nearOf, enoughZ, h1, h2, ← h3]
theorem shows_tab (hx : Row 10 xs) (l0 : 1 ≤ l) {f : Int × Int} {p q : Nat} (h : rowAt (tableZ kd xs gap l) p = some (f, q)) :
    showsL kd (stretchesZ xs l) gap (some (f, (p : Int), (q : Int))) ((tableZ kd xs gap l).map nearOf) = decide (loneZ (tableZ kd xs gap l) (List.range (tableZ kd xs gap l).length) = some (f, p, q)) := by
  have low : ∀ p f r, rowAt (tableZ kd xs gap l) p = some (f, r) → Low f := fun p f r h => tab_low hx (by omega) h
  have tl : (tableZ kd xs gap l).length = (stretchesZ xs l).length := by simp [tableZ]
  have sl : (stretchesZ xs l).length = xs.length + 1 - l := stretches_len
  obtain ⟨hp, hn⟩ := tab_at h
  have hp' : p < (stretchesZ xs l).length := by omega
  unfold showsL
  rw [if_pos (by simp [tl])]
  simp only [Int.toNat_natCast]
  rw [if_pos ⟨⟨by omega, by omega⟩, by rw [hn]; rfl, by rw [named_tab hp', hn]; rfl⟩]
  rw [Bool.eq_iff_iff, List.all_eq_true, decide_eq_true_eq]
  constructor
  · intro ha
    refine lone_of low h fun k g r hk hkp => ?_
    obtain ⟨k1, k2⟩ := tab_at hk
    have k1' : k < (stretchesZ xs l).length := by omega
    have hx1 := ha k (by simp; omega)
    rw [named_tab k1'] at hx1
    exact (enough_tab hx l0 k1').mp hx1 g r k2
  · intro hl k hk
    simp at hk
    obtain ⟨_, _, h3⟩ := lone_some low hl
    rw [named_tab hk.1]
    refine (enough_tab hx l0 hk.1).mpr fun g r hg => ?_
    exact h3 k g r (by rw [tab_row hk.1]; exact hg) (by omega)
theorem shows_none (hx : Row 10 xs) (l0 : 1 ≤ l) : showsL kd (stretchesZ xs l) gap none ((tableZ kd xs gap l).map nearOf) = ((tableZ kd xs gap l).map nearOf).all (·.isNone) := by
  have tl : (tableZ kd xs gap l).length = (stretchesZ xs l).length := by simp [tableZ]
  unfold showsL
  rw [if_pos (by simp [tl])]
  simp only
  cases ha : ((tableZ kd xs gap l).map nearOf).all (·.isNone) with
  | false => simp
  | true =>
    have hs := st_pos hx l0
    by_cases h0 : (stretchesZ xs l).length = 0
    · simp [h0]
    · rw [List.all_eq_true] at ha
      have h1 := ha (nearOf (nearZ kd (stretchesZ xs l) gap 0)) (by
        rw [← named_tab (by omega)]
        have : 0 < ((tableZ kd xs gap l).map nearOf).length := by simp [tl]; omega
        rw [namedAt, List.getElem?_eq_getElem this]
        exact List.getElem_mem _)
      have h2 : nearZ kd (stretchesZ xs l) gap 0 = none := by
        cases e : nearZ kd (stretchesZ xs l) gap 0 with
        | none => rfl
        | some x => rw [e] at h1; cases h1
      have a2 := nearZ_none hs (by omega) h2 (q := (stretchesZ xs l).length - 1) (by omega)
      simp [apartB] at a2
      simp
      omega
theorem lone_none (hx : Row 10 xs) (l0 : 1 ≤ l) (h : loneZ (tableZ kd xs gap l) (List.range (tableZ kd xs gap l).length) = none) : ((tableZ kd xs gap l).map nearOf).all (·.isNone) = true := by
  rw [loneZ_fold] at h
  have := maxOf_none h
  rw [List.all_eq_true]
  intro x hx
  obtain ⟨y, hy, rfl⟩ := List.mem_map.mp hx
  cases y with
  | none => rfl
  | some z =>
    obtain ⟨p, hp, e⟩ := List.getElem_of_mem hy
    have hc : (z.1, p, z.2) ∈ candL (tableZ kd xs gap l) (List.range (tableZ kd xs gap l).length) := candL_mem.mpr ⟨by simpa using hp, by simp [rowAt, hp, e]⟩
    rw [this] at hc
    cases hc
theorem ok_neB {a b : Bool} {M : DSt} {P : Dv × DSt → Prop} : Ok (oNe (.d (.bl a)) (.d (.bl b)) M) P ↔ P (.d (.bl (!decide (a = b))), M) := by
  rw [ok_neD (by rfl) (by rfl)]
  cases a <;> cases b <;> simp [D.eqv]
theorem eqv_bestP {b : Option ((Int × Int) × (Nat × Nat))} {f : Int × Int} {p q : Nat} : D.eqv (.tup [frD f, .int p, .int q]) (bestP b) = decide (b = some (f, p, q)) := by
  cases b with
  | none => simp [bestP, D.eqv]
  | some x =>
    obtain ⟨g, u, v⟩ := x
    have := eqv_fr (f := f) (g := g)
    have h3 : ((p : Int) == (u : Int)) = decide (u = p) := by
      by_cases h : u = p
      · simp [h]
      · have : ¬ (p : Int) = (u : Int) := by omega
        simp [h, this]
    have h4 : ((q : Int) == (v : Int)) = decide (v = q) := by
      by_cases h : v = q
      · simp [h]
      · have : ¬ (q : Int) = (v : Int) := by omega
        simp [h, this]
    simp only [bestP, D.eqv, D.eqvs, this, h3, h4]
    by_cases h1 : f = g
    · subst h1
      by_cases h2 : u = p <;> by_cases h5 : v = q <;> simp [h2, h5]
    · have : ¬ g = f := fun z => h1 z.symm
      simp [h1, this]
/-- a fraction within A, the store as it is told -/
def Fr (A : Int) (M : DSt) (p : Dv × DSt) : Prop := ∃ t b, bd A t ∧ bd A b ∧ b ≠ 0 ∧ p = (.d (.tup [.int t, .int b]), M)
/-- stretches of one length -/
def FineE (k : Nat) (ss : List (List Int)) : Prop := Fine k ss ∧ Even ss
/-- the table of stretches -/
def tabZ (kd : Kd) (ss : List (List Int)) (gap : Nat) : List (Option ((Int × Int) × Nat)) := (List.range ss.length).map fun p => nearZ kd ss gap p
theorem tabZ_at {kd : Kd} {ss : List (List Int)} {gap p : Nat} (hp : p < ss.length) : rowAt (tabZ kd ss gap) p = nearZ kd ss gap p := by simp [rowAt, tabZ, hp]
theorem nearZ_bn {k : Nat} {kd : Kd} {ss : List (List Int)} {gap p : Nat} {f : Int × Int} {r : Nat} (hs : Fine k ss) (hp : p < ss.length) (h : nearZ kd ss gap p = some (f, r)) : Bn (4 * k + 11) f.1 ∧ Bn (4 * k + 11) f.2 := nearTo_bn kd hs hp (Nat.le_refl _) h
theorem eqv_nones {ns : List (Option Int)} : ∀ {n : Nat}, ns.length = n → D.eqvs (ns.map nsD) (List.replicate n D.non) = ns.all (·.isNone) := by
  induction ns with
  | nil => intro n h; subst h; rfl
  | cons a ns ih =>
    intro n h
    subst h
    simp only [List.length_cons, List.replicate_succ, List.map_cons, D.eqvs, List.all_cons]
    rw [ih rfl]
    cases a <;> simp [nsD, D.eqv]
theorem eqv_nats {l : List Nat} : D.eqv (.lst (natsD l)) (.lst []) = decide (l = []) := by
  cases l <;> simp [natsD, D.eqv, D.eqvs]
theorem nats_shp {l : List Nat} {n : Nat} : (D.lst (natsD l)).shp (n + 1) = true := by
  simp only [D.shp, natsD, List.all_map, List.all_eq_true]
  intro x _
  cases n <;> rfl
def namedS (kd : Kd) (ss : List (List Int)) (gap : Nat) (f : Int × Int) (p0 : Nat) (p : Nat) (r : Option Int) : Prop := match nearZ kd ss gap p with
  | none => r = none
  | some (g, q) => if p = p0 then r = some (q : Int) else enoughZ kd ss gap f p0 p r = true
theorem enough_near {kd : Kd} {ss : List (List Int)} {gap : Nat} {f : Int × Int} {p0 p q : Nat} {g : Int × Int} (sp : ∀ s ∈ ss, 0 < s.length) (hp : p < ss.length) (e : nearZ kd ss gap p = some (g, q)) (h : lessZ g f = true ∨ (g = f ∧ p0 < p)) : enoughZ kd ss gap f p0 p (some (q : Int)) = true := by
  obtain ⟨h1, h2, h3⟩ := nearZ_some sp hp e
  have r1 : (q : Int) < (ss.length : Int) := by omega
  simp [enoughZ, h1, h2, ← h3]
  exact h
def NamedO (n : Nat) (kd : Kd) (ss : List (List Int)) (gap : Nat) (f : Int × Int) (p0 p : Nat) (M : DSt) (o : Dv × DSt) : Prop := ∃ r, namedS kd ss gap f p0 p r ∧ o.1 = .d (nsD r) ∧ Like n M o.2
/-- a told loneliest whose fraction is one -/
def Alone (j : Nat) (b : Option ((Int × Int) × (Int × Int))) : Prop := ∀ x, b = some x → 0 < x.1.2 ∧ Bn j x.1.1 ∧ Bn j x.1.2
def bentE (n : Nat) (kd : Kd) (ss : List (List Int)) (gap : Nat) (t : D) (s at_ : Nat) (u : Option Int) (b : Option ((Int × Int) × (Int × Int))) (ns : List (Option Int)) (v10 v11 v12 : Option Dv) : DEnv :=
  [some (.d (.lst (rowsD ss))), some (.d kd.s), some (.d (.int gap)), some (.d t), some (.c n), some (.d (bestI b)), some (.d (nearsD ns)), some (.d (.int s)), some (.d (.int at_)), some (.d (nsD u)), v10, v11, v12]
def BentO (n : Nat) (kd : Kd) (ss : List (List Int)) (gap : Nat) (t : D) (s at_ : Nat) (u : Option Int) (j L : Nat) (M : DSt) (o : Out) : Prop := ∃ b ns v10 v11 v12 M1, Alone j b ∧ ns.length ≤ L ∧ Like n M M1 ∧ o = .nx (bentE n kd ss gap t s at_ u b ns v10 v11 v12) M1
def BentR (n j L : Nat) (M : DSt) (p : Dv × DSt) : Prop := ∃ b ns, Alone j b ∧ ns.length ≤ L ∧ p.1 = .d (.tup [bestI b, nearsD ns]) ∧ Like n M p.2
theorem told_shp {b : Option ((Int × Int) × (Int × Int))} {ns : List (Option Int)} : (D.tup [bestI b, nearsD ns]).shp 9 = true := by
  have h1 : (bestI b).shp 8 = true := by
    cases b with
    | none => rfl
    | some x => simp [bestI, D.shp, frD]
  have h2 : (nearsD ns).shp 8 = true := by
    simp only [nearsD, D.shp, List.all_map, List.all_eq_true]
    intro x _
    exact ns_shp
  simp [D.shp, h1, h2]
/-- a comprehension that draws: what its items are, place by place -/
theorem comp_idx {chk : DSt → Prop} {step : D → DSt → Option (Option D × DSt)} {P : List D × DSt → Prop} (I : DSt → Prop) (hc : ∀ M, I M → chk M) : ∀ {xs : List D} {M : DSt} (R : Nat → D → Prop), I M →
    (∀ i x M, xs[i]? = some x → I M → Ok (step x M) fun p => I p.2 ∧ ∃ y, p.1 = some y ∧ R i y) → (∀ ys M, I M → ys.length = xs.length → (∀ i y, ys[i]? = some y → R i y) → P (ys, M)) → Ok (compL chk step xs M) P := by
  intro xs
  induction xs generalizing P with
  | nil =>
    intro M R hM h k
    simp only [compL, ok_grd, ok_some]
    exact ⟨hc M hM, k [] M hM rfl (by simp)⟩
  | cons x xs ih =>
    intro M R hM h k
    obtain ⟨⟨o, M1⟩, e, hM1, y, rfl, hy⟩ := h 0 x M rfl hM
    have r := ih (P := fun q => P (y :: q.1, q.2)) (fun i => R (i + 1)) hM1 (fun i z M hz => h (i + 1) z M (by simpa using hz)) fun ys M2 h2 l a => k _ _ h2 (by simp [l]) (by
      intro i z hz
      cases i with
      | zero => simp at hz; subst hz; exact hy
      | succ i => exact a i z (by simpa using hz))
    simp only [compL, ok_grd]
    refine ⟨hc M hM, ?_⟩
    obtain ⟨⟨ys, M2⟩, e2, hP⟩ := r
    simp only [e, e2, ok_some]
    exact hP
theorem nsD_inj {x y : Option Int} (h : nsD x = nsD y) : x = y := by
  cases x <;> cases y <;> simp [nsD] at h ⊢
  exact h
theorem ns_of {R : Nat → Option Int → Prop} : ∀ {ys : List D}, (∀ i y, ys[i]? = some y → ∃ r, R i r ∧ y = nsD r) → ∃ ns : List (Option Int), ys = ns.map nsD ∧ ∀ i, i < ns.length → R i (namedAt ns i) := by
  intro ys
  induction ys generalizing R with
  | nil => intro _; exact ⟨[], rfl, by simp⟩
  | cons y ys ih =>
    intro h
    obtain ⟨r, hr, rfl⟩ := h 0 y rfl
    obtain ⟨ns, rfl, hn⟩ := ih (R := fun i => R (i + 1)) fun i z hz => h (i + 1) z (by simpa using hz)
    refine ⟨r :: ns, rfl, ?_⟩
    intro i hi
    cases i with
    | zero => simpa [namedAt] using hr
    | succ i =>
      have := hn i (by simpa using hi)
      simpa [namedAt] using this
/-- what the law makes: shown -/
theorem shows_made {kd : Kd} {ss : List (List Int)} {gap : Nat} {f : Int × Int} {p q : Nat} {ns : List (Option Int)} (sp : ∀ s ∈ ss, 0 < s.length) (hl : ns.length = ss.length) (hp : p < ss.length) (hn : nearZ kd ss gap p = some (f, q)) (h : ∀ k, k < ss.length → namedS kd ss gap f p k (namedAt ns k)) :
    showsL kd ss gap (some (f, (p : Int), (q : Int))) ns = true := by
  have h0 := h p hp
  unfold namedS at h0
  rw [hn] at h0
  simp only [if_true] at h0
  unfold showsL
  rw [if_pos hl]
  simp only [Int.toNat_natCast]
  rw [if_pos ⟨⟨by omega, by omega⟩, by rw [hn]; rfl, h0⟩, List.all_eq_true]
  intro k hk
  simp at hk
  have h1 := h k hk.1
  unfold namedS at h1
  cases e : nearZ kd ss gap k with
  | none =>
    rw [e] at h1
    simp only at h1
    rw [h1]
    have a1 := nearZ_none sp hk.1 e (q := 0) (by omega)
    have a2 := nearZ_none sp hk.1 e (q := ss.length - 1) (by omega)
    simp [apartB] at a1 a2
    simp [enoughZ]
    omega
  | some x =>
    obtain ⟨g, r⟩ := x
    rw [e] at h1
    simp only at h1
    rw [if_neg (by omega)] at h1
    exact h1
def TurnI (env : D → DEnv) (i : Nat) (ρ : DEnv) (M : DSt) : Prop := ∃ b ns, Alone (51 + 10 * i) b ∧ ns.length ≤ 12 + i ∧ Purse 0 M ∧ ρ = env (.tup [bestI b, nearsD ns])
def TurnX (env : D → DEnv) (o : Out) : Prop := ∃ m ρ M, m ≤ 3 ∧ TurnI env m ρ M ∧ o = .nx ρ M
def ToldO (n j L : Nat) (env : D → DEnv) (M : DSt) (kd : Kd) (ss : List (List Int)) (gap : Nat) (o : Out) : Prop := ∃ b ns M1, Alone j b ∧ ns.length ≤ L ∧ showsL kd ss gap b ns = true ∧ Like n M M1 ∧ o = .nx (env (.tup [bestI b, nearsD ns])) M1
def prD (x : Nat × Nat) : D := .tup [.int x.1, .int x.2]
def part (b i j : Nat) (x : Nat × Nat) : List (Nat × Nat) := if x.1 ≤ i ∧ x.2 ≤ j ∧ inB b (i - x.1) (j - x.2) = true then [(i - x.1, j - x.2)] else []
theorem part_ahd {b i j : Nat} : [(1, 0), (0, 1), (1, 1)].flatMap (part b i j) = ahd b i j := by
  simp [part, ahd]
theorem places_ahead_ok {M : DSt} {i j b : Nat} : f_places_ahead [.d (.int i), .d (.int j), .d (.int b)] M = some (.c M.length, M ++ [some ((ahd b i j).map prD)]) := by
  apply ok_eq
  unfold f_places_ahead
  rw [ok_fn]
  simp [b_places_ahead, startD, -seqP_nx, v_STEPS]
  refine seqP_nx.mpr ?_
  let env : DEnv := [some (.d (.int i)), some (.d (.int j)), some (.d (.int b)), some (.c M.length), none, none]
  have e : [D.tup [.int 1, .int 0], D.tup [.int 0, .int 1], D.tup [.int 1, .int 1]] = [((1 : Nat), (0 : Nat)), (0, 1), (1, 1)].map prD := rfl
  simp [-seqP_nx]
  rw [e]
  refine forL_by _ (fun k ρ M' => M' = M ++ [some ((([((1 : Nat), (0 : Nat)), (0, 1), (1, 1)].take k).flatMap (part b i j)).map prD)] ∧ ρ = env) ⟨by simp, rfl⟩ ?_ ?_
  · rintro k x ρ M' hx ⟨rfl, rfl⟩
    refine ⟨by simp [stand], ?_⟩
    rw [List.getElem?_map, Option.map_eq_some_iff] at hx
    obtain ⟨y, hy, rfl⟩ := hx
    have tk : [((1 : Nat), (0 : Nat)), (0, 1), (1, 1)].take (k + 1) = [((1 : Nat), (0 : Nat)), (0, 1), (1, 1)].take k ++ [y] := by rw [List.take_succ, hy]; rfl
    rw [tk, List.flatMap_append]
    have hl : (([((1 : Nat), (0 : Nat)), (0, 1), (1, 1)].take k).flatMap (part b i j)).length ≤ 3 := by
      have hk : k < 3 := by have := (List.getElem?_eq_some_iff.mp hy).1; simpa using this
      have p1 : ∀ x, (part b i j x).length ≤ 1 := fun x => by unfold part; split <;> simp
      have := p1 (1, 0)
      have := p1 (0, 1)
      have := p1 (1, 1)
      have h3 : k = 0 ∨ k = 1 ∨ k = 2 := by omega
      rcases h3 with rfl | rfl | rfl <;> simp <;> omega
    generalize ([((1 : Nat), (0 : Nat)), (0, 1), (1, 1)].take k).flatMap (part b i j) = acc at *
    have hcl : (M ++ [some (acc.map prD)])[M.length]? = some (some (acc.map prD)) := by simp
    obtain ⟨u, o⟩ := y
    have pe : part b i j (u, o) = if u ≤ i ∧ o ≤ j ∧ inB b (i - u) (j - o) = true then [(i - u, j - o)] else [] := rfl
    by_cases h1 : u ≤ i
    · have h1' : (u : Int) ≤ (i : Int) := by omega
      by_cases h2 : o ≤ j
      · have h2' : (o : Int) ≤ (j : Int) := by omega
        by_cases h3 : inB b (i - u) (j - o) = true
        · have h3' : (if (i : Int) - u - j + o < 0 then -((i : Int) - u - j + o) else (i : Int) - u - j + o) ≤ (b : Int) := by
            unfold inB at h3
            rw [decide_eq_true_eq] at h3
            split <;> omega
          simp only [List.flatMap_singleton]
          rw [pe, if_pos ⟨h1, h2, h3⟩]
          have e1 : ((i - u : Nat) : Int) = (i : Int) - u := by omega
          have e2 : ((j - o : Nat) : Int) = (j : Int) - o := by omega
          simp [env, prD, h1, h2, h3', celOk hcl, e1, e2]
          omega
        · have h3' : ¬ (if (i : Int) - u - j + o < 0 then -((i : Int) - u - j + o) else (i : Int) - u - j + o) ≤ (b : Int) := by
            unfold inB at h3
            rw [decide_eq_true_eq] at h3
            split <;> omega
          simp only [List.flatMap_singleton]
          rw [pe, if_neg (fun h => h3 h.2.2)]
          simp [env, prD, h1, h2, h3']
      · have h2' : ¬ (o : Int) ≤ (j : Int) := by omega
        simp only [List.flatMap_singleton]
        rw [pe, if_neg (fun h => h2 h.2.1)]
        simp [env, prD, h1, h2]
    · have h1' : ¬ (u : Int) ≤ (i : Int) := by omega
      simp only [List.flatMap_singleton]
      rw [pe, if_neg (fun h => h1 h.1)]
      simp [env, prD, h1]
  · rintro ρ M' ⟨rfl, rfl⟩
    refine ⟨by simp [stand], ?_⟩
    have : ([((1 : Nat), (0 : Nat)), (0, 1), (1, 1)].take ([((1 : Nat), (0 : Nat)), (0, 1), (1, 1)].map prD).length).flatMap (part b i j) = ahd b i j := part_ahd
    rw [this]
    simp [env]
def nz (xs : List Int) (i : Nat) : Int := xs.getD i 0
def sqZ (xs ys : List Int) (i j : Nat) : Int := (nz xs i - nz ys j) * (nz xs i - nz ys j)
theorem row_nz {xs : List Int} {i : Nat} (h : i < xs.length) : (xs.map D.int)[i]? = some (.int (nz xs i)) := by
  simp [nz, h]
theorem Bn10 {xs : List Int} {i : Nat} (hx : Row 10 xs) (h : i < xs.length) : Bn 10 (nz xs i) := by
  have : nz xs i = xs[i] := by simp [nz, h]
  rw [this]
  exact hx.1 _ (List.getElem_mem h)
theorem mul_ok {x y : Int} (hx : Bn 10 x) (hy : Bn 10 y) : mulOk (x - y) (x - y) := by
  refine mulOk_l ?_ ?_
  · have := hx.1; have := hy.2; simp at *; omega
  · have := hx.2; have := hy.1; simp at *; omega
theorem square_at_eq {M : DSt} {xs ys : List Int} {i j : Nat} (hx : Row 10 xs) (hy : Row 10 ys) (hi : i < xs.length) (hj : j < ys.length) : f_square_at [.d (rowD xs), .d (rowD ys), .d (.int i), .d (.int j)] M = some (.d (.int (sqZ xs ys i j)), M) := by
  apply ok_eq
  unfold f_square_at
  rw [ok_fn]
  have m := mul_ok (Bn10 hx hi) (Bn10 hy hj)
  simp [b_square_at, startD, rowD, ok_atN (row_nz hi), ok_atN (row_nz hj), m, sqZ]
def gD (h : Nat → Nat → Int) (b I J i j : Nat) : D := if inB b i j = true ∧ (i < I ∨ (i = I ∧ j < J)) then .int (h i j) else .non
def rowG (n : Nat) (g : Nat → Nat → D) (i : Nat) : List D := (List.range n).map (g i)
def stG (M : DSt) (m n : Nat) (g : Nat → Nat → D) : DSt := M ++ (List.range m).map (fun i => some (rowG n g i)) ++ [none]
def LsS (M : DSt) (m n : Nat) (g : Nat → Nat → D) (S : WSt) : Prop := S.M = stG M m n g ∧ S.N (M.length + m) = some (cellsW M.length m)
theorem stG_len {M : DSt} {m n : Nat} {g : Nat → Nat → D} : (stG M m n g).length = M.length + m + 1 := by simp [stG]; omega
theorem stG_at {M : DSt} {m n i : Nat} {g : Nat → Nat → D} (h : i < m) : (stG M m n g)[M.length + i]? = some (some (rowG n g i)) := by
  unfold stG
  rw [List.append_assoc, List.getElem?_append_right (by omega), Nat.add_sub_cancel_left, List.getElem?_append_left (by simpa using h), List.getElem?_map, List.getElem?_range h]
  rfl
theorem rowG_at {n i j : Nat} {g : Nat → Nat → D} (h : j < n) : (rowG n g i)[j]? = some (g i j) := by
  unfold rowG
  rw [List.getElem?_map, List.getElem?_range h]
  rfl
theorem rowG_len {n i : Nat} {g : Nat → Nat → D} : (rowG n g i).length = n := by simp [rowG]
theorem stG_congr {M : DSt} {m n : Nat} {g g' : Nat → Nat → D} (h : ∀ i j, i < m → j < n → g i j = g' i j) : stG M m n g = stG M m n g' := by
  unfold stG rowG
  congr 2
  refine List.map_congr_left fun i hi => ?_
  congr 1
  refine List.map_congr_left fun j hj => ?_
  exact h i j (List.mem_range.mp hi) (List.mem_range.mp hj)
theorem set_range {α : Type} {m i : Nat} {f : Nat → α} {x : α} : ((List.range m).map f).set i x = (List.range m).map fun a => if a = i then x else f a := by
  apply List.ext_getElem
  · simp
  · intro k h1 h2
    rw [List.getElem_set]
    simp
    by_cases h : i = k
    · simp [h]
    · have : ¬ k = i := fun e => h e.symm
      simp [h, this]
theorem stG_set {M : DSt} {m n i j : Nat} {g g' : Nat → Nat → D} {v : D} (hi : i < m) (hj : j < n) (h : ∀ a c, a < m → c < n → g' a c = if a = i ∧ c = j then v else g a c) : (stG M m n g).set (M.length + i) (some ((rowG n g i).set j v)) = stG M m n g' := by
  unfold stG
  rw [List.append_assoc, List.set_append_right _ _ (by omega), Nat.add_sub_cancel_left, List.set_append_left _ _ (by simpa using hi), set_range, List.append_assoc]
  congr 2
  refine List.map_congr_left fun a ha => ?_
  have ha' := List.mem_range.mp ha
  by_cases e : a = i
  · subst e
    rw [if_pos rfl]
    congr 1
    unfold rowG
    rw [set_range]
    refine List.map_congr_left fun c hc => ?_
    rw [h a c ha' (List.mem_range.mp hc)]
    by_cases e2 : c = j <;> simp [e2]
  · rw [if_neg e]
    congr 1
    refine List.map_congr_left fun c hc => ?_
    rw [h a c ha' (List.mem_range.mp hc)]
    simp [e]
theorem ix_nat {n k : Nat} (h : k < n) : ixD n (k : Int) = some k := by
  unfold ixD
  rw [if_pos (by omega), if_pos (by omega)]
  simp
def matD (m n : Nat) (g : Nat → Nat → D) : D := .lst ((List.range m).map fun i => .lst (rowG n g i))
theorem rs_stG {M : DSt} {m n : Nat} {g : Nat → Nat → D} {S : WSt} {b : Nat} (h : LsS M m n g S) (hb : b ≤ M.length) : rs b 5 S (.l (M.length + m)) = some (matD m n g) := by
  obtain ⟨h1, h2⟩ := h
  exact rs_cellsW hb (by omega) h2 fun i hi => by rw [h1]; exact stG_at hi
theorem before_ok {M : DSt} {m n b i j : Nat} {g : Nat → Nat → D} {h : Nat → Nat → Int} {S : WSt} {u0 u1 : Option Wv} {P : Wv × WSt → Prop} (LS : LsS M m n g S) (hi : i < m) (hj : j < n) (hg : ∀ x ∈ ahd b i j, g x.1 x.2 = .int (h x.1 x.2))
    (k : ∀ S', LsS M m n g S' → P (.v (.d (.lst (((ahd b i j).map fun x => h x.1 x.2).map D.int))), S')) :
    Ok (wFrz (wComp (iS (eFrz (eCall f_places_ahead (aCons (eVar 4) (aCons (eVar 5) (aCons (eVar 2) aNil)))))) (.tup [.name 8, .name 9]) wYes (w2 oIx (wIx (wVar 3) (eVar 8)) (wE (eVar 9))) [8, 9]) [u0, u1, some (.v (.d (.int b))), some (.l (M.length + m)), some (.v (.d (.int i))), some (.v (.d (.int j))), none, none, none, none] S) P := by
  have pa := fun M => places_ahead_ok (M := M) (i := i) (j := j) (b := b)
  have ql : (ahd b i j).length ≤ 3 := by
    unfold ahd
    have p1 : ∀ (c : Prop) [Decidable c] (x : Nat × Nat), (if c then [x] else []).length ≤ 1 := fun c _ x => by split <;> simp
    have := p1 (1 ≤ i ∧ inB b (i - 1) j = true) (i - 1, j)
    have := p1 (1 ≤ j ∧ inB b i (j - 1) = true) (i, j - 1)
    have := p1 (1 ≤ i ∧ 1 ≤ j ∧ inB b (i - 1) (j - 1) = true) (i - 1, j - 1)
    simp only [List.length_append]
    omega
  rw [ok_wFrz]
  simp [flE, Wv.fl, ↓okE (pa _), ↓ok_frz rfl]
  obtain ⟨SM, SN⟩ := S
  obtain ⟨h1, h2⟩ := LS
  simp only at h1 h2
  subst h1
  refine ⟨by omega, ?_⟩
  have qm : ∀ x ∈ ahd b i j, x.1 < m ∧ x.2 < n := fun x hx => by have := ahd_mem hx; omega
  have cs := comp_sameW (chk := fun S' => True) (step := cstepW (.tup [.name 8, .name 9]) wYes (w2 oIx (wIx (wVar 3) (eVar 8)) (wE (eVar 9))) [u0, u1, some (.v (.d (.int b))), some (.l (M.length + m)), some (.v (.d (.int i))), some (.v (.d (.int j))), none, none, none, none]) (e := prD) (w := fun x => .v (.d (.int (h x.1 x.2)))) (S := ⟨stG M m n g, SN⟩) trivial (ahd b i j) (fun x hx => by
    obtain ⟨q1, q2⟩ := qm x hx
    have ca := cellsW_at (c0 := M.length) q1
    have sa := stG_at (M := M) (n := n) (g := g) q1
    have ra := rowG_at (i := x.1) (g := g) q2
    rw [hg x hx] at ra
    have ea : atW (cellsW M.length m) (x.1 : Int) = some (.v (.c (M.length + x.1))) := by
      unfold atW
      rw [show (cellsW M.length m).length = m by simp [cellsW], ix_nat q1]
      simp [ca]
    apply ok_eq
    have ix : oIx (.c (M.length + x.1)) (.d (.int (x.2 : Int))) (stG M m n g) = some (.d (.int (h x.1 x.2)), stG M m n g) := by
      unfold oIx
      simp only [sv, lv, sa, Option.join_some, rowG_len, ix_nat q2, ra]
    simp [prD, itemsW, h2, flE, Wv.fl, ↓okE ea, ↓okE ix])
  rw [okE cs]
  have rl : rs (stG M m n g).length 5 (newL ((ahd b i j).map fun x => Wv.v (.d (.int (h x.1 x.2)))) ⟨stG M m n g, SN⟩).2 (newL ((ahd b i j).map fun x => Wv.v (.d (.int (h x.1 x.2)))) ⟨stG M m n g, SN⟩).1 = some (.lst (((ahd b i j).map fun x => h x.1 x.2).map D.int)) := by
    unfold newL
    simp only
    rw [rs_l (ws := (ahd b i j).map fun x => Wv.v (.d (.int (h x.1 x.2)))) (Nat.le_refl _) (by simp [upN]), rsL_map (α := Nat × Nat) (g := fun x => Wv.v (.d (.int (h x.1 x.2)))) (h := fun x => .int (h x.1 x.2))]
    · simp
    · intro x _
      simp [rs]
  have nl : ∀ q, q < (stG M m n g).length → (newL ((ahd b i j).map fun x => Wv.v (.d (.int (h x.1 x.2)))) ⟨stG M m n g, SN⟩).2.N q = SN q := by
    intro q hq
    unfold newL
    simp [upN]
    omega
  have nm : (newL ((ahd b i j).map fun x => Wv.v (.d (.int (h x.1 x.2)))) ⟨stG M m n g, SN⟩).2.M.take (stG M m n g).length = stG M m n g := by
    unfold newL
    simp
  simp only [okE rl]
  refine ⟨nl, ?_⟩
  rw [nm]
  refine k _ ⟨rfl, ?_⟩
  have hlt : M.length + m < (stG M m n g).length := by rw [stG_len]; omega
  simp only [hlt, if_true]
  rw [nl _ hlt]
  exact h2
theorem least_sums_eq {M : DSt} {xs ys : List Int} {b : Nat} (hx : Row 10 xs) (hy : Row 10 ys) (hb : b ≤ 1000) : f_least_sums [.d (rowD xs), .d (rowD ys), .d (.int b)] M = some (.d (matD xs.length ys.length (gD (hZ (sqZ xs ys) b) b xs.length 0)), M) := by
  apply ok_eq
  unfold f_least_sums
  rw [ok_fnF]
  simp [b_least_sums, startW, -seqPW_nx, rowD]
  have xl := hx.2
  have yl := hy.2
  refine ⟨by omega, ?_⟩
  have om : ∀ M, oMulU true (.d (.lst [.non])) (.d (.int ys.length)) M = some (.c M.length, M ++ [some (List.replicate ys.length .non)]) := fun M => by
    simp only [oMulU, oRep, lw]
    rw [grd_ok (by simp; omega)]
    simp [mkL]
  have c0 := comp_cellsW (α := Int) (e := D.int) (w := fun _ => List.replicate ys.length D.non) (chk := fun S' => True) (step := cstepW (.name 7) wYes (wE (e2 (oMulU true) (eLst false (aCons (eC .non) aNil)) (eA oLen (aCons (eVar 1) aNil)))) [some (.v (.d (.lst (xs.map D.int)))), some (.v (.d (.lst (ys.map D.int)))), some (.v (.d (.int b))), none, none, none, none, none, none, none]) (fun _ => trivial) xs ⟨M, fun _ => none⟩ (fun x _ S => by
    apply ok_eq
    simp [-ok_rep, ↓okE (om _)])
  rw [okE c0]
  simp only [newL]
  have st0 : M ++ xs.map (fun _ => some (List.replicate ys.length D.non)) ++ [none] = stG M xs.length ys.length (gD (hZ (sqZ xs ys) b) b 0 0) := by
    unfold stG
    congr 2
    apply List.ext_getElem
    · simp
    · intro k h1 h2
      simp [rowG]
      apply List.ext_getElem
      · simp
      · intro c h3 h4
        simp [gD]
  rw [st0]
  have ml : (M ++ xs.map (fun _ => some (List.replicate ys.length D.non))).length = M.length + xs.length := by simp
  rw [ml]
  have L0 : LsS M xs.length ys.length (gD (hZ (sqZ xs ys) b) b 0 0) ⟨stG M xs.length ys.length (gD (hZ (sqZ xs ys) b) b 0 0), upN (fun _ => none) (M.length + xs.length) (cellsW M.length xs.length)⟩ := ⟨rfl, by simp [upN]⟩
  generalize hS0 : (⟨stG M xs.length ys.length (gD (hZ (sqZ xs ys) b) b 0 0), upN (fun _ => none) (M.length + xs.length) (cellsW M.length xs.length)⟩ : WSt) = S0 at *
  clear hS0 st0 ml c0 om
  refine seqPW_nx.mpr ?_
  simp [-seqPW_nx]
  refine ⟨by omega, ?_⟩
  let env : WEnv := [some (.v (.d (.lst (xs.map D.int)))), some (.v (.d (.lst (ys.map D.int)))), some (.v (.d (.int b))), some (.l (M.length + xs.length)), none, none, none, none, none, none]
  refine forW_by _ (fun k ρ S => LsS M xs.length ys.length (gD (hZ (sqZ xs ys) b) b k 0) S ∧ ρ = env) ⟨L0, rfl⟩ ?_ ?_
  · rintro i x ρ S hxi ⟨LS, rfl⟩
    obtain ⟨hi, rfl⟩ := rng_at.mp hxi
    refine ⟨by simp, ?_⟩
    have mx : (if b < i then (i : Int) - b else 0) = ((i - b : Nat) : Int) := by split <;> omega
    have mn : (if (i : Int) + b + 1 < (ys.length : Int) then (i : Int) + b + 1 else (ys.length : Int)) = ((min ys.length (i + b + 1) : Nat) : Int) := by split <;> omega
    simp [env, -seqPW_nx]
    rw [mx, mn]
    refine ⟨by omega, ?_⟩
    rw [show (((min ys.length (i + b + 1) : Nat) : Int) - ((i - b : Nat) : Int)).toNat = min ys.length (i + b + 1) - (i - b) by omega]
    refine forW_by _ (fun k ρ S => LsS M xs.length ys.length (gD (hZ (sqZ xs ys) b) b i (i - b + k)) S ∧ ρ = [some (.v (.d (.lst (xs.map D.int)))), some (.v (.d (.lst (ys.map D.int)))), some (.v (.d (.int b))), some (.l (M.length + xs.length)), some (.v (.d (.int i))), none, none, none, none, none]) ⟨?_, rfl⟩ ?_ ?_
    · obtain ⟨l1, l2⟩ := LS
      refine ⟨?_, l2⟩
      show S.M = _
      rw [l1]
      refine stG_congr fun a c _ _ => ?_
      unfold gD
      by_cases hb1 : inB b a c = true
      · have hb2 := hb1
        unfold inB at hb2
        rw [decide_eq_true_eq] at hb2
        have : (a < i ∨ a = i ∧ c < 0) ↔ (a < i ∨ a = i ∧ c < i - b + 0) := by omega
        simp only [hb1, true_and, this]
      · simp [hb1]
    · rintro k x ρ S1 hxk ⟨LS1, rfl⟩
      obtain ⟨hk, rfl⟩ := rng_at.mp hxk
      refine ⟨by simp, ?_⟩
      have ej : (((i - b : Nat) : Int) + (k : Int)) = ((i - b + k : Nat) : Int) := by omega
      rw [ej, show i - b + (k + 1) = (i - b + k) + 1 by omega]
      have hj : i - b + k < ys.length := by omega
      have hjb : i - b + k ≤ i + b := by omega
      have hjl : i ≤ i - b + k + b := by omega
      generalize i - b + k = j at *
      have hin : inB b i j = true := by unfold inB; rw [decide_eq_true_eq]; omega
      have sa := fun M => square_at_eq (M := M) hx hy hi hj
      simp only [rowD] at sa
      simp [-seqPW_nx, -ok_wFrz]
      refine before_ok (h := hZ (sqZ xs ys) b) LS1 hi hj (fun x hxm => ?_) fun S2 LS2 => ?_
      · have := ahd_mem hxm
        unfold gD
        rw [if_pos ⟨this.1, by omega⟩]
      have hs := hZ_step (sq := sqZ xs ys) (b := b) (i := i) (j := j)
      generalize hZ (sqZ xs ys) b = h at *
      have qn : (ahd b i j).map (fun x => h x.1 x.2) = [] → lsZ ((ahd b i j).map fun x => h x.1 x.2) = 0 := fun e => by rw [e]; rfl
      generalize (ahd b i j).map (fun x => h x.1 x.2) = Q at *
      obtain ⟨l1, l2⟩ := LS2
      obtain ⟨SM, SN⟩ := S2
      simp only at l1 l2
      subst l1
      have ca := cellsW_at (c0 := M.length) hi
      have eat : atW (cellsW M.length xs.length) (i : Int) = some (.v (.c (M.length + i))) := by
        unfold atW
        rw [show (cellsW M.length xs.length).length = xs.length by simp [cellsW], ix_nat hi]
        simp [ca]
      let ρ1 : WEnv := [some (.v (.d (.lst (xs.map D.int)))), some (.v (.d (.lst (ys.map D.int)))), some (.v (.d (.int b))), some (.l (M.length + xs.length)), some (.v (.d (.int i))), some (.v (.d (.int j))), some (.v (.d (.lst (Q.map D.int)))), none, none, none]
      have ea : ∀ SM, (wIx (wVar 3) (eVar 4)) ρ1 ⟨SM, SN⟩ = some (.v (.c (M.length + i)), ⟨SM, SN⟩) := fun SM => by
        apply ok_eq
        simp [ρ1, itemsW, l2, ↓okE eat]
      have ei : ∀ SM, wE (eVar 5) ρ1 ⟨SM, SN⟩ = some (.v (.d (.int j)), ⟨SM, SN⟩) := fun SM => by
        apply ok_eq
        simp [ρ1]
      have es : ∀ SM, wE (eCall f_square_at (aCons (eVar 0) (aCons (eVar 1) (aCons (eVar 4) (aCons (eVar 5) aNil))))) ρ1 ⟨SM, SN⟩ = some (.v (.d (.int (sqZ xs ys i j))), ⟨SM, SN⟩) := fun SM => by
        apply ok_eq
        simp [ρ1, ↓okE (sa _)]
      have ix : ∀ g, ixD (rowG ys.length g i).length (j : Int) = some j := fun g => by rw [rowG_len]; exact ix_nat hj
      have p1 := sPut_c (S := ⟨stG M xs.length ys.length (gD h b i j), SN⟩) (es _) (ea _) (ei _) (stG_at (M := M) (n := ys.length) (g := gD h b i j) hi) (ix _)
      have g1 : (stG M xs.length ys.length (gD h b i j)).set (M.length + i) (some ((rowG ys.length (gD h b i j) i).set j (.int (sqZ xs ys i j)))) = stG M xs.length ys.length (fun a c => if a = i ∧ c = j then .int (sqZ xs ys i j) else gD h b i j a c) := stG_set hi hj fun _ _ _ _ => rfl
      simp only [setC] at p1
      rw [g1] at p1
      have gfin : ∀ v : Int, v = h i j → ∀ a c, (if a = i ∧ c = j then D.int v else gD h b i j a c) = gD h b i (j + 1) a c := by
        intro v hv a c
        unfold gD
        by_cases e : a = i ∧ c = j
        · obtain ⟨rfl, rfl⟩ := e
          rw [if_pos ⟨rfl, rfl⟩, if_pos ⟨hin, by omega⟩, hv]
        · rw [if_neg e]
          by_cases hb1 : inB b a c = true
          · have : (a < i ∨ a = i ∧ c < j) ↔ (a < i ∨ a = i ∧ c < j + 1) := by omega
            simp only [hb1, true_and, this]
          · simp [hb1]
      refine seqPW_nx.mpr ?_
      rw [ok_sSeq, okE p1]
      refine seqPW_nx.mpr ?_
      by_cases hq : Q = []
      · have e0 : h i j = sqZ xs ys i j := by rw [hs, qn hq]; omega
        subst hq
        have nil : (D.lst []).shp 9 = true := rfl
        simp [ρ1, ↓ok_neSame nil]
        exact ⟨stG_congr fun a c _ _ => gfin _ e0.symm a c, l2⟩
      · have nE : D.eqv (.lst (Q.map D.int)) (.lst []) = false := by
          cases Q with
          | nil => exact absurd rfl hq
          | cons x r => rfl
        have n9 : (D.lst (Q.map D.int)).shp 9 = true := by simp [D.shp]
        have nil : (D.lst []).shp 9 = true := rfl
        have em : ∀ SM, wE (eA oMin1 (aCons (eVar 6) aNil)) ρ1 ⟨SM, SN⟩ = some (.v (.d (.int (minZ Q))), ⟨SM, SN⟩) := fun SM => by
          apply ok_eq
          have o1 : oMin1 [.d (.lst (Q.map D.int))] SM = some (.d (.int (minZ Q)), SM) := by
            simp only [oMin1, lv, intsD_map]
            rw [grd_ok (List.length_pos_iff.mpr hq)]
          simp [ρ1, ↓okE o1]
        have rx : (rowG ys.length (fun a c => if a = i ∧ c = j then D.int (sqZ xs ys i j) else gD h b i j a c) i)[j]? = some (.int (sqZ xs ys i j)) := by
          rw [rowG_at hj]
          simp
        have p2 := sAugS_c (S := ⟨stG M xs.length ys.length (fun a c => if a = i ∧ c = j then D.int (sqZ xs ys i j) else gD h b i j a c), SN⟩) (f := oI fun i j => .int (i + j)) (z := .int (sqZ xs ys i j + minZ Q)) (ea _) (ei _) (stG_at (M := M) (n := ys.length) (g := fun a c => if a = i ∧ c = j then D.int (sqZ xs ys i j) else gD h b i j a c) hi) (ix _) rx (em _) rfl
        simp only [setC] at p2
        have g2 : (stG M xs.length ys.length (fun a c => if a = i ∧ c = j then D.int (sqZ xs ys i j) else gD h b i j a c)).set (M.length + i) (some ((rowG ys.length (fun a c => if a = i ∧ c = j then D.int (sqZ xs ys i j) else gD h b i j a c) i).set j (.int (sqZ xs ys i j + minZ Q)))) = stG M xs.length ys.length (gD h b i (j + 1)) := stG_set hi hj fun a c _ _ => by
          rw [← gfin (sqZ xs ys i j + minZ Q) (by rw [hs, lsZ_eq]) a c]
          by_cases e : a = i ∧ c = j <;> simp [e]
        rw [g2] at p2
        rw [ok_sIf]
        simp [ρ1, ↓ok_neD n9 nil, nE]
        rw [okE p2]
        simp [ρ1]
        exact ⟨rfl, l2⟩
    · rintro ρ S1 ⟨LS1, rfl⟩
      refine ⟨by simp, ?_⟩
      simp only [rng, List.length_map, List.length_range] at LS1
      simp [env]
      obtain ⟨l1, l2⟩ := LS1
      refine ⟨?_, l2⟩
      rw [l1]
      refine stG_congr fun a c _ hc => ?_
      unfold gD
      by_cases hb1 : inB b a c = true
      · have hb2 := hb1
        unfold inB at hb2
        rw [decide_eq_true_eq] at hb2
        have : (a < i ∨ a = i ∧ c < i - b + (min ys.length (i + b + 1) - (i - b))) ↔ (a < i + 1 ∨ a = i + 1 ∧ c < 0) := by omega
        simp only [hb1, true_and, this]
      · simp [hb1]
  · rintro ρ S ⟨LS, rfl⟩
    refine ⟨by simp, ?_⟩
    simp only [rng, List.length_map, List.length_range] at LS
    refine seqPW_nx.mpr ?_
    simp [env, rs_stG LS (Nat.le_refl _)]
    rw [LS.1]
    simp [stG]
theorem mat_at {m n i : Nat} {g : Nat → Nat → D} (h : i < m) : ((List.range m).map fun i => D.lst (rowG n g i))[i]? = some (.lst (rowG n g i)) := by
  rw [List.getElem?_map, List.getElem?_range h]
  rfl
theorem lastAt {cs : List D} {x : D} : atD (cs ++ [x]) (-1) = some x := by
  unfold atD ixD
  rw [if_neg (by decide), if_pos (by simp; omega)]
  have e : ((-1 : Int) + ((cs ++ [x]).length : Int)).toNat = cs.length := by simp; omega
  rw [e]
  simp
def WyI (sq : Nat → Nat → Int) (b m n : Nat) (M : DSt) (env : DEnv) (k : Nat) (ρ : DEnv) (M' : DSt) : Prop := ∃ (R : List (Nat × Nat)) (i j : Nat), k = i + j ∧ inB b i j = true ∧ i ≤ m ∧ j ≤ n ∧ R.length + i + j ≤ m + n ∧ Tl sq b m n (R ++ [(i, j)]) i j ∧ M' = M ++ [some (R.map prD ++ [prD (i, j)])] ∧ ρ = env
theorem must_band_eq {M : DSt} {b : Nat} (h : b ≤ 40) : f_must_band [.d (.int b)] M = some (.d .non, M) := by
  apply ok_eq
  unfold f_must_band
  rw [ok_fn]
  have : (b : Int) ≤ 40 := by omega
  simp [b_must_band, startD, v_MOST_LENGTH, this]
theorem must_len_eq {M : DSt} {n : Nat} (h : 1 ≤ n) (h2 : n ≤ 40) : f_must_length [.d (.int n)] M = some (.d .non, M) := by
  apply ok_eq
  unfold f_must_length
  rw [ok_fn]
  have : (n : Int) ≤ 40 := by omega
  have : (1 : Int) ≤ n := by omega
  simp [b_must_length, startD, v_MOST_LENGTH, *]
theorem must_lists_eq {M : DSt} {xs ys : List Int} {b : Nat} (hx : 1 ≤ xs.length) (hx2 : xs.length ≤ 40) (hy : 1 ≤ ys.length) (hy2 : ys.length ≤ 40) (hb : b ≤ 40) : f_must_lists [.d (rowD xs), .d (rowD ys), .d (.int b)] M = some (.d .non, M) := by
  apply ok_eq
  unfold f_must_lists
  rw [ok_fn]
  have e1 := fun M => must_band_eq (M := M) hb
  have e2 := fun M => must_len_eq (M := M) hx hx2
  have e3 := fun M => must_len_eq (M := M) hy hy2
  simp [b_must_lists, startD, rowD, ↓okE (e1 _), ↓okE (e2 _), ↓okE (e3 _)]
theorem atLast {l : List D} {x : D} {k : Nat} (hl : l.length = k + 1) (h : l[k]? = some x) : atD l (-1) = some x := by
  unfold atD ixD
  rw [if_neg (by decide), if_pos (by omega)]
  have e : ((-1 : Int) + (l.length : Int)).toNat = k := by omega
  rw [e]
  simp [h]
def Lists (k n : Nat) (M : DSt) (p : Dv × DSt) : Prop := ∃ xs ys : List Int, Row 10 xs ∧ Row 10 ys ∧ 1 ≤ xs.length ∧ xs.length ≤ k ∧ 1 ≤ ys.length ∧ ys.length ≤ k ∧ p.1 = .d (.tup [rowD xs, rowD ys]) ∧ Like n M p.2
theorem lists_ok {n k : Nat} {M : DSt} (h0 : Purse n M) (k0 : 1 ≤ k) (k1 : k ≤ 50) : Ok (f__law_lists [.c n, .d (.int k)] M) (Lists k n M) := by
  unfold f__law_lists
  rw [ok_fn]
  simp [b__law_lists, startD, -seqP_nx]
  refine (draw_ok h0 (by decide) (by decide)).mono ?_
  rintro ⟨v, M1⟩ ⟨r1, hr1, hv, hM1⟩
  simp only at hv
  subst hv
  simp [-seqP_nx]
  refine pick (by omega) (by simpa using hr1) fun z hz => ?_
  obtain ⟨w, rfl, w0, w1⟩ : ∃ w : Nat, z = .int w ∧ 1 ≤ w ∧ w < 1000000000 := by
    simp at hz
    rcases hz with rfl | rfl | rfl | rfl | rfl
    · exact ⟨1, rfl, by omega, by omega⟩
    · exact ⟨2, rfl, by omega, by omega⟩
    · exact ⟨9, rfl, by omega, by omega⟩
    · exact ⟨1000, rfl, by omega, by omega⟩
    · exact ⟨999999999, rfl, by omega, by omega⟩
  refine seqP_nx.mpr ?_
  simp [-seqP_nx]
  refine (draw_ok hM1.1 (by omega) (by omega)).mono ?_
  rintro ⟨v, M2⟩ ⟨r2, hr2, hv, hM2⟩
  simp only at hv
  subst hv
  simp [-seqP_nx]
  refine ⟨by omega, by omega, ?_⟩
  have bn : ∀ q : Nat, (q : Int) < 2 * (w : Int) + 1 → Bn 10 ((q : Int) - w) := fun q hq => ⟨by simp; omega, by simp; omega⟩
  have mo : mulOk 2 (w : Int) := mulOk_l (by decide) (by decide)
  refine comp_draw (Like n M) (fun y => ∃ z, y = .int z ∧ Bn 10 z) (by simp) (hM1.trans hM2) ?_ ?_
  · intro x hx M3 hM3
    simp [mo]
    refine (draw_ok hM3.1 (by omega) (by omega)).mono ?_
    rintro ⟨v, M4⟩ ⟨q, hq, hv, hM4⟩
    simp only at hv
    subst hv
    simp
    exact ⟨hM3.trans hM4, bn q hq⟩
  intro us M3 hM3 lus hus
  obtain ⟨xs, rfl, lx, bx⟩ := ints_of hus
  simp at lus
  have hX : Row 10 xs := ⟨bx, by omega⟩
  refine seqP_nx.mpr ?_
  simp [-seqP_nx]
  refine (draw_ok hM3.1 (by omega) (by omega)).mono ?_
  rintro ⟨v, M4⟩ ⟨r4, hr4, hv, hM4⟩
  simp only at hv
  subst hv
  simp [-seqP_nx]
  refine ⟨by omega, by omega, ?_⟩
  refine comp_draw (Like n M) (fun y => ∃ z, y = .int z ∧ Bn 10 z) (by simp) (hM3.trans hM4) ?_ ?_
  · intro x hx M3 hM3
    simp [mo]
    refine (draw_ok hM3.1 (by omega) (by omega)).mono ?_
    rintro ⟨v, M4⟩ ⟨q, hq, hv, hM4⟩
    simp only at hv
    subst hv
    simp
    exact ⟨hM3.trans hM4, bn q hq⟩
  intro us M5 hM5 lvs hvs
  obtain ⟨ys, rfl, ly, by_⟩ := ints_of hvs
  simp at lvs
  have hY : Row 10 ys := ⟨by_, by omega⟩
  refine seqP_nx.mpr ?_
  refine seq_by (fun o => ∃ (zs : List Int) (M6 : DSt), Row 10 zs ∧ 1 ≤ zs.length ∧ zs.length ≤ k ∧ Like n M M6 ∧ o = .nx [some (.c n), some (.d (.int k)), some (.d (.int w)), some (.d (rowD xs)), some (.d (rowD zs)), none, none] M6) ?_ ?_
  · simp [-seqP_nx]
    refine (draw_ok hM5.1 (by decide) (by decide)).mono ?_
    rintro ⟨v, M6⟩ ⟨r6, hr6, hv, hM6⟩
    simp only at hv
    subst hv
    by_cases h6 : r6 = 0
    · simp [h6, -seqP_nx]
      refine seqP_nx.mpr ?_
      simp [-seqP_nx]
      refine forL_by _ (fun i ρ M' => ∃ zs : List Int, (∀ z ∈ zs, Bn 10 z) ∧ i ≤ zs.length ∧ zs.length ≤ 2 * i ∧ Like n M M' ∧ ρ = [some (.c n), some (.d (.int k)), some (.d (.int w)), some (.d (.lst (xs.map D.int))), some (.d (.lst (zs.map D.int))), none, none]) ⟨[], by simp, by simp, by simp, hM5.trans hM6, rfl⟩ ?_ ?_
      · rintro i x ρ M' hx ⟨zs, z1, z2, z3, hM', rfl⟩
        refine ⟨by simp [stand], ?_⟩
        rw [List.getElem?_map, Option.map_eq_some_iff] at hx
        obtain ⟨y, hy, rfl⟩ := hx
        have hi := (List.getElem?_eq_some_iff.mp hy).1
        have hym := List.mem_of_getElem? hy
        simp [-seqP_nx]
        refine (draw_ok hM'.1 (by decide) (by decide)).mono ?_
        rintro ⟨v, M7⟩ ⟨q, hq, hv, hM7⟩
        simp only at hv
        subst hv
        have tq : (1 + (q : Int)).toNat = 1 + q := by omega
        simp [flat_one, tq]
        refine ⟨by omega, by omega, ?_⟩
        refine ⟨zs ++ List.replicate (1 + q) y, ?_, by simp; omega, by simp; omega, hM'.trans hM7, ?_⟩
        · intro z hz
          rcases List.mem_append.mp hz with hz | hz
          · exact z1 z hz
          · rw [(List.mem_replicate.mp hz).2]
            exact bx y hym
        · simp
      · rintro ρ M' ⟨zs, z1, z2, z3, hM', rfl⟩
        simp at z2 z3
        refine ⟨by simp [stand], ?_⟩
        refine seqP_nx.mpr ?_
        simp [cut_take]
        refine ⟨zs.take k, ⟨fun z hz => z1 z (List.mem_of_mem_take hz), by simp; omega⟩, by simp; omega, by simp; omega, ?_⟩
        simp [rowD, hM']
    · simp [h6]
      exact ⟨ys, hY, by omega, by omega, hM5.trans hM6, rfl, rfl⟩
  rintro o ⟨zs, M6, hZ, z1, z2, hM6, rfl⟩
  refine seqP_nx.mpr ?_
  simp
  refine ⟨xs, zs, hX, hZ, by omega, by omega, z1, z2, by simp [rowD], ?_⟩
  simp
  rw [← hM6.len]
  simp
  exact hM6
def trD (x : Nat × Nat × Int) : D := .tup [.int x.1, .int x.2.1, .int x.2.2]
theorem sq_pow {xs ys : List Int} {i j : Nat} : (nz xs i - nz ys j) ^ (2 : Nat) = sqZ xs ys i j := by
  unfold sqZ
  rw [Int.pow_succ, Int.pow_succ]
  simp
theorem pow_ok {x y : Int} (hx : Bn 10 x) (hy : Bn 10 y) : powOk (x - y) 2 := by
  refine ⟨by decide, by decide, ?_⟩
  have := hx.1
  have := hx.2
  have := hy.1
  have := hy.2
  simp at *
  omega
def sel (xs ys : List Int) (m n b : Nat) (s : Int) (y : Nat × Nat) : List (Nat × Nat × Int) := if y.1 < m ∧ y.2 < n ∧ inB b y.1 y.2 = true then [(y.1, y.2, s + sqZ xs ys y.1 y.2)] else []
theorem sel_all {xs ys : List Int} {m n b a c : Nat} {s : Int} : [(a + 1, c), (a, c + 1), (a + 1, c + 1)].flatMap (sel xs ys m n b s) = nxW (sqZ xs ys) m n b (a, c, s) := by
  unfold nxW nxt
  simp only
  generalize [(a + 1, c), (a, c + 1), (a + 1, c + 1)] = l
  induction l with
  | nil => rfl
  | cons y l ih =>
    rw [List.flatMap_cons, ih, List.filter_cons]
    unfold sel
    by_cases h : y.1 < m ∧ y.2 < n ∧ inB b y.1 y.2 = true
    · rw [if_pos h, if_pos (by simpa using h)]
      simp
    · rw [if_neg h, if_neg (by simpa using h)]
      simp
theorem inB_abs {b p q : Nat} : (if (p : Int) - q < 0 then -((p : Int) - q) else (p : Int) - q) ≤ (b : Int) ↔ inB b p q = true := by
  unfold inB
  rw [decide_eq_true_eq]
  split <;> omega
def aEnv (xs ys : List Int) (b : Nat) (v : Dv) (c : Nat) (t : Option Dv) (l i j s : Option Dv) : DEnv := [some (.d (.lst (xs.map D.int))), some (.d (.lst (ys.map D.int))), some (.d (.int b)), some v, some (.c c), t, l, i, j, s, none, none]
/-- the three next places -/
theorem three_ok {M : DSt} {xs ys : List Int} {b c L t a d : Nat} {s : Int} {v : Dv} {acc : List (Nat × Nat × Int)} {P : Out → Prop} (hx : Row 10 xs) (hy : Row 10 ys) (hL : M[L]? = some (some (acc.map trD))) (la : acc.length ≤ 900000)
    (k : P (.nx (aEnv xs ys b v c (some (.d (.int t))) (some (.c L)) (some (.d (.int a))) (some (.d (.int d))) (some (.d (.int s)))) (M.set L (some ((acc ++ nxW (sqZ xs ys) xs.length ys.length b (a, d, s)).map trD))))) :
    Ok (dFor (iS (eLst false (aCons (eTup (aCons (e2 (oAdd false) (eVar 7) (eC (.int 1))) (aCons (eVar 8) aNil))) (aCons (eTup (aCons (eVar 7) (aCons (e2 (oAdd false) (eVar 8) (eC (.int 1))) aNil))) (aCons (eTup (aCons (e2 (oAdd false) (eVar 7) (eC (.int 1))) (aCons (e2 (oAdd false) (eVar 8) (eC (.int 1))) aNil))) aNil))))) (.tup [(.name 10), (.name 11)]) (dWipe [10, 11] (dIf (Rw.tAnd (tVal (e2 oLt (eVar 10) (eA oLen (aCons (eVar 0) aNil)))) (Rw.tAnd (tVal (e2 oLt (eVar 11) (eA oLen (aCons (eVar 1) aNil)))) (tVal (e2 oLe (eA oAbs (aCons (e2 oSub (eVar 10) (eVar 11)) aNil)) (eVar 2))))) (dExpr (eM mAppend (eVar 6) (aCons (eTup (aCons (eVar 10) (aCons (eVar 11) (aCons (e2 (oAdd false) (eVar 9) (e2 oPow (e2 oSub (e2 oIx (eVar 0) (eVar 10)) (e2 oIx (eVar 1) (eVar 11))) (eC (.int 2)))) aNil)))) aNil))) dPass)) (aEnv xs ys b v c (some (.d (.int t))) (some (.c L)) (some (.d (.int a))) (some (.d (.int d))) (some (.d (.int s)))) M) P := by
  have lt := (List.getElem?_eq_some_iff.mp hL).1
  rw [← sel_all] at k
  simp [aEnv]
  have e : [D.tup [.int ((a : Int) + 1), .int d], .tup [.int a, .int ((d : Int) + 1)], .tup [.int ((a : Int) + 1), .int ((d : Int) + 1)]] = [(a + 1, d), (a, d + 1), (a + 1, d + 1)].map prD := by simp [prD]
  rw [e]
  generalize hl : [(a + 1, d), (a, d + 1), (a + 1, d + 1)] = l at *
  have ll : l.length = 3 := by rw [← hl]; rfl
  refine forL_by _ (fun k ρ M' => M' = M.set L (some ((acc ++ (l.take k).flatMap (sel xs ys xs.length ys.length b s)).map trD)) ∧ ρ = aEnv xs ys b v c (some (.d (.int t))) (some (.c L)) (some (.d (.int a))) (some (.d (.int d))) (some (.d (.int s)))) ⟨?_, rfl⟩ ?_ ?_
  · simp
    obtain ⟨hn, e⟩ := List.getElem?_eq_some_iff.mp hL
    rw [← e, List.set_getElem_self]
  · rintro k x ρ M' hx' ⟨rfl, rfl⟩
    refine ⟨by simp [stand], ?_⟩
    rw [List.getElem?_map, Option.map_eq_some_iff] at hx'
    obtain ⟨y, hy', rfl⟩ := hx'
    have hk := (List.getElem?_eq_some_iff.mp hy').1
    have tk : l.take (k + 1) = l.take k ++ [y] := by rw [List.take_succ, hy']; rfl
    rw [tk, List.flatMap_append]
    have hl3 : ((l.take k).flatMap (sel xs ys xs.length ys.length b s)).length ≤ 3 := by
      have := flat_len (f := sel xs ys xs.length ys.length b s) (k := 1) (fun x => by unfold sel; split <;> simp) (l.take k)
      rw [List.length_take] at this
      omega
    generalize (l.take k).flatMap (sel xs ys xs.length ys.length b s) = ac at *
    have hc2 : (M.set L (some ((acc ++ ac).map trD)))[L]? = some (some ((acc ++ ac).map trD)) := by rw [List.getElem?_set_self lt]
    obtain ⟨p, q⟩ := y
    by_cases h1 : p < xs.length
    · by_cases h2 : q < ys.length
      · by_cases h3 : inB b p q = true
        · have h3' := inB_abs.mpr h3
          have po := pow_ok (Bn10 hx h1) (Bn10 hy h2)
          have se : [(p, q)].flatMap (sel xs ys xs.length ys.length b s) = [(p, q, s + sqZ xs ys p q)] := by simp [sel, h1, h2, h3]
          rw [se]
          simp [aEnv, prD, h1, h2, h3', ok_atN (row_nz h1), ok_atN (row_nz h2), po, celOk hc2, sq_pow, -List.map_append]
          refine ⟨by omega, ?_⟩
          simp [trD]
        · have h3' : ¬ (if (p : Int) - q < 0 then -((p : Int) - q) else (p : Int) - q) ≤ (b : Int) := fun h => h3 (inB_abs.mp h)
          have se : [(p, q)].flatMap (sel xs ys xs.length ys.length b s) = [] := by simp [sel, h3]
          rw [se]
          simp [aEnv, prD, h1, h2, h3']
      · have se : [(p, q)].flatMap (sel xs ys xs.length ys.length b s) = [] := by simp [sel, h2]
        rw [se]
        simp [aEnv, prD, h1, h2]
    · have se : [(p, q)].flatMap (sel xs ys xs.length ys.length b s) = [] := by simp [sel, h1]
      rw [se]
      simp [aEnv, prD, h1]
  · rintro ρ M' ⟨rfl, rfl⟩
    refine ⟨by simp [stand], ?_⟩
    rw [List.length_map, List.take_length]
    exact k
/-- one turn: what stands -/
def aInv (M : DSt) (xs ys : List Int) (b t : Nat) (ρ : DEnv) (M' : DSt) : Prop := ∃ v : Dv, ρ = aEnv xs ys b v M.length none none none none none ∧ M.length < M'.length ∧ M'.take M.length = M ∧ M'[M.length]? = some (some ((fnd (sqZ xs ys) xs.length ys.length b t).map D.int)) ∧ sv M' v = some ((wN (sqZ xs ys) xs.length ys.length b t).map trD) ∧ ((∃ x, v = .d x) ∨ ∃ q, v = .c q ∧ M.length < q ∧ q < M'.length)
theorem sv_keep {M M' : DSt} {v : Dv} (h : (∃ x, v = .d x) ∨ ∃ q, v = .c q ∧ M'[q]? = M[q]?) : sv M' v = sv M v := by
  rcases h with ⟨x, rfl⟩ | ⟨q, rfl, h⟩
  · cases x <;> rfl
  · simp [sv, lv, h]
theorem stand_keep {M M' : DSt} {v : Dv} (h : (∃ x, v = .d x) ∨ ∃ q, v = .c q ∧ M'[q]? = M[q]?) : stand (cellsOf v) M M' := by
  rcases h with ⟨x, rfl⟩ | ⟨q, rfl, h⟩
  · simp [stand, cellsOf]
  · simp [stand, cellsOf, h]
theorem sum_diag {xs ys : List Int} {m : Nat} (hm : xs.length = m + 1) (hn : ys.length = m + 1) : ((xs.zip ys).map fun p => (p.1 - p.2) ^ (2 : Nat)).sum = hZ (sqZ xs ys) 0 m m := by
  rw [hZ_diag]
  congr 1
  apply List.ext_getElem
  · simp [hm, hn]
  · intro i h1 h2
    simp at h2
    simp
    rw [← sq_pow]
    simp [nz, show i < xs.length by omega, show i < ys.length by omega]
theorem inB_self {b m : Nat} : inB b m m = true := by simp [inB]
/-- least_sums(..)[-1][-1] -/
theorem last_sum {xs ys : List Int} {b m : Nat} (hx : Row 10 xs) (hy : Row 10 ys) (lx : xs.length = m + 1) (ly : ys.length = m + 1) (hb : b ≤ 40) : ∃ A B : List D, (∀ M, f_least_sums [.d (rowD xs), .d (rowD ys), .d (.int b)] M = some (.d (.lst A), M)) ∧ atD A (-1) = some (.lst B) ∧ atD B (-1) = some (.int (hZ (sqZ xs ys) b m m)) := by
  have ls := fun M => least_sums_eq (M := M) hx hy (b := b) (by omega)
  rw [lx, ly] at ls
  refine ⟨_, _, ls, atLast (k := m) (by simp) (mat_at (by omega)), ?_⟩
  refine atLast (k := m) (by simp [rowG]) ?_
  rw [rowG_at (by omega)]
  unfold gD
  rw [if_pos ⟨inB_self, by omega⟩]
theorem must_band_eq' {M : DSt} {b : Nat} (h : b ≤ 40) : f_must_band [.d (.int b)] M = some (.d .non, M) := by
  apply ok_eq
  unfold f_must_band
  rw [ok_fn]
  have : (b : Int) ≤ 40 := by omega
  simp [b_must_band, startD, v_MOST_LENGTH, this]
theorem band_f {g : Int} (h : 0 ≤ g ∧ g ≤ 40) (M : DSt) : f_must_band [.d (.int g)] M = some (.d .non, M) := by
  obtain ⟨gn, rfl⟩ : ∃ n : Nat, g = (n : Int) := ⟨g.toNat, by omega⟩
  exact must_band_eq' (by omega)
/-- drawn numbers in a new cell -/
def NumC (n m : Nat) (M : DSt) (p : Dv × DSt) : Prop := ∃ (zs : List Int) (M' : DSt), Row 10 zs ∧ zs.length ≤ m ∧ Like n M M' ∧ p = (.c M.length, M' ++ [some (zs.map D.int)])
theorem numC_fin {n m c : Nat} {M M1 : DSt} {zs : List Int} (hz : Row 10 zs) (hl : zs.length ≤ m) (hg : Grown n M M1) (hc : M.length ≤ c) (e : M1[c]? = some (some (zs.map D.int))) : Ok (fin M.length (.c c) M1) (NumC n m M) :=
  (ok_finC hc e).mpr ⟨zs, _, hz, hl, hg.2.2.2, rfl⟩
/-- between the turns -/
def NumL (n m : Nat) (w : Int) (M : DSt) (i : Nat) (ρ : DEnv) (M1 : DSt) : Prop := ∃ zs : List Int, Grown n M M1 ∧ M1[M.length]? = some (some (zs.map D.int)) ∧ (∀ z ∈ zs, Bn 10 z) ∧ zs.length = i ∧ ρ = [some (.c n), some (.d (.int m)), some (.d (.int w)), some (.c M.length), none, none]
theorem NumL.push {n m i : Nat} {w : Int} {M M1 : DSt} {zs : List Int} {z : Int} (hg : Grown n M M1) (he : M1[M.length]? = some (some (zs.map D.int))) (hz : ∀ z ∈ zs, Bn 10 z) (hl : zs.length = i) (hn : Bn 10 z) :
    NumL n m w M (i + 1) [some (.c n), some (.d (.int m)), some (.d (.int w)), some (.c M.length), none, none] (M1.set M.length (some (zs.map D.int ++ [D.int z]))) := by
  refine ⟨zs ++ [z], hg.put (Nat.le_refl _) _, ?_, ?_, by simp [hl], rfl⟩
  · rw [List.getElem?_set_self (List.getElem?_eq_some_iff.mp he).1]
    simp
  · intro y hy
    rcases List.mem_append.mp hy with hy | hy
    · exact hz y hy
    · simp at hy
      subst hy
      exact hn
def NumE (n m : Nat) (w : Int) (c : Nat) (M : DSt) (o : Out) : Prop := ∃ ρ M1, o = .nx ρ M1 ∧ NumL n m w M c ρ M1
theorem ahd_len {b i j : Nat} : (ahd b i j).length ≤ 3 := by
  unfold ahd
  have p1 : ∀ (c : Prop) [Decidable c] (x : Nat × Nat), (if c then [x] else []).length ≤ 1 := fun c _ x => by split <;> simp
  have := p1 (1 ≤ i ∧ inB b (i - 1) j = true) (i - 1, j)
  have := p1 (1 ≤ j ∧ inB b i (j - 1) = true) (i, j - 1)
  have := p1 (1 ≤ i ∧ 1 ≤ j ∧ inB b (i - 1) (j - 1) = true) (i - 1, j - 1)
  simp only [List.length_append]
  omega
theorem int2 {a c : Int} : intsD [.int a, .int c] = some [a, c] := rfl
def hS (ss : List (List Int)) (b m p q : Nat) : Int := hZ (sqZ (nthZ ss p) (nthZ ss q)) b m m
def sumR (ss : List (List Int)) (b m gap p n : Nat) : List (List Int) := ((List.range n).filter (apartB gap p)).map fun q : Nat => [hS ss b m p q, (q : Int)]
theorem ap_abs {gap p q : Nat} : ((gap : Int) ≤ (if (p : Int) - q < 0 then -((p : Int) - q) else (p : Int) - q)) ↔ apartB gap p q = true := by
  unfold apartB
  rw [decide_eq_true_eq]
  split <;> omega
theorem nth_at {ss : List (List Int)} {p : Nat} (h : p < ss.length) : (rowsD ss)[p]? = some (rowD (nthZ ss p)) := by
  simp [rowsD, nthZ, h]
def minR : List (List Int) → Option (List Int)
  | [] => none
  | x :: r => some (minL x r)
/-- the least one: how far, where -/
def nearB (ss : List (List Int)) (b m gap p n : Nat) : Option (Int × Nat) := (minR (sumR ss b m gap p n)).map fun l => (l.headD 0, (l.getD 1 0).toNat)
theorem minR_form {ss : List (List Int)} {b m gap p n : Nat} {l : List Int} (h : minR (sumR ss b m gap p n) = some l) : ∃ (a : Int) (q : Nat), l = [a, (q : Int)] ∧ nearB ss b m gap p n = some (a, q) := by
  have key : ∃ (a : Int) (q : Nat), l = [a, (q : Int)] := by
    unfold sumR at h
    cases hf : (List.range n).filter (apartB gap p) with
    | nil => rw [hf] at h; cases h
    | cons x r =>
      rw [hf] at h
      simp only [List.map_cons, minR, Option.some.injEq] at h
      obtain ⟨y, _, e, _⟩ := minL_head (f := fun q : Nat => hS ss b m p q) (g := fun q : Nat => [(q : Int)]) r x
      rw [e] at h
      exact ⟨_, _, h.symm⟩
  obtain ⟨a, q, rfl⟩ := key
  exact ⟨a, q, rfl, by simp [nearB, h]⟩
theorem nearB_none {ss : List (List Int)} {b m gap p n : Nat} (h : minR (sumR ss b m gap p n) = none) : sumR ss b m gap p n = [] ∧ nearB ss b m gap p n = none := by
  refine ⟨?_, by simp [nearB, h]⟩
  cases e : sumR ss b m gap p n with
  | nil => rfl
  | cons x r => rw [e] at h; cases h
def rowB (ss : List (List Int)) (b m gap p n : Nat) : D := match nearB ss b m gap p n with
  | none => .tup [.int 0, .int (-1)]
  | some x => .tup [.int x.1, .int x.2]
/-- stretches of one length -/
def Like1 (m : Nat) (ss : List (List Int)) : Prop := Fine 10 ss ∧ ∀ s ∈ ss, s.length = m + 1
theorem like1 {xs : List Int} {m : Nat} (hx : Row 10 xs) : Like1 m (stretchesZ xs (m + 1)) := by
  refine ⟨stretches_fine hx (by omega), fun s hs => ?_⟩
  obtain ⟨p, hp, rfl⟩ := List.mem_map.mp hs
  have := List.mem_range.mp hp
  simp [cutZ]
  omega
theorem Like1.at_ {m p : Nat} {ss : List (List Int)} (h : Like1 m ss) (hp : p < ss.length) : Row 10 (nthZ ss p) ∧ (nthZ ss p).length = m + 1 := by
  have e : nthZ ss p = ss[p] := by simp [nthZ, hp]
  rw [e]
  exact ⟨(h.1.1 _ (List.getElem_mem hp)).1, h.2 _ (List.getElem_mem hp)⟩
theorem filter_fm {α : Type} {P : α → Bool} {f : α → D} : ∀ {l : List α}, l.filterMap (fun a => if P a = true then some (f a) else none) = (l.filter P).map f
  | [] => rfl
  | a :: l => by
    rw [List.filterMap_cons, List.filter_cons]
    cases P a
    · simp [filter_fm]
    · simp [filter_fm]
theorem sums_bk {ss : List (List Int)} {b m gap p n : Nat} : (sumR ss b m gap p n).map (bkD true) = ((List.range n).filter (apartB gap p)).map fun q : Nat => D.tup [.int (hS ss b m p q), .int q] := by
  unfold sumR
  rw [List.map_map]
  rfl
theorem min_R {ss : List (List Int)} {b m gap p n : Nat} {a : Int} {q : Nat} (h : nearB ss b m gap p n = some (a, q)) (M : DSt) : oMinT [.d (.lst ((sumR ss b m gap p n).map (bkD true)))] M = some (.d (.tup [.int a, .int q]), M) := by
  cases e : minR (sumR ss b m gap p n) with
  | none => rw [(nearB_none e).2] at h; cases h
  | some l =>
    obtain ⟨a', q', rfl, h2⟩ := minR_form e
    rw [h] at h2
    cases h2
    cases es : sumR ss b m gap p n with
    | nil => rw [es] at e; cases e
    | cons x r =>
      rw [es] at e
      simp only [oMinT, lv, rowsT_map]
      simp only [minR, Option.some.injEq] at e
      rw [e]
      rfl
abbrev N3 := Int × Nat × Nat
def bD : Option N3 → D
  | none => .non
  | some (t, p, q) => .tup [.int t, .int p, .int q]
def nearT (ss : List (List Int)) (b m gap n p : Nat) : Option N3 := (nearB ss b m gap p n).map fun x => (x.1, p, x.2)
def stepL (lt : Int → Int → Bool) (b : Option N3) (x : N3) : Option N3 := match b with
  | none => some x
  | some y => if lt x.1 y.1 then some x else some y
def bestL (lt : Int → Int → Bool) (ns : List N3) : Option N3 := ns.foldl (stepL lt) none
def nearsL (ss : List (List Int)) (b m gap n k : Nat) : List N3 := (List.range k).filterMap (nearT ss b m gap n)
theorem nears_succ {ss : List (List Int)} {b m gap n k : Nat} : nearsL ss b m gap n (k + 1) = nearsL ss b m gap n k ++ (nearT ss b m gap n k).toList := by
  unfold nearsL
  rw [List.range_succ, List.filterMap_append]
  cases h : nearT ss b m gap n k <;> simp [h]
theorem en_at {n i : Nat} {f : Nat → D} {x : D} (h : (enumD 0 ((List.range n).map f))[i]? = some x) : i < n ∧ x = .tup [.int (i : Int), f i] := by
  obtain ⟨y, h1, rfl⟩ := enumD_at.mp h
  rw [List.getElem?_map, Option.map_eq_some_iff] at h1
  obtain ⟨j, hj, rfl⟩ := h1
  obtain ⟨hl, e⟩ := List.getElem?_eq_some_iff.mp hj
  simp at hl e
  subst e
  exact ⟨hl, by simp⟩
theorem en_len {n : Nat} {f : Nat → D} : (enumD 0 ((List.range n).map f)).length = n := by rw [enumD_len]; simp
theorem cut_stretch {xs : List Int} {l p : Nat} (h : p + l ≤ xs.length) : cutD (xs.map D.int) (some (p : Int)) (some ((p : Int) + (l : Int))) = (cutZ xs l p).map D.int := cutD_map h
def rf (g l b : Int) : Option String := if ¬ (1 ≤ g ∧ g ≤ 200) then some "NoGap" else if ¬ (0 ≤ b ∧ b ≤ 40) then some "NoBand" else if ¬ (1 ≤ l ∧ l ≤ 40) then some "NoLength" else none
def wordB (c : String) : PySem.Str := if c = "NoGap" then "gap" else if c = "NoBand" then "band" else "length"
theorem rf_mem {g l b : Int} {c : String} (h : rf g l b = some c) : c ∈ ["NoBand", "NoGap", "NoLength"] := by
  unfold rf at h
  split at h
  · cases h; decide
  · split at h
    · cases h; decide
    · split at h
      · cases h; decide
      · cases h
theorem bD_plain {o : Option N3} : plainB 1 (bD o) = true := by
  cases o with
  | none => rfl
  | some x => rfl
theorem bD_shp {o : Option N3} {n : Nat} : (bD o).shp (n + 1) = true := by
  cases o with
  | none => cases n <;> rfl
  | some x => simp [bD, D.shp]
theorem way_by_eq {M : DSt} {sq : Nat → Nat → Int} {b m n : Nat} {g : Nat → Nat → D} (hg : ∀ i j, i ≤ m → j ≤ n → inB b i j = true → g i j = .int (hZ sq b i j)) (hb : inB b m n = true) (hm : m ≤ 100) (hn : n ≤ 100) : ∃ W, Wl sq b W m n (hZ sq b m n) ∧ f_way_by [.d (matD (m + 1) (n + 1) g), .d (.int b)] M = some (.c M.length, M ++ [some (W.map prD)]) := by
  suffices h : Ok (f_way_by [.d (matD (m + 1) (n + 1) g), .d (.int b)] M) fun p => ∃ W, Wl sq b W m n (hZ sq b m n) ∧ p = (.c M.length, M ++ [some (W.map prD)]) by
    obtain ⟨p, e, W, h1, rfl⟩ := h
    exact ⟨W, h1, e⟩
  unfold f_way_by
  rw [ok_fn]
  have ma := fun i hi => mat_at (m := m + 1) (n := n + 1) (g := g) (i := i) hi
  have m0 : atD ((List.range (m + 1)).map fun i => D.lst (rowG (n + 1) g i)) 0 = some (.lst (rowG (n + 1) g 0)) := ok_eq ((ok_atN (k := 0) (ma 0 (by omega))).mpr rfl)
  have ml : ((List.range (m + 1)).map fun i => D.lst (rowG (n + 1) g i)).length = m + 1 := by simp
  simp [b_way_by, startD, -seqP_nx, matD, ↓okE m0, rowG_len]
  refine seqP_nx.mpr ?_
  have e1 : ((m : Int) + 1 - 1) = (m : Int) := by omega
  have e2 : ((n : Int) + 1 - 1) = (n : Int) := by omega
  rw [ok_seq]
  let env : DEnv := [some (.d (.lst ((List.range (m + 1)).map fun i => D.lst (rowG (n + 1) g i)))), some (.d (.int b)), some (.c M.length), none, none, none]
  refine while_by (WyI sq b m n M env) (m + n) ⟨[], m, n, rfl, hb, by omega, by omega, by simp, Tl.start, by simp [prD], rfl⟩ ?_
  rintro k ρ M' ⟨R, i, j, rfl, hij, hi, hj, hR, hT, rfl, rfl⟩
  have hcl : (M ++ [some (R.map prD ++ [prD (i, j)])])[M.length]? = some (some (R.map prD ++ [prD (i, j)])) := by simp
  have la : atD (R.map prD ++ [prD (i, j)]) (-1) = some (prD (i, j)) := lastAt
  have s1 : (prD (i, j)).shp 9 = true := by simp [prD, D.shp]
  have s2 : (D.tup [.int 0, .int 0]).shp 9 = true := rfl
  by_cases h0 : i = 0 ∧ j = 0
  · obtain ⟨rfl, rfl⟩ := h0
    have ev : D.eqv (prD (0, 0)) (.tup [.int 0, .int 0]) = true := by simp [prD, D.eqv, D.eqvs]
    have rv : oRev true (.c M.length) (M ++ [some (R.map prD ++ [prD (0, 0)])]) = some (.c (M.length + 1), (M ++ [some (R.map prD ++ [prD (0, 0)])]) ++ [some (R.map prD ++ [prD (0, 0)]).reverse]) := by
      simp [oRev, sv, lv, mkL]
    have hc2 : ((M ++ [some (R.map prD ++ [prD (0, 0)])]) ++ [some (R.map prD ++ [prD (0, 0)]).reverse])[M.length + 1]? = some (some (R.map prD ++ [prD (0, 0)]).reverse) := by
      rw [List.getElem?_append_right (by simp)]
      simp
    simp [env, celOk hcl, ↓okE la, ↓ok_neD s1 s2, ev]
    rw [okE rv]
    refine (ok_finC (Nat.le_succ _) hc2).mpr ⟨_, hT.done, ?_⟩
    simp
  · have ev : D.eqv (prD (i, j)) (.tup [.int 0, .int 0]) = false := by
      simp [prD, D.eqv, D.eqvs]
      omega
    have pa := fun M => places_ahead_ok (M := M) (i := i) (j := j) (b := b)
    have l0 : atD [D.int (i : Int), .int (j : Int)] 0 = some (.int i) := rfl
    have l1 : atD [D.int (i : Int), .int (j : Int)] 1 = some (.int j) := rfl
    have pl0 : ∀ M, oIx (.d (prD (i, j))) (.d (.int 0)) M = some (.d (.int i), M) := fun M => by simp [oIx, prD, sv, ixD]
    have pl1 : ∀ M, oIx (.d (prD (i, j))) (.d (.int 1)) M = some (.d (.int j), M) := fun M => by simp [oIx, prD, sv, ixD]
    simp [env, celOk hcl, ↓okE la, ↓ok_neD s1 s2, ev, -seqP_nx, ↓okE (pl0 _), ↓okE (pl1 _), ↓okE (pa _), ↓ok_frz rfl]
    have ne := ahd_ne hij h0
    have am := fun x => ahd_mem (b := b) (i := i) (j := j) (x := x)
    have tst := fun y hy hl => hT.step (a := (y : Nat × Nat).1) (c := y.2) hy hij (least_ahd hy hl)
    have ql : (ahd b i j).length ≤ 3 := by
      unfold ahd
      have p1 : ∀ (c : Prop) [Decidable c] (x : Nat × Nat), (if c then [x] else []).length ≤ 1 := fun c _ x => by split <;> simp
      have := p1 (1 ≤ i ∧ inB b (i - 1) j = true) (i - 1, j)
      have := p1 (1 ≤ j ∧ inB b i (j - 1) = true) (i, j - 1)
      have := p1 (1 ≤ i ∧ 1 ≤ j ∧ inB b (i - 1) (j - 1) = true) (i - 1, j - 1)
      simp only [List.length_append]
      omega
    generalize ahd b i j = A at *
    have fz : frz (M.length + 1) (Dv.c (M.length + 1), M ++ [some (R.map prD ++ [prD (i, j)]), some (A.map prD)]) = some (.d (.lst (A.map prD)), M ++ [some (R.map prD ++ [prD (i, j)])]) := by
      simp [frz, lv]
      have : M ++ [some (R.map prD ++ [prD (i, j)]), some (A.map prD)] = (M ++ [some (R.map prD ++ [prD (i, j)])]) ++ [some (A.map prD)] := by simp
      rw [this]
      exact List.take_left' (by simp)
    rw [okE fz]
    simp only [sv, lv, ok_some]
    refine ⟨by rw [List.length_map]; omega, ?_⟩
    refine comp_map (fun x : Nat × Nat => bkD true (hZ sq b x.1 x.2 :: [(x.1 : Int), (x.2 : Int)])) (by simp) ?_ ?_
    · intro x hx
      have := am x hx
      have r1 := ma x.1 (by omega)
      have r2 := rowG_at (n := n + 1) (i := x.1) (j := x.2) (g := g) (by omega)
      rw [hg x.1 x.2 (by omega) (by omega) this.1] at r2
      simp [prD, ok_atN r1, ok_atN r2, bkD]
    cases A with
    | nil => exact absurd rfl ne
    | cons z A =>
      obtain ⟨y, y1, y2, y3⟩ := minL_head (f := fun x : Nat × Nat => hZ sq b x.1 x.2) (g := fun x : Nat × Nat => [(x.1 : Int), (x.2 : Int)]) A z
      have om : ∀ M, oMinT [.d (.lst ((z :: A).map fun x : Nat × Nat => bkD true (hZ sq b x.1 x.2 :: [(x.1 : Int), (x.2 : Int)])))] M = some (.d (.tup [.int (hZ sq b y.1 y.2), .int y.1, .int y.2]), M) := by
        intro M
        have e : ((z :: A).map fun x : Nat × Nat => bkD true (hZ sq b x.1 x.2 :: [(x.1 : Int), (x.2 : Int)])) = ((hZ sq b z.1 z.2 :: [(z.1 : Int), (z.2 : Int)]) :: A.map fun x : Nat × Nat => hZ sq b x.1 x.2 :: [(x.1 : Int), (x.2 : Int)]).map (bkD true) := by simp
        rw [e]
        simp only [oMinT, lv, rowsT_map]
        rw [y2]
        rfl
      have ct : cutD [D.int (hZ sq b y.1 y.2), .int y.1, .int y.2] (some 1) none = [.int y.1, .int y.2] := by simp [cutD, sIxD]
      have := am y y1
      refine seqP_nx.mpr ?_
      simp [↓okE (om _), ct, celOk hcl, -List.map_cons]
      refine ⟨by omega, y.1 + y.2, by omega, R ++ [(i, j)], y.1, y.2, rfl, this.1, by omega, by omega, by simp; omega, tst y y1 y3, by simp [prD], rfl⟩
theorem bent_paper_eq {M : DSt} {xs ys : List Int} {b m n : Nat} (hx : Row 10 xs) (hy : Row 10 ys) (hm : xs.length = m + 1) (hn : ys.length = n + 1) (hm2 : m < 40) (hn2 : n < 40) (hb : b ≤ 40) :
    (inB b m n = false → f_bent_paper [.d (rowD xs), .d (rowD ys), .d (.int b)] M = some (.d .non, M)) ∧
    (inB b m n = true → ∃ W G, Wl (sqZ xs ys) b W m n (hZ (sqZ xs ys) b m n) ∧ f_bent_paper [.d (rowD xs), .d (rowD ys), .d (.int b)] M = some (.d (.tup [.int (hZ (sqZ xs ys) b m n), .lst (W.map prD), G]), M)) := by
  have e1 := fun M => must_lists_eq (M := M) (xs := xs) (ys := ys) (b := b) (by omega) (by omega) (by omega) (by omega) hb
  have e2 := fun M => least_sums_eq (M := M) hx hy (b := b) (by omega)
  rw [hm, hn] at e2
  simp only [rowD] at e1 e2
  constructor
  · intro h
    apply ok_eq
    unfold f_bent_paper
    rw [ok_fn]
    have hc : (b : Int) < (if ((m : Int) + 1) - ((n : Int) + 1) < 0 then -(((m : Int) + 1) - ((n : Int) + 1)) else ((m : Int) + 1) - ((n : Int) + 1)) := by
      unfold inB at h
      rw [decide_eq_false_iff_not] at h
      split <;> omega
    simp [b_bent_paper, startD, rowD, ↓okE (e1 _), hm, hn, hc]
  · intro h
    have hc : ¬ (b : Int) < (if ((m : Int) + 1) - ((n : Int) + 1) < 0 then -(((m : Int) + 1) - ((n : Int) + 1)) else ((m : Int) + 1) - ((n : Int) + 1)) := by
      have h' := h
      unfold inB at h'
      rw [decide_eq_true_eq] at h'
      split <;> omega
    have wb := fun M => way_by_eq (M := M) (sq := sqZ xs ys) (b := b) (m := m) (n := n) (g := gD (hZ (sqZ xs ys) b) b (m + 1) 0) (fun i j hi hj hij => by
      unfold gD
      rw [if_pos ⟨hij, by omega⟩]) h (by omega) (by omega)
    obtain ⟨W, hW, e3⟩ := wb M
    refine ⟨W, matD (m + 1) (n + 1) (gD (hZ (sqZ xs ys) b) b (m + 1) 0), hW, ?_⟩
    apply ok_eq
    unfold f_bent_paper
    rw [ok_fn]
    have a1 : atD ((List.range (m + 1)).map fun i => D.lst (rowG (n + 1) (gD (hZ (sqZ xs ys) b) b (m + 1) 0) i)) (-1) = some (.lst (rowG (n + 1) (gD (hZ (sqZ xs ys) b) b (m + 1) 0) m)) := atLast (k := m) (by simp) (mat_at (by omega))
    have a2 : atD (rowG (n + 1) (gD (hZ (sqZ xs ys) b) b (m + 1) 0) m) (-1) = some (.int (hZ (sqZ xs ys) b m n)) := by
      refine atLast (k := n) (by simp [rowG]) ?_
      rw [rowG_at (by omega)]
      unfold gD
      rw [if_pos ⟨h, by omega⟩]
    simp only [matD] at e2 e3
    simp [b_bent_paper, startD, rowD, ↓okE (e1 _), hm, hn, hc, ↓okE (e2 _), ↓okE a1, ↓okE a2, ↓okE e3, ↓ok_frz rfl, matD]
theorem bent_way_eq {M : DSt} {xs ys : List Int} {b m n : Nat} (hx : Row 10 xs) (hy : Row 10 ys) (hm : xs.length = m + 1) (hn : ys.length = n + 1) (hm2 : m < 40) (hn2 : n < 40) (hb : b ≤ 40) :
    (inB b m n = false → f_bent_way [.d (rowD xs), .d (rowD ys), .d (.int b)] M = some (.d .non, M)) ∧
    (inB b m n = true → ∃ W, Wl (sqZ xs ys) b W m n (hZ (sqZ xs ys) b m n) ∧ f_bent_way [.d (rowD xs), .d (rowD ys), .d (.int b)] M = some (.d (.tup [.int (hZ (sqZ xs ys) b m n), .lst (W.map prD)]), M)) := by
  obtain ⟨p1, p2⟩ := bent_paper_eq (M := M) hx hy hm hn hm2 hn2 hb
  constructor
  · intro h
    apply ok_eq
    unfold f_bent_way
    rw [ok_fn]
    simp [b_bent_way, startD, ↓okE (p1 h)]
  · intro h
    obtain ⟨W, G, hW, e⟩ := p2 h
    refine ⟨W, hW, ?_⟩
    apply ok_eq
    unfold f_bent_way
    rw [ok_fn]
    have ct : cutD [D.int (hZ (sqZ xs ys) b m n), .lst (W.map prD), G] none (some 2) = [D.int (hZ (sqZ xs ys) b m n), .lst (W.map prD)] := by simp [cutD, sIxD]
    simp [b_bent_way, startD, ↓okE e, ct]
theorem _root_.Rw.Wl.first {sq : Nat → Nat → Int} {b i j : Nat} {W : List (Nat × Nat)} {s : Int} (h : Wl sq b W i j s) : W[0]? = some (0, 0) := by
  induction h with
  | start => rfl
  | step w _ _ ih =>
    rw [List.getElem?_append_left (List.getElem?_eq_some_iff.mp ih).1]
    exact ih
theorem _root_.Rw.Wl.mem {sq : Nat → Nat → Int} {b i j : Nat} {W : List (Nat × Nat)} {s : Int} (h : Wl sq b W i j s) : ∀ x ∈ W, x.1 ≤ i ∧ x.2 ≤ j := by
  induction h with
  | start => intro x hx; simp at hx; subst hx; simp
  | step w hm _ ih =>
    have := ahd_mem hm
    intro x hx
    rcases List.mem_append.mp hx with hx | hx
    · have := ih x hx
      omega
    · simp at hx; subst hx; simp
theorem _root_.Rw.Wl.len {sq : Nat → Nat → Int} {b i j : Nat} {W : List (Nat × Nat)} {s : Int} (h : Wl sq b W i j s) : W.length ≤ i + j + 1 := by
  induction h with
  | start => simp
  | step w hm _ ih =>
    have := (ahd_mem hm).2.2.2
    simp only at this
    simp
    omega
theorem _root_.Rw.Wl.steps {sq : Nat → Nat → Int} {b i j : Nat} {W : List (Nat × Nat)} {s : Int} (h : Wl sq b W i j s) : ∀ k x y, W[k]? = some x → W[k + 1]? = some y → x ∈ ahd b y.1 y.2 ∧ inB b y.1 y.2 = true := by
  induction h with
  | start => intro k x y _ h2; simp at h2
  | step w hm hb ih =>
    intro k x y h1 h2
    obtain ⟨W', rfl⟩ := w.last
    rename_i a c i j s
    by_cases hk : k + 1 < (W' ++ [(a, c)]).length
    · rw [List.getElem?_append_left (by omega)] at h1
      rw [List.getElem?_append_left hk] at h2
      exact ih k x y h1 h2
    · have hk2 : k = W'.length := by
        have := (List.getElem?_eq_some_iff.mp h2).1
        simp at this hk
        omega
      subst hk2
      simp at h1 h2
      subst h1 h2
      exact ⟨hm, hb⟩
theorem _root_.Rw.Wl.sum {sq : Nat → Nat → Int} {b i j : Nat} {W : List (Nat × Nat)} {s : Int} (h : Wl sq b W i j s) : (W.map fun x => sq x.1 x.2).sum = s := by
  induction h with
  | start => simp
  | step w _ _ ih =>
    rw [List.map_append, List.sum_append, ih]
    simp
theorem prD_shp {x : Nat × Nat} {n : Nat} : (prD x).shp (n + 1) = true := by simp [prD, D.shp]
theorem eqv_pr {x y : Nat × Nat} : D.eqv (prD x) (prD y) = decide (x = y) := by
  obtain ⟨a, c⟩ := x
  obtain ⟨d, e⟩ := y
  by_cases h1 : a = d
  · subst h1
    by_cases h2 : c = e
    · subst h2; simp [prD, D.eqv, D.eqvs]
    · have : ¬ (c : Int) = e := by omega
      simp [prD, D.eqv, D.eqvs, h2, this]
  · have : ¬ (a : Int) = d := by omega
    simp [prD, D.eqv, D.eqvs, h1, this]
theorem in_prs {x : Nat × Nat} {L : List (Nat × Nat)} {M : DSt} : oInD true (.d (prD x)) (.d (.lst (L.map prD))) M = some (.d (.bl (!decide (x ∈ L))), M) := by
  have h1 : (D.lst (L.map prD)).shp 9 = true := by
    simp only [D.shp, List.all_map, List.all_eq_true]
    intro y _
    exact prD_shp
  simp only [oInD, dv]
  rw [grd_ok ⟨prD_shp, h1⟩]
  have : ((L.map prD).any fun b => D.eqv b (prD x)) = decide (x ∈ L) := by
    rw [List.any_map]
    induction L with
    | nil => rfl
    | cons a l ih =>
      rw [List.any_cons, ih (by simp only [D.shp, List.all_map, List.all_eq_true]; intro y _; exact prD_shp)]
      simp only [Function.comp_apply, eqv_pr, List.mem_cons]
      by_cases h : x = a
      · simp [h]
      · have h' : ¬ a = x := fun e => h e.symm
        simp [h, h']
  rw [this]
  simp
def rfL (a c b : Int) : Option String := if ¬ (0 ≤ b ∧ b ≤ 40) then some "NoBand" else if ¬ (1 ≤ a ∧ a ≤ 40) then some "NoLength" else if ¬ (1 ≤ c ∧ c ≤ 40) then some "NoLength" else none
theorem map_take {M : DSt} {o : Option String} {n : Nat} {as : List Dv} : ((o.map fun c => (c, M)).map fun r : String × DSt => (r.1, startD n as, r.2)).map (fun r => (r.1, r.2.2.take M.length)) = o.map fun c => (c, M) := by
  cases o <;> simp
/-- the paper that is handed in -/
def pap : D := .tup [.int 0, .lst [.tup [.int 0, .int 0]], .lst [.lst [.int 0]]]
def wordL (c : String) : PySem.Str := if c = "NoBand" then "band" else "length"
end Lk95
end PUk95
section PWk95
set_option Elab.async false
set_option linter.all false
set_option maxRecDepth 100000
set_option maxHeartbeats 4000000
namespace Lk95
open PySem PySem.Spec PyProof.Rows L2 Rw
def topS (i : Nat) : Stmt := PySem.Challenge.pw_rowecho_k95_whole_bent_papers.main.body.getD i (.Pass ⟨0, 0, 0, 0⟩)
abbrev s__law_mixed : Stmt := topS 22
abbrev s__law_purse : Stmt := topS 23
abbrev s__law_draw : Stmt := topS 24
abbrev s__law_lists : Stmt := topS 25
abbrev s_must_band : Stmt := topS 9
abbrev s_must_length : Stmt := topS 6
abbrev s_must_lists : Stmt := topS 10
abbrev s_square_at : Stmt := topS 11
abbrev s_places_ahead : Stmt := topS 12
abbrev s_least_sums : Stmt := topS 13
abbrev s_way_by : Stmt := topS 14
abbrev s_bent_paper : Stmt := topS 15
abbrev s_bent_way : Stmt := topS 16
abbrev s__law_drawn_sum : Stmt := topS 26
abbrev s_heights_hold : Stmt := topS 19
abbrev s_is_way : Stmt := topS 17
abbrev s_are_heights : Stmt := topS 18
abbrev s_shows_bent : Stmt := topS 20
abbrev s_law : Stmt := topS 27
theorem sc__law_mixed : FnScope ["_law_cell", "_law_k", "_law_number"] ["_law_cell", "_law_k"] (defScope s__law_mixed) := ⟨rfl, rfl, rfl, by decide +kernel, rfl, by decide +kernel, by decide +kernel⟩
theorem sc__law_purse : FnScope ["_law_script", "_law_cells", "_law_number", "_law_k"] ["_law_script"] (defScope s__law_purse) := ⟨rfl, rfl, rfl, by decide +kernel, rfl, by decide +kernel, by decide +kernel⟩
theorem sc__law_draw : FnScope ["_law_purse_here", "_law_out_of", "_law_drawn"] ["_law_purse_here", "_law_out_of"] (defScope s__law_draw) := ⟨rfl, rfl, rfl, by decide +kernel, rfl, by decide +kernel, by decide +kernel⟩
theorem sc__law_lists : FnScope ["_law_purse_here", "_law_most", "_law_width", "_law_one", "_law_other", "_law_number", "_law_k"] ["_law_purse_here", "_law_most"] (defScope s__law_lists) := ⟨rfl, rfl, rfl, by decide +kernel, rfl, by decide +kernel, by decide +kernel⟩
theorem sc_must_band : FnScope ["band"] ["band"] (defScope s_must_band) := ⟨rfl, rfl, rfl, by decide +kernel, rfl, by decide +kernel, by decide +kernel⟩
theorem sc_must_length : FnScope ["length"] ["length"] (defScope s_must_length) := ⟨rfl, rfl, rfl, by decide +kernel, rfl, by decide +kernel, by decide +kernel⟩
theorem sc_must_lists : FnScope ["one", "other", "band"] ["one", "other", "band"] (defScope s_must_lists) := ⟨rfl, rfl, rfl, by decide +kernel, rfl, by decide +kernel, by decide +kernel⟩
theorem sc_square_at : FnScope ["one", "other", "i", "j"] ["one", "other", "i", "j"] (defScope s_square_at) := ⟨rfl, rfl, rfl, by decide +kernel, rfl, by decide +kernel, by decide +kernel⟩
theorem sc_places_ahead : FnScope ["i", "j", "band", "found", "up", "over"] ["i", "j", "band"] (defScope s_places_ahead) := ⟨rfl, rfl, rfl, by decide +kernel, rfl, by decide +kernel, by decide +kernel⟩
theorem sc_least_sums : FnScope ["one", "other", "band", "found", "i", "j", "before", "number", "a", "b"] ["one", "other", "band"] (defScope s_least_sums) := ⟨rfl, rfl, rfl, by decide +kernel, rfl, by decide +kernel, by decide +kernel⟩
theorem sc_way_by : FnScope ["sums", "band", "way", "ahead", "a", "b"] ["sums", "band"] (defScope s_way_by) := ⟨rfl, rfl, rfl, by decide +kernel, rfl, by decide +kernel, by decide +kernel⟩
theorem sc_bent_paper : FnScope ["one", "other", "band", "sums"] ["one", "other", "band"] (defScope s_bent_paper) := ⟨rfl, rfl, rfl, by decide +kernel, rfl, by decide +kernel, by decide +kernel⟩
theorem sc_bent_way : FnScope ["one", "other", "band", "found"] ["one", "other", "band"] (defScope s_bent_way) := ⟨rfl, rfl, rfl, by decide +kernel, rfl, by decide +kernel, by decide +kernel⟩
theorem sc__law_drawn_sum : FnScope ["_law_purse_here", "_law_one", "_law_other", "_law_band", "_law_i", "_law_j", "_law_total", "_law_up", "_law_over"] ["_law_purse_here", "_law_one", "_law_other", "_law_band"] (defScope s__law_drawn_sum) := ⟨rfl, rfl, rfl, by decide +kernel, rfl, by decide +kernel, by decide +kernel⟩
theorem sc_heights_hold : FnScope ["one", "other", "band", "heights", "i", "row", "j", "height", "square", "a", "b"] ["one", "other", "band", "heights"] (defScope s_heights_hold) := ⟨rfl, rfl, rfl, by decide +kernel, rfl, by decide +kernel, by decide +kernel⟩
theorem sc_is_way : FnScope ["one", "other", "band", "way", "i", "j", "a", "b"] ["one", "other", "band", "way"] (defScope s_is_way) := ⟨rfl, rfl, rfl, by decide +kernel, rfl, by decide +kernel, by decide +kernel⟩
theorem sc_are_heights : FnScope ["one", "other", "band", "heights", "i", "row", "j", "height"] ["one", "other", "band", "heights"] (defScope s_are_heights) := ⟨rfl, rfl, rfl, by decide +kernel, rfl, by decide +kernel, by decide +kernel⟩
theorem sc_shows_bent : FnScope ["one", "other", "band", "paper", "total", "way", "heights", "i", "j"] ["one", "other", "band", "paper"] (defScope s_shows_bent) := ⟨rfl, rfl, rfl, by decide +kernel, rfl, by decide +kernel, by decide +kernel⟩
theorem sc_law : FnScope ["_law_script", "_law_purse_here", "_law_one", "_law_other", "_law_band", "_law_found", "_law_shown", "_law_k", "_law_total", "_law_i", "_law_heights", "_law_marks", "_law_again", "_law_height"] ["_law_script"] (defScope s_law) := ⟨rfl, rfl, rfl, by decide +kernel, rfl, by decide +kernel, by decide +kernel⟩
section
variable {P : Program} {w : World} {K : PySem.W.Frag} {mg : Str → Option Value} {base : Heap}
theorem ok__law_mixed {f : Addr} {fd : FuncData} (F : Fun K "_law_mixed" "_law_mixed" s__law_mixed f fd)  :
    FnOk P w K mg base CX0 1 f fd ["_law_cell", "_law_k"] (spD K f__law_mixed 2) := by
  refine fn_ok F sc__law_mixed fun cdv A outer s H E hr => ?_
  have nd := sc__law_mixed.nd
  exact (b_cons (s_set 2 nd (d_mod (d_mulU false (d_add false (d_add false (d_add false (d_mulU false (d_var 0) (d_var 0)) (d_mulU false d_int (d_var 0))) (d_mulU false d_int (d_var 1))) d_int) d_int) d_int))
    (b_cons (s_set 2 nd (d_mod (d_add false (d_mulU false (d_var 2) (d_var 2)) d_int) d_int))
    (b_one (s_ret (d_mod (d_mulU false (d_var 2) (d_add false (d_var 2) d_int)) d_int)))))
theorem ok__law_purse {f : Addr} {fd : FuncData} (F : Fun K "_law_purse" "_law_purse" s__law_purse f fd) (h__law_mixed : Has P w K mg base "_law_mixed" 1 2 f__law_mixed) (z_len : mg "len" = none) (z_range : mg "range" = none) :
    FnOk P w K mg base CX0 2 f fd ["_law_script"] (spD K f__law_purse 1) := by
  refine fn_ok F sc__law_purse fun cdv A outer s H E hr => ?_
  have nd := sc__law_purse.nd
  exact (b_cons (s_set 1 nd (d_add false (d_slU false (d_var 0) o_none (o_some d_int)) (d_lst false (a_cons d_int a_nil))))
    (b_cons (s_set 2 nd d_int)
    (b_cons (s_for (i_r1 z_range (a_cons d_int a_nil)) (g_name 3 nd) (b_wipe [3] (b_one (s_set 2 nd (d_add false (d_mulU false (d_var 2) d_int) (d_def h__law_mixed hr (a_cons (d_ix (d_var 1) (d_mod (d_var 3) (d_len z_len (a_cons (d_var 1) a_nil)))) (a_cons (d_var 3) a_nil))))))))
    (b_cons (s_if (t_cmp k_ge (d_ix (d_var 1) d_int) (d_pow d_int d_int)) (b_one (s_ret (d_lst true (a_cons (d_div (d_ix (d_var 1) d_int) (d_pow d_int d_int)) (a_cons (d_var 2) a_nil))))) b_nil)
    (b_one (s_ret (d_lst true (a_cons (d_var 2) (a_cons (d_var 2) a_nil)))))))))
theorem ok__law_draw {f : Addr} {fd : FuncData} (F : Fun K "_law_draw" "_law_draw" s__law_draw f fd)  :
    FnOk P w K mg base CX0 1 f fd ["_law_purse_here", "_law_out_of"] (spD K f__law_draw 2) := by
  refine fn_ok F sc__law_draw fun cdv A outer s H E hr => ?_
  have nd := sc__law_draw.nd
  exact (b_cons (s_if (t_cmp (k_eq hr) (d_ix (d_var 0) d_int) d_int) (b_one (s_put (d_var 0) d_int (d_ix (d_var 0) d_int))) b_nil)
    (b_cons (s_set 2 nd (d_mod (d_ix (d_var 0) d_int) (d_var 1)))
    (b_cons (s_put (d_var 0) d_int (d_div (d_ix (d_var 0) d_int) (d_var 1)))
    (b_one (s_ret (d_var 2))))))
theorem ok__law_lists {f : Addr} {fd : FuncData} (F : Fun K "_law_lists" "_law_lists" s__law_lists f fd) (h__law_draw : Has P w K mg base "_law_draw" 1 2 f__law_draw) (z_range : mg "range" = none) :
    FnOk P w K mg base CX0 2 f fd ["_law_purse_here", "_law_most"] (spD K f__law_lists 2) := by
  refine fn_ok F sc__law_lists fun cdv A outer s H E hr => ?_
  have nd := sc__law_lists.nd
  exact (b_cons (s_set 2 nd (d_ix (d_lst false (a_cons d_int (a_cons d_int (a_cons d_int (a_cons d_int (a_cons (d_sub (d_pow d_int d_int) d_int) a_nil)))))) (d_def h__law_draw hr (a_cons (d_var 0) (a_cons d_int a_nil)))))
    (b_cons (s_setLc 3 false [("_law_k", 6)] nd (i_r1 z_range (a_cons (d_add false d_int (d_def h__law_draw hr (a_cons (d_var 0) (a_cons (d_var 1) a_nil)))) a_nil)) (by kernel_rfl) (fun _ _ _ _ _ => (g_name 6 nd)) (fun _ _ _ _ _ => c_nil) (fun _ _ _ _ _ => (d_sub (d_def h__law_draw hr (a_cons (d_var 0) (a_cons (d_add false (d_mulU false d_int (d_var 2)) d_int) a_nil))) (d_var 2))) (sw_true rfl rfl rfl (by decide +kernel)))
    (b_cons (s_setLc 4 false [("_law_k", 6)] nd (i_r1 z_range (a_cons (d_add false d_int (d_def h__law_draw hr (a_cons (d_var 0) (a_cons (d_var 1) a_nil)))) a_nil)) (by kernel_rfl) (fun _ _ _ _ _ => (g_name 6 nd)) (fun _ _ _ _ _ => c_nil) (fun _ _ _ _ _ => (d_sub (d_def h__law_draw hr (a_cons (d_var 0) (a_cons (d_add false (d_mulU false d_int (d_var 2)) d_int) a_nil))) (d_var 2))) (sw_true rfl rfl rfl (by decide +kernel)))
    (b_cons (s_if (t_cmp (k_eq hr) (d_def h__law_draw hr (a_cons (d_var 0) (a_cons d_int a_nil))) d_int) (b_cons (s_set 4 nd (d_lst false a_nil))
      (b_cons (s_for (i_seq (d_var 3)) (g_name 5 nd) (b_wipe [5] (b_one (s_set 4 nd (d_add false (d_var 4) (d_mulU false (d_lst false (a_cons (d_var 5) a_nil)) (d_add false d_int (d_def h__law_draw hr (a_cons (d_var 0) (a_cons d_int a_nil))))))))))
      (b_one (s_set 4 nd (d_slU false (d_var 4) o_none (o_some (d_var 1))))))) b_nil)
    (b_one (s_ret (d_tup (a_cons (d_var 3) (a_cons (d_var 4) a_nil)))))))))
theorem ok_must_band {f : Addr} {fd : FuncData} (F : Fun K "must_band" "must_band" s_must_band f fd) {u_MOST_LENGTH : Value} {vv_MOST_LENGTH : V} (m_MOST_LENGTH : mg "MOST_LENGTH" = some u_MOST_LENGTH) (r_MOST_LENGTH : RelV vv_MOST_LENGTH u_MOST_LENGTH) (q_MOST_LENGTH : ∀ G, Rv K G vv_MOST_LENGTH v_MOST_LENGTH) :
    FnOk P w K mg base CX0 1 f fd ["band"] (spD K f_must_band 1) := by
  refine fn_ok F sc_must_band fun cdv A outer s H E hr => ?_
  have nd := sc_must_band.nd
  exact (b_one (s_if (t_not (t_chain k_le k_le d_int (d_var 0) (d_glob rfl m_MOST_LENGTH r_MOST_LENGTH q_MOST_LENGTH))) (b_one s_never) b_nil))
theorem ok_must_length {f : Addr} {fd : FuncData} (F : Fun K "must_length" "must_length" s_must_length f fd) {u_MOST_LENGTH : Value} {vv_MOST_LENGTH : V} (m_MOST_LENGTH : mg "MOST_LENGTH" = some u_MOST_LENGTH) (r_MOST_LENGTH : RelV vv_MOST_LENGTH u_MOST_LENGTH) (q_MOST_LENGTH : ∀ G, Rv K G vv_MOST_LENGTH v_MOST_LENGTH) :
    FnOk P w K mg base CX0 1 f fd ["length"] (spD K f_must_length 1) := by
  refine fn_ok F sc_must_length fun cdv A outer s H E hr => ?_
  have nd := sc_must_length.nd
  exact (b_one (s_if (t_not (t_chain k_le k_le d_int (d_var 0) (d_glob rfl m_MOST_LENGTH r_MOST_LENGTH q_MOST_LENGTH))) (b_one s_never) b_nil))
theorem ok_must_lists {f : Addr} {fd : FuncData} (F : Fun K "must_lists" "must_lists" s_must_lists f fd) (h_must_band : Has P w K mg base "must_band" 1 1 f_must_band) (h_must_length : Has P w K mg base "must_length" 1 1 f_must_length) (z_len : mg "len" = none) :
    FnOk P w K mg base CX0 2 f fd ["one", "other", "band"] (spD K f_must_lists 3) := by
  refine fn_ok F sc_must_lists fun cdv A outer s H E hr => ?_
  have nd := sc_must_lists.nd
  exact (b_cons (s_expr (d_def h_must_band hr (a_cons (d_var 2) a_nil)))
    (b_cons (s_expr (d_def h_must_length hr (a_cons (d_len z_len (a_cons (d_var 0) a_nil)) a_nil)))
    (b_one (s_expr (d_def h_must_length hr (a_cons (d_len z_len (a_cons (d_var 1) a_nil)) a_nil))))))
theorem ok_square_at {f : Addr} {fd : FuncData} (F : Fun K "square_at" "square_at" s_square_at f fd)  :
    FnOk P w K mg base CX0 1 f fd ["one", "other", "i", "j"] (spD K f_square_at 4) := by
  refine fn_ok F sc_square_at fun cdv A outer s H E hr => ?_
  have nd := sc_square_at.nd
  exact (b_one (s_ret (d_mulU false (d_sub (d_ix (d_var 0) (d_var 2)) (d_ix (d_var 1) (d_var 3))) (d_sub (d_ix (d_var 0) (d_var 2)) (d_ix (d_var 1) (d_var 3))))))
theorem ok_places_ahead {f : Addr} {fd : FuncData} (F : Fun K "places_ahead" "places_ahead" s_places_ahead f fd) (z_abs : mg "abs" = none) {u_STEPS : Value} {vv_STEPS : V} (m_STEPS : mg "STEPS" = some u_STEPS) (r_STEPS : RelV vv_STEPS u_STEPS) (q_STEPS : ∀ G, Rv K G vv_STEPS v_STEPS) :
    FnOk P w K mg base CX0 1 f fd ["i", "j", "band"] (spD K f_places_ahead 3) := by
  refine fn_ok F sc_places_ahead fun cdv A outer s H E hr => ?_
  have nd := sc_places_ahead.nd
  exact (b_cons (s_set 3 nd (d_lst true a_nil))
    (b_cons (s_for (i_seq (d_glob rfl m_STEPS r_STEPS q_STEPS)) (g_tup (g_cons (g_name 4 nd) (g_cons (g_name 5 nd) g_nil))) (b_wipe [4, 5] (b_one (s_if (t_w (w_and (t_cmp k_ge (d_var 0) (d_var 4)) (w_and (t_cmp k_ge (d_var 1) (d_var 5)) (w_and1 (t_cmp k_le (d_abs z_abs (a_cons (d_add false (d_sub (d_sub (d_var 0) (d_var 4)) (d_var 1)) (d_var 5)) a_nil)) (d_var 2)))))) (b_one (s_expr (d_append (d_var 3) (a_cons (d_tup (a_cons (d_sub (d_var 0) (d_var 4)) (a_cons (d_sub (d_var 1) (d_var 5)) a_nil))) a_nil)))) b_nil))))
    (b_one (s_ret (d_var 3)))))
theorem ok_least_sums {f : Addr} {fd : FuncData} (F : Fun K "least_sums" "least_sums" s_least_sums f fd) (h_places_ahead : Has P w K mg base "places_ahead" 1 3 f_places_ahead) (h_square_at : Has P w K mg base "square_at" 1 4 f_square_at) (z_len : mg "len" = none) (z_min : mg "min" = none) (z_max : mg "max" = none) (z_range : mg "range" = none) :
    FnOk P w K mg base CX0 2 f fd ["one", "other", "band"] (spD K f_least_sums 3) := by
  refine fn_okF F sc_least_sums fun cdv A outer s H E hr => ?_
  have nd := sc_least_sums.nd
  exact (qb_cons (qs_set 3 nd (q_lc [("number", 7)] nd (i_seq (d_var 0)) (by kernel_rfl) (fun _ _ _ _ _ => (g_name 7 nd)) (fun _ _ _ _ _ => qc_nil) (fun _ _ _ _ _ => (q_flat (d_mulU true (d_lst false (a_cons d_non a_nil)) (d_len z_len (a_cons (d_var 1) a_nil)))))))
    (qb_cons (qs_for (i_r1 z_range (a_cons (d_len z_len (a_cons (d_var 0) a_nil)) a_nil)) (g_name 4 nd) (qb_wipe [4, 5, 6] (qb_pre [5, 6] (qb_one (qs_for (i_r2 z_range (a_cons (d_max2 z_max (a_cons d_int (a_cons (d_sub (d_var 4) (d_var 2)) a_nil))) (a_cons (d_min2 z_min (a_cons (d_len z_len (a_cons (d_var 1) a_nil)) (a_cons (d_add false (d_add false (d_var 4) (d_var 2)) d_int) a_nil))) a_nil))) (g_name 5 nd) (qb_wipe [5, 6] (qb_cons (qs_setLcZ 6 [("a", 8), ("b", 9)] nd (i_seq (d_frz (d_def h_places_ahead hr (a_cons (d_var 4) (a_cons (d_var 5) (a_cons (d_var 2) a_nil)))))) (by kernel_rfl) (fun _ _ _ _ _ => (g_tup (g_cons (g_name 8 nd) (g_cons (g_name 9 nd) g_nil)))) (fun _ _ _ _ _ => qc_nil) (fun _ _ _ _ _ => (q_ixF (q_ix (q_var 3) (d_var 8)) (q_flat (d_var 9)))) (sw_true rfl rfl rfl (by decide +kernel)))
        (qb_cons (qs_put (q_ix (q_var 3) (d_var 4)) (d_var 5) (q_flat (d_def h_square_at hr (a_cons (d_var 0) (a_cons (d_var 1) (a_cons (d_var 4) (a_cons (d_var 5) a_nil)))))))
        (qb_one (qs_if (qt_flat (t_cmp (k_ne hr) (d_var 6) (d_lst false a_nil))) (qb_one (qs_augS u_add (q_ix (q_var 3) (d_var 4)) (d_var 5) (q_flat (d_min1 z_min (a_cons (d_var 6) a_nil))))) qb_nil))))))))))
    (qb_one (qs_ret (q_var 3)))))
theorem ok_least_sums_W {f : Addr} {fd : FuncData} (F : Fun K "least_sums" "least_sums" s_least_sums f fd) (h_places_ahead : Has P w K mg base "places_ahead" 1 3 f_places_ahead) (h_square_at : Has P w K mg base "square_at" 1 4 f_square_at) (z_len : mg "len" = none) (z_min : mg "min" = none) (z_max : mg "max" = none) (z_range : mg "range" = none) :
    FnOk P w K mg base CX0 2 f fd ["one", "other", "band"] (spW K f_least_sums_W 3) := by
  refine fn_okW F sc_least_sums fun cdv A outer s H E hr => ?_
  have nd := sc_least_sums.nd
  exact (qb_cons (qs_set 3 nd (q_lc [("number", 7)] nd (i_seq (d_var 0)) (by kernel_rfl) (fun _ _ _ _ _ => (g_name 7 nd)) (fun _ _ _ _ _ => qc_nil) (fun _ _ _ _ _ => (q_flat (d_mulU true (d_lst false (a_cons d_non a_nil)) (d_len z_len (a_cons (d_var 1) a_nil)))))))
    (qb_cons (qs_for (i_r1 z_range (a_cons (d_len z_len (a_cons (d_var 0) a_nil)) a_nil)) (g_name 4 nd) (qb_wipe [4, 5, 6] (qb_pre [5, 6] (qb_one (qs_for (i_r2 z_range (a_cons (d_max2 z_max (a_cons d_int (a_cons (d_sub (d_var 4) (d_var 2)) a_nil))) (a_cons (d_min2 z_min (a_cons (d_len z_len (a_cons (d_var 1) a_nil)) (a_cons (d_add false (d_add false (d_var 4) (d_var 2)) d_int) a_nil))) a_nil))) (g_name 5 nd) (qb_wipe [5, 6] (qb_cons (qs_setLcZ 6 [("a", 8), ("b", 9)] nd (i_seq (d_frz (d_def h_places_ahead hr (a_cons (d_var 4) (a_cons (d_var 5) (a_cons (d_var 2) a_nil)))))) (by kernel_rfl) (fun _ _ _ _ _ => (g_tup (g_cons (g_name 8 nd) (g_cons (g_name 9 nd) g_nil)))) (fun _ _ _ _ _ => qc_nil) (fun _ _ _ _ _ => (q_ixF (q_ix (q_var 3) (d_var 8)) (q_flat (d_var 9)))) (sw_true rfl rfl rfl (by decide +kernel)))
        (qb_cons (qs_put (q_ix (q_var 3) (d_var 4)) (d_var 5) (q_flat (d_def h_square_at hr (a_cons (d_var 0) (a_cons (d_var 1) (a_cons (d_var 4) (a_cons (d_var 5) a_nil)))))))
        (qb_one (qs_if (qt_flat (t_cmp (k_ne hr) (d_var 6) (d_lst false a_nil))) (qb_one (qs_augS u_add (q_ix (q_var 3) (d_var 4)) (d_var 5) (q_flat (d_min1 z_min (a_cons (d_var 6) a_nil))))) qb_nil))))))))))
    (qb_one (qs_ret (q_var 3)))))
theorem ok_way_by {f : Addr} {fd : FuncData} (F : Fun K "way_by" "way_by" s_way_by f fd) (h_places_ahead : Has P w K mg base "places_ahead" 1 3 f_places_ahead) (z_len : mg "len" = none) (z_min : mg "min" = none) :
    FnOk P w K mg base CX0 2 f fd ["sums", "band"] (spD K f_way_by 2) := by
  refine fn_ok F sc_way_by fun cdv A outer s H E hr => ?_
  have nd := sc_way_by.nd
  exact (b_cons (s_set 2 nd (d_lst true (a_cons (d_tup (a_cons (d_sub (d_len z_len (a_cons (d_var 0) a_nil)) d_int) (a_cons (d_sub (d_len z_len (a_cons (d_ix (d_var 0) d_int) a_nil)) d_int) a_nil))) a_nil)))
    (b_cons (s_while (t_cmp (k_ne hr) (d_ix (d_var 2) (d_neg d_int)) (d_tup (a_cons d_int (a_cons d_int a_nil)))) (b_wipe [3] (b_cons (s_setLc 3 false [("a", 4), ("b", 5)] nd (i_seq (d_frz (d_def h_places_ahead hr (a_cons (d_ix (d_ix (d_var 2) (d_neg d_int)) d_int) (a_cons (d_ix (d_ix (d_var 2) (d_neg d_int)) d_int) (a_cons (d_var 1) a_nil)))))) (by kernel_rfl) (fun _ _ _ _ _ => (g_tup (g_cons (g_name 4 nd) (g_cons (g_name 5 nd) g_nil)))) (fun _ _ _ _ _ => c_nil) (fun _ _ _ _ _ => (d_tup (a_cons (d_ix (d_ix (d_var 0) (d_var 4)) (d_var 5)) (a_cons (d_var 4) (a_cons (d_var 5) a_nil))))) (sw_true rfl rfl rfl (by decide +kernel)))
      (b_one (s_expr (d_append (d_var 2) (a_cons (d_slU false (d_minT hr z_min (a_cons (d_var 3) a_nil)) (o_some d_int) o_none) a_nil)))))))
    (b_one (s_ret (d_rev true (d_var 2))))))
theorem ok_way_by_W {f : Addr} {fd : FuncData} (F : Fun K "way_by" "way_by" s_way_by f fd) (h_places_ahead : Has P w K mg base "places_ahead" 1 3 f_places_ahead) (z_len : mg "len" = none) (z_min : mg "min" = none) :
    FnOk P w K mg base CX0 2 f fd ["sums", "band"] (spW K f_way_by_W 2) := by
  refine fn_okW F sc_way_by fun cdv A outer s H E hr => ?_
  have nd := sc_way_by.nd
  exact (qb_cons (qs_set 2 nd (q_lstC true (qa_cons (q_tup (qa_cons (q_sub (q_lenW z_len (q_var 0)) (q_flat d_int)) (qa_cons (q_sub (q_len z_len (qa_cons (q_ix (q_var 0) d_int) qa_nil)) (q_flat d_int)) qa_nil))) qa_nil)))
    (qb_cons (qs_while (qt_flat (t_cmp (k_ne hr) (d_ix (d_var 2) (d_neg d_int)) (d_tup (a_cons d_int (a_cons d_int a_nil))))) (qb_wipe [3] (qb_cons (qs_setLcZ 3 [("a", 4), ("b", 5)] nd (i_seq (d_frz (d_def h_places_ahead hr (a_cons (d_ix (d_ix (d_var 2) (d_neg d_int)) d_int) (a_cons (d_ix (d_ix (d_var 2) (d_neg d_int)) d_int) (a_cons (d_var 1) a_nil)))))) (by kernel_rfl) (fun _ _ _ _ _ => (g_tup (g_cons (g_name 4 nd) (g_cons (g_name 5 nd) g_nil)))) (fun _ _ _ _ _ => qc_nil) (fun _ _ _ _ _ => (q_tup (qa_cons (q_ixF (q_ix (q_var 0) (d_var 4)) (q_flat (d_var 5))) (qa_cons (q_flat (d_var 4)) (qa_cons (q_flat (d_var 5)) qa_nil))))) (sw_true rfl rfl rfl (by decide +kernel)))
      (qb_one (qs_expr (q_flat (d_append (d_var 2) (a_cons (d_slU false (d_minT hr z_min (a_cons (d_var 3) a_nil)) (o_some d_int) o_none) a_nil))))))))
    (qb_one (qs_ret (q_flat (d_rev true (d_var 2)))))))
theorem ok_bent_paper {f : Addr} {fd : FuncData} (F : Fun K "bent_paper" "bent_paper" s_bent_paper f fd) (h_must_lists : Has P w K mg base "must_lists" 2 3 f_must_lists) (h_least_sums : Has P w K mg base "least_sums" 2 3 f_least_sums) (h_way_by : Has P w K mg base "way_by" 2 2 f_way_by) (z_len : mg "len" = none) (z_abs : mg "abs" = none) :
    FnOk P w K mg base CX0 3 f fd ["one", "other", "band"] (spD K f_bent_paper 3) := by
  refine fn_ok F sc_bent_paper fun cdv A outer s H E hr => ?_
  have nd := sc_bent_paper.nd
  exact (b_cons (s_expr (d_def h_must_lists hr (a_cons (d_var 0) (a_cons (d_var 1) (a_cons (d_var 2) a_nil)))))
    (b_cons (s_if (t_cmp k_gt (d_abs z_abs (a_cons (d_sub (d_len z_len (a_cons (d_var 0) a_nil)) (d_len z_len (a_cons (d_var 1) a_nil))) a_nil)) (d_var 2)) (b_one (s_ret d_non)) b_nil)
    (b_cons (s_set 3 nd (d_def h_least_sums hr (a_cons (d_var 0) (a_cons (d_var 1) (a_cons (d_var 2) a_nil)))))
    (b_one (s_ret (d_tup (a_cons (d_ix (d_ix (d_var 3) (d_neg d_int)) (d_neg d_int)) (a_cons (d_frz (d_def h_way_by hr (a_cons (d_var 3) (a_cons (d_var 2) a_nil)))) (a_cons (d_var 3) a_nil)))))))))
theorem ok_bent_paper_W {f : Addr} {fd : FuncData} (F : Fun K "bent_paper" "bent_paper" s_bent_paper f fd) (h_least_sums_W : HasW P w K mg base "least_sums" 2 3 f_least_sums_W) (h_way_by_W : HasW P w K mg base "way_by" 2 2 f_way_by_W) (h_must_lists : Has P w K mg base "must_lists" 2 3 f_must_lists) (z_len : mg "len" = none) (z_abs : mg "abs" = none) :
    FnOk P w K mg base CX0 3 f fd ["one", "other", "band"] (spW K f_bent_paper_W 3) := by
  refine fn_okW F sc_bent_paper fun cdv A outer s H E hr => ?_
  have nd := sc_bent_paper.nd
  exact (qb_cons (qs_expr (q_flat (d_def h_must_lists hr (a_cons (d_var 0) (a_cons (d_var 1) (a_cons (d_var 2) a_nil))))))
    (qb_cons (qs_if (qt_flat (t_cmp k_gt (d_abs z_abs (a_cons (d_sub (d_len z_len (a_cons (d_var 0) a_nil)) (d_len z_len (a_cons (d_var 1) a_nil))) a_nil)) (d_var 2))) (qb_one (qs_ret (q_flat d_non))) qb_nil)
    (qb_cons (qs_set 3 nd (q_def h_least_sums_W hr (qa_cons (q_flat (d_var 0)) (qa_cons (q_flat (d_var 1)) (qa_cons (q_flat (d_var 2)) qa_nil)))))
    (qb_one (qs_ret (q_tup (qa_cons (q_ixF (q_ix (q_var 3) (d_neg d_int)) (q_flat (d_neg d_int))) (qa_cons (q_def h_way_by_W hr (qa_cons (q_var 3) (qa_cons (q_flat (d_var 2)) qa_nil))) (qa_cons (q_var 3) qa_nil)))))))))
theorem ok_bent_way {f : Addr} {fd : FuncData} (F : Fun K "bent_way" "bent_way" s_bent_way f fd) (h_bent_paper : Has P w K mg base "bent_paper" 3 3 f_bent_paper) :
    FnOk P w K mg base CX0 4 f fd ["one", "other", "band"] (spD K f_bent_way 3) := by
  refine fn_ok F sc_bent_way fun cdv A outer s H E hr => ?_
  have nd := sc_bent_way.nd
  exact (b_cons (s_set 3 nd (d_def h_bent_paper hr (a_cons (d_var 0) (a_cons (d_var 1) (a_cons (d_var 2) a_nil)))))
    (b_cons (s_if (t_isN (d_var 3)) (b_one (s_ret d_non)) b_nil)
    (b_one (s_ret (d_slU false (d_var 3) o_none (o_some d_int))))))
theorem ok__law_drawn_sum {f : Addr} {fd : FuncData} (F : Fun K "_law_drawn_sum" "_law_drawn_sum" s__law_drawn_sum f fd) (h__law_draw : Has P w K mg base "_law_draw" 1 2 f__law_draw) (z_len : mg "len" = none) (z_abs : mg "abs" = none) (z_int : mg "int" = none) :
    FnOk P w K mg base CX0 2 f fd ["_law_purse_here", "_law_one", "_law_other", "_law_band"] (spD K f__law_drawn_sum 4) := by
  refine fn_ok F sc__law_drawn_sum fun cdv A outer s H E hr => ?_
  have nd := sc__law_drawn_sum.nd
  exact (b_cons (s_set 4 nd d_int)
    (b_cons (s_set 5 nd d_int)
    (b_cons (s_set 6 nd (d_pow (d_sub (d_ix (d_var 1) d_int) (d_ix (d_var 2) d_int)) d_int))
    (b_cons (s_while (t_w (w_or (t_cmp k_lt (d_var 4) (d_sub (d_len z_len (a_cons (d_var 1) a_nil)) d_int)) (w_or1 (t_cmp k_lt (d_var 5) (d_sub (d_len z_len (a_cons (d_var 2) a_nil)) d_int))))) (b_wipe [7, 8] (b_cons (s_asg (d_ix (d_lst false (a_cons (d_tup (a_cons d_int (a_cons d_int a_nil))) (a_cons (d_tup (a_cons d_int (a_cons d_int a_nil))) (a_cons (d_tup (a_cons d_int (a_cons d_int a_nil))) a_nil)))) (d_def h__law_draw hr (a_cons (d_var 0) (a_cons d_int a_nil)))) (g_tup (g_cons (g_name 7 nd) (g_cons (g_name 8 nd) g_nil))))
      (b_cons (s_if (t_w (w_or (t_cmp (k_eq hr) (d_var 4) (d_sub (d_len z_len (a_cons (d_var 1) a_nil)) d_int)) (w_or (t_cmp (k_eq hr) (d_var 5) (d_sub (d_len z_len (a_cons (d_var 2) a_nil)) d_int)) (w_or1 (t_cmp k_gt (d_abs z_abs (a_cons (d_sub (d_sub (d_add false (d_var 4) (d_var 7)) (d_var 5)) (d_var 8)) a_nil)) (d_var 3)))))) (b_cons (s_set 7 nd (d_intf z_int (a_cons (d_cmp k_lt (d_var 4) (d_sub (d_len z_len (a_cons (d_var 1) a_nil)) d_int)) a_nil)))
        (b_one (s_set 8 nd (d_intf z_int (a_cons (d_cmp k_lt (d_var 5) (d_sub (d_len z_len (a_cons (d_var 2) a_nil)) d_int)) a_nil))))) b_nil)
      (b_cons (s_set 4 nd (d_add false (d_var 4) (d_var 7)))
      (b_cons (s_set 5 nd (d_add false (d_var 5) (d_var 8)))
      (b_cons (s_if (t_cmp k_gt (d_abs z_abs (a_cons (d_sub (d_var 4) (d_var 5)) a_nil)) (d_var 3)) (b_one (s_ret d_non)) b_nil)
      (b_one (s_set 6 nd (d_add false (d_var 6) (d_pow (d_sub (d_ix (d_var 1) (d_var 4)) (d_ix (d_var 2) (d_var 5))) d_int)))))))))))
    (b_one (s_ret (d_var 6)))))))
theorem ok_heights_hold {f : Addr} {fd : FuncData} (F : Fun K "heights_hold" "heights_hold" s_heights_hold f fd) (h_square_at : Has P w K mg base "square_at" 1 4 f_square_at) (h_places_ahead : Has P w K mg base "places_ahead" 1 3 f_places_ahead) (z_enumerate : mg "enumerate" = none) :
    FnOk P w K mg base CX0 2 f fd ["one", "other", "band", "heights"] (spD K f_heights_hold 4) := by
  refine fn_ok F sc_heights_hold fun cdv A outer s H E hr => ?_
  have nd := sc_heights_hold.nd
  exact (b_cons (s_for (i_en z_enumerate (a_cons (d_var 3) a_nil)) (g_tup (g_cons (g_name 4 nd) (g_cons (g_name 5 nd) g_nil))) (b_wipe [4, 5, 6, 7, 8, 9, 10] (b_pre [6, 7, 8, 9, 10] (b_one (s_for (i_en z_enumerate (a_cons (d_var 5) a_nil)) (g_tup (g_cons (g_name 6 nd) (g_cons (g_name 7 nd) g_nil))) (b_wipe [6, 7, 8, 9, 10] (b_one (s_if (t_notN (d_var 7)) (b_cons (s_set 8 nd (d_def h_square_at hr (a_cons (d_var 0) (a_cons (d_var 1) (a_cons (d_var 4) (a_cons (d_var 6) a_nil))))))
          (b_cons (s_if (t_w (w_and (t_cmp (k_eq hr) (d_tup (a_cons (d_var 4) (a_cons (d_var 6) a_nil))) (d_tup (a_cons d_int (a_cons d_int a_nil)))) (w_and1 (t_cmp k_gt (d_var 7) (d_var 8))))) (b_one (s_ret d_bl)) b_nil)
          (b_pre [9, 10] (b_one (s_for (i_seq (d_frz (d_def h_places_ahead hr (a_cons (d_var 4) (a_cons (d_var 6) (a_cons (d_var 2) a_nil)))))) (g_tup (g_cons (g_name 9 nd) (g_cons (g_name 10 nd) g_nil))) (b_wipe [9, 10] (b_one (s_if (t_cmp k_gt (d_var 7) (d_add false (d_ix (d_ix (d_var 3) (d_var 9)) (d_var 10)) (d_var 8))) (b_one (s_ret d_bl)) b_nil)))))))) b_nil))))))))
    (b_one (s_ret d_bl)))
theorem ok_is_way {f : Addr} {fd : FuncData} (F : Fun K "is_way" "is_way" s_is_way f fd) (z_len : mg "len" = none) (z_abs : mg "abs" = none) (z_zip : mg "zip" = none) {u_STEPS : Value} {vv_STEPS : V} (m_STEPS : mg "STEPS" = some u_STEPS) (r_STEPS : RelV vv_STEPS u_STEPS) (q_STEPS : ∀ G, Rv K G vv_STEPS v_STEPS) :
    FnOk P w K mg base CX0 1 f fd ["one", "other", "band", "way"] (spD K f_is_way 4) := by
  refine fn_ok F sc_is_way fun cdv A outer s H E hr => ?_
  have nd := sc_is_way.nd
  exact (b_cons (s_if (t_w (w_or (t_cmp (k_ne hr) (d_slU false (d_var 3) o_none (o_some d_int)) (d_lst false (a_cons (d_tup (a_cons d_int (a_cons d_int a_nil))) a_nil))) (w_or1 (t_cmp (k_ne hr) (d_ix (d_var 3) (d_neg d_int)) (d_tup (a_cons (d_sub (d_len z_len (a_cons (d_var 0) a_nil)) d_int) (a_cons (d_sub (d_len z_len (a_cons (d_var 1) a_nil)) d_int) a_nil))))))) (b_one (s_ret d_bl)) b_nil)
    (b_cons (s_for (i_zip z_zip (a_cons (d_var 3) (a_cons (d_slU false (d_var 3) (o_some d_int) o_none) a_nil))) (g_tup (g_cons (g_tup (g_cons (g_name 4 nd) (g_cons (g_name 5 nd) g_nil))) (g_cons (g_tup (g_cons (g_name 6 nd) (g_cons (g_name 7 nd) g_nil))) g_nil))) (b_wipe [4, 5, 6, 7] (b_one (s_if (t_w (w_or (t_cmp (k_notinT hr) (d_tup (a_cons (d_sub (d_var 6) (d_var 4)) (a_cons (d_sub (d_var 7) (d_var 5)) a_nil))) (d_glob rfl m_STEPS r_STEPS q_STEPS)) (w_or1 (t_cmp k_gt (d_abs z_abs (a_cons (d_sub (d_var 6) (d_var 7)) a_nil)) (d_var 2))))) (b_one (s_ret d_bl)) b_nil))))
    (b_one (s_ret d_bl))))
theorem ok_are_heights {f : Addr} {fd : FuncData} (F : Fun K "are_heights" "are_heights" s_are_heights f fd) (z_len : mg "len" = none) (z_abs : mg "abs" = none) (z_enumerate : mg "enumerate" = none) :
    FnOk P w K mg base CX0 1 f fd ["one", "other", "band", "heights"] (spD K f_are_heights 4) := by
  refine fn_ok F sc_are_heights fun cdv A outer s H E hr => ?_
  have nd := sc_are_heights.nd
  exact (b_cons (s_if (t_cmp (k_ne hr) (d_len z_len (a_cons (d_var 3) a_nil)) (d_len z_len (a_cons (d_var 0) a_nil))) (b_one (s_ret d_bl)) b_nil)
    (b_cons (s_for (i_en z_enumerate (a_cons (d_var 3) a_nil)) (g_tup (g_cons (g_name 4 nd) (g_cons (g_name 5 nd) g_nil))) (b_wipe [4, 5, 6, 7] (b_cons (s_if (t_cmp (k_ne hr) (d_len z_len (a_cons (d_var 5) a_nil)) (d_len z_len (a_cons (d_var 1) a_nil))) (b_one (s_ret d_bl)) b_nil)
      (b_pre [6, 7] (b_one (s_for (i_en z_enumerate (a_cons (d_var 5) a_nil)) (g_tup (g_cons (g_name 6 nd) (g_cons (g_name 7 nd) g_nil))) (b_wipe [6, 7] (b_one (s_if (t_cmp (k_ne hr) (d_isN (d_var 7)) (d_cmp k_gt (d_abs z_abs (a_cons (d_sub (d_var 4) (d_var 6)) a_nil)) (d_var 2))) (b_one (s_ret d_bl)) b_nil)))))))))
    (b_one (s_ret d_bl))))
theorem ok_shows_bent {f : Addr} {fd : FuncData} (F : Fun K "shows_bent" "shows_bent" s_shows_bent f fd) (h_must_lists : Has P w K mg base "must_lists" 2 3 f_must_lists) (h_is_way : Has P w K mg base "is_way" 1 4 f_is_way) (h_are_heights : Has P w K mg base "are_heights" 1 4 f_are_heights) (h_square_at : Has P w K mg base "square_at" 1 4 f_square_at) (h_heights_hold : Has P w K mg base "heights_hold" 2 4 f_heights_hold) (z_sum : mg "sum" = none) :
    FnOk P w K mg base CX0 3 f fd ["one", "other", "band", "paper"] (spD K f_shows_bent 4) := by
  refine fn_ok F sc_shows_bent fun cdv A outer s H E hr => ?_
  have nd := sc_shows_bent.nd
  exact (b_cons (s_expr (d_def h_must_lists hr (a_cons (d_var 0) (a_cons (d_var 1) (a_cons (d_var 2) a_nil)))))
    (b_cons (s_asg (d_var 3) (g_tup (g_cons (g_name 4 nd) (g_cons (g_name 5 nd) (g_cons (g_name 6 nd) g_nil)))))
    (b_cons (s_if (t_w (w_or (t_not (t_val (d_def h_is_way (hr.mono (by decide)) (a_cons (d_var 0) (a_cons (d_var 1) (a_cons (d_var 2) (a_cons (d_var 5) a_nil))))))) (w_or1 (t_not (t_val (d_def h_are_heights (hr.mono (by decide)) (a_cons (d_var 0) (a_cons (d_var 1) (a_cons (d_var 2) (a_cons (d_var 6) a_nil)))))))))) (b_one (s_ret d_bl)) b_nil)
    (b_cons (s_if (t_w (w_or (t_cmp (k_ne hr) (d_sum z_sum (a_cons (d_lc false [("i", 7), ("j", 8)] nd (i_seq (d_var 5)) (by kernel_rfl) (fun _ _ _ _ _ => (g_tup (g_cons (g_name 7 nd) (g_cons (g_name 8 nd) g_nil)))) (fun _ _ _ _ _ => c_nil) (fun _ _ _ _ _ => (d_def h_square_at (hr.mono (by decide)) (a_cons (d_var 0) (a_cons (d_var 1) (a_cons (d_var 7) (a_cons (d_var 8) a_nil))))))) a_nil)) (d_var 4)) (w_or1 (t_cmp (k_ne hr) (d_ix (d_ix (d_var 6) (d_neg d_int)) (d_neg d_int)) (d_var 4))))) (b_one (s_ret d_bl)) b_nil)
    (b_one (s_ret (d_def h_heights_hold hr (a_cons (d_var 0) (a_cons (d_var 1) (a_cons (d_var 2) (a_cons (d_var 6) a_nil)))))))))))
theorem ok_law {f : Addr} {fd : FuncData} (F : Fun K "law" "law" s_law f fd) (h_bent_paper_W : HasW P w K mg base "bent_paper" 3 3 f_bent_paper_W) (h__law_purse : Has P w K mg base "_law_purse" 2 1 f__law_purse) (h__law_lists : Has P w K mg base "_law_lists" 2 2 f__law_lists) (h_bent_way : Has P w K mg base "bent_way" 4 3 f_bent_way) (h_shows_bent : Has P w K mg base "shows_bent" 3 4 f_shows_bent) (h__law_drawn_sum : Has P w K mg base "_law_drawn_sum" 2 4 f__law_drawn_sum) (h__law_draw : Has P w K mg base "_law_draw" 1 2 f__law_draw) (z_len : mg "len" = none) (z_abs : mg "abs" = none) (z_range : mg "range" = none) (z_enumerate : mg "enumerate" = none) (z_list : mg "list" = none) :
    FnOk P w K mg base CX0 5 f fd ["_law_script"] (spD K f_law 1) := by
  refine fn_okF F sc_law fun cdv A outer s H E hr => ?_
  have nd := sc_law.nd
  exact (qb_cons (qs_set 1 nd (q_flat (d_def h__law_purse (hr.mono (by decide)) (a_cons (d_var 0) a_nil))))
    (qb_cons (qs_asg (q_flat (d_def h__law_lists (hr.mono (by decide)) (a_cons (d_var 1) (a_cons d_int a_nil)))) (g_tup (g_cons (g_name 2 nd) (g_cons (g_name 3 nd) g_nil))))
    (qb_cons (qs_for (i_seq (d_lst false (a_cons (d_def h__law_draw (hr.mono (by decide)) (a_cons (d_var 1) (a_cons d_int a_nil))) (a_cons (d_def h__law_draw (hr.mono (by decide)) (a_cons (d_var 1) (a_cons d_int a_nil))) a_nil)))) (g_name 4 nd) (qb_wipe [4, 5, 6, 7, 8, 9, 10, 11, 12] (qb_cons (qs_set 5 nd (q_flat (d_def h_bent_way hr (a_cons (d_var 2) (a_cons (d_var 3) (a_cons (d_var 4) a_nil))))))
      (qb_cons (qs_set 6 nd (q_def h_bent_paper_W (hr.mono (by decide)) (qa_cons (q_flat (d_var 2)) (qa_cons (q_flat (d_var 3)) (qa_cons (q_flat (d_var 4)) qa_nil)))))
      (qb_cons (qs_if (qt_w (qw_or (qt_flat (t_isN (d_var 5))) (qw_or1 (qt_isN (q_var 6))))) (qb_cons (qs_if (qt_w (qw_or (qt_flat (t_notN (d_var 5))) (qw_or (qt_notN (q_var 6)) (qw_or1 (qt_flat (t_cmp k_le (d_abs z_abs (a_cons (d_sub (d_len z_len (a_cons (d_var 2) a_nil)) (d_len z_len (a_cons (d_var 3) a_nil))) a_nil)) (d_var 4))))))) (qb_one (qs_ret (q_flat d_bl))) qb_nil)
        (qb_one qs_cont)) qb_nil)
      (qb_cons (qs_if (qt_bor (t_w (w_or (t_cmp k_notB (d_def h_shows_bent (hr.mono (by decide)) (a_cons (d_var 2) (a_cons (d_var 3) (a_cons (d_var 4) (a_cons (d_var 6) a_nil))))) d_bl) (w_or1 (t_cmp (k_ne hr) (d_ix (d_var 6) d_int) (d_ix (d_var 5) d_int)))))) (qb_one (qs_ret (q_flat d_bl))) qb_nil)
      (qb_pre [7, 8] (qb_cons (qs_for (i_r1 z_range (a_cons d_int a_nil)) (g_name 7 nd) (qb_wipe [7, 8] (qb_cons (qs_set 8 nd (q_flat (d_def h__law_drawn_sum (hr.mono (by decide)) (a_cons (d_var 1) (a_cons (d_var 2) (a_cons (d_var 3) (a_cons (d_var 4) a_nil)))))))
        (qb_one (qs_if (qt_flat (t_w (w_and (t_notN (d_var 8)) (w_and1 (t_cmp k_lt (d_var 8) (d_ix (d_var 5) d_int)))))) (qb_one (qs_ret (q_flat d_bl))) qb_nil)))))
      (qb_pre [9, 10] (qb_cons (qs_forE z_enumerate (q_ix (q_var 6) d_int) (g_tup (g_cons (g_name 9 nd) (g_cons (g_name 10 nd) g_nil))) (qb_wipe [9, 10] (qb_one (qs_expr (q_flat (d_append (d_var 10) (a_cons (d_sub (d_var 9) d_int) a_nil)))))))
      (qb_cons (qs_setLcLZ 11 10 [("_law_heights", 10)] nd (q_ix (q_var 6) d_int) (by kernel_rfl) (fun _ _ _ _ _ => (g_name 10 nd)) (fun _ _ _ _ _ => qc_nil) (fun _ _ _ _ _ => (q_flat (d_lc true [("_law_height", 13)] nd (i_seq (d_slU false (d_var 10) (o_some (d_len z_len (a_cons (d_var 3) a_nil))) o_none)) (by kernel_rfl) (fun _ _ _ _ _ => (g_name 13 nd)) (fun _ _ _ _ _ => c_nil) (fun _ _ _ _ _ => (d_var 13))))) (sw_true rfl rfl rfl (by decide +kernel)))
      (qb_cons (qs_if (qt_flat (t_cmp (k_ne hr) (d_var 11) (d_lc false [("_law_i", 9)] nd (i_r1 z_range (a_cons (d_len z_len (a_cons (d_var 2) a_nil)) a_nil)) (by kernel_rfl) (fun _ _ _ _ _ => (g_name 9 nd)) (fun _ _ _ _ _ => c_nil) (fun _ _ _ _ _ => (d_lst false (a_cons (d_sub (d_var 9) d_int) a_nil)))))) (qb_one (qs_ret (q_flat d_bl))) qb_nil)
      (qb_cons (qs_expr (q_mClear (q_ix (q_var 6) d_int)))
      (qb_cons (qs_set 12 nd (q_frz (q_def h_bent_paper_W (hr.mono (by decide)) (qa_cons (q_flat (d_var 2)) (qa_cons (q_flat (d_var 3)) (qa_cons (q_flat (d_var 4)) qa_nil))))))
      (qb_cons (qs_if (qt_flat (t_w (w_or (t_cmp (k_ne hr) (d_ix (d_var 12) d_int) (d_ix (d_var 5) d_int)) (w_or1 (t_cmp k_notB (d_def h_shows_bent (hr.mono (by decide)) (a_cons (d_var 2) (a_cons (d_var 3) (a_cons (d_var 4) (a_cons (d_var 12) a_nil))))) d_bl))))) (qb_one (qs_ret (q_flat d_bl))) qb_nil)
      (qb_cons (qs_if (qt_flat (t_cmp (k_ne hr) (d_ix (d_def h_bent_way hr (a_cons (d_var 3) (a_cons (d_var 2) (a_cons (d_var 4) a_nil)))) d_int) (d_ix (d_var 5) d_int))) (qb_one (qs_ret (q_flat d_bl))) qb_nil)
      (qb_cons (qs_if (qt_flat (t_w (w_and (t_cmp (k_eq hr) (d_len z_len (a_cons (d_var 2) a_nil)) (d_len z_len (a_cons (d_var 3) a_nil))) (w_and1 (t_cmp (k_ne hr) (d_ix (d_def h_bent_way hr (a_cons (d_rev false (d_var 2)) (a_cons (d_rev false (d_var 3)) (a_cons (d_var 4) a_nil)))) d_int) (d_ix (d_var 5) d_int)))))) (qb_one (qs_ret (q_flat d_bl))) qb_nil)
      (qb_one (qs_if (qt_flat (t_cmp k_gt (d_ix (d_def h_bent_way hr (a_cons (d_var 2) (a_cons (d_var 3) (a_cons (d_add false (d_add false (d_var 4) d_int) (d_def h__law_draw (hr.mono (by decide)) (a_cons (d_var 1) (a_cons d_int a_nil)))) a_nil)))) d_int) (d_ix (d_var 5) d_int))) (qb_one (qs_ret (q_flat d_bl))) qb_nil)))))))))))))))))))
    (qb_one (qs_ret (q_flat (d_and (d_cmp (k_eq hr) (d_ix (d_def h_bent_way hr (a_cons (d_var 2) (a_cons (d_list false z_list (a_cons (d_var 2) a_nil)) (a_cons d_int a_nil)))) d_int) d_int) (d_one (d_cmp (k_eq hr) (d_ix (d_def h_bent_way hr (a_cons (d_var 2) (a_cons (d_list false z_list (a_cons (d_var 2) a_nil)) (a_cons d_int a_nil)))) d_int) d_int)))))))))
end
theorem all_mk {l : PySem.W.OpenLaw} {w : World} {K : PySem.W.Frag} {h : Heap} {mg : Str → Option Value} {fa : Addr} (X : K.In h) (G : h.Ns mainGlobals mg) (hfa : mg "law" = some (.ref fa))
    {f1 : Addr} {od1 an1 : Option Addr} {sl1 : Array (Option Value)} {oc1 kV1 dc1 pm1 cd1 ct1 : Value}
    {f2 : Addr} {od2 an2 : Option Addr} {sl2 : Array (Option Value)} {oc2 kV2 dc2 pm2 cd2 ct2 : Value}
    {f3 : Addr} {od3 an3 : Option Addr} {sl3 : Array (Option Value)} {oc3 kV3 dc3 pm3 cd3 ct3 : Value}
    {f4 : Addr} {od4 an4 : Option Addr} {sl4 : Array (Option Value)} {oc4 kV4 dc4 pm4 cd4 ct4 : Value}
    {f5 : Addr} {od5 an5 : Option Addr} {sl5 : Array (Option Value)} {oc5 kV5 dc5 pm5 cd5 ct5 : Value}
    {f6 : Addr} {od6 an6 : Option Addr} {sl6 : Array (Option Value)} {oc6 kV6 dc6 pm6 cd6 ct6 : Value}
    {f7 : Addr} {od7 an7 : Option Addr} {sl7 : Array (Option Value)} {oc7 kV7 dc7 pm7 cd7 ct7 : Value}
    {f8 : Addr} {od8 an8 : Option Addr} {sl8 : Array (Option Value)} {oc8 kV8 dc8 pm8 cd8 ct8 : Value}
    {f9 : Addr} {od9 an9 : Option Addr} {sl9 : Array (Option Value)} {oc9 kV9 dc9 pm9 cd9 ct9 : Value}
    {f10 : Addr} {od10 an10 : Option Addr} {sl10 : Array (Option Value)} {oc10 kV10 dc10 pm10 cd10 ct10 : Value}
    {f11 : Addr} {od11 an11 : Option Addr} {sl11 : Array (Option Value)} {oc11 kV11 dc11 pm11 cd11 ct11 : Value}
    {f12 : Addr} {od12 an12 : Option Addr} {sl12 : Array (Option Value)} {oc12 kV12 dc12 pm12 cd12 ct12 : Value}
    {f13 : Addr} {od13 an13 : Option Addr} {sl13 : Array (Option Value)} {oc13 kV13 dc13 pm13 cd13 ct13 : Value}
    {f14 : Addr} {od14 an14 : Option Addr} {sl14 : Array (Option Value)} {oc14 kV14 dc14 pm14 cd14 ct14 : Value}
    {f15 : Addr} {od15 an15 : Option Addr} {sl15 : Array (Option Value)} {oc15 kV15 dc15 pm15 cd15 ct15 : Value}
    {f16 : Addr} {od16 an16 : Option Addr} {sl16 : Array (Option Value)} {oc16 kV16 dc16 pm16 cd16 ct16 : Value}
    {f17 : Addr} {od17 an17 : Option Addr} {sl17 : Array (Option Value)} {oc17 kV17 dc17 pm17 cd17 ct17 : Value}
    {f18 : Addr} {od18 an18 : Option Addr} {sl18 : Array (Option Value)} {oc18 kV18 dc18 pm18 cd18 ct18 : Value}
    {f19 : Addr} {od19 an19 : Option Addr} {sl19 : Array (Option Value)} {oc19 kV19 dc19 pm19 cd19 ct19 : Value}
    {f20 : Addr} {od20 an20 : Option Addr} {sl20 : Array (Option Value)} {oc20 kV20 dc20 pm20 cd20 ct20 : Value}
    {f21 : Addr} {od21 an21 : Option Addr} {sl21 : Array (Option Value)} {oc21 kV21 dc21 pm21 cd21 ct21 : Value}
    {f22 : Addr} {od22 an22 : Option Addr} {sl22 : Array (Option Value)} {oc22 kV22 dc22 pm22 cd22 ct22 : Value}
    {gt_MOST_LENGTH : Tok}
    {gx_STEPS0 : Tok}
    {gx_STEPS1 : Tok}
    {ga_STEPS_0 : Addr} {gn_STEPS_0 : Nat} {gd_STEPS_0 : Option Addr} {gs_STEPS_0 : Array (Option Value)}
    {gx_STEPS2 : Tok}
    {gx_STEPS3 : Tok}
    {ga_STEPS_1 : Addr} {gn_STEPS_1 : Nat} {gd_STEPS_1 : Option Addr} {gs_STEPS_1 : Array (Option Value)}
    {gx_STEPS4 : Tok}
    {gx_STEPS5 : Tok}
    {ga_STEPS_2 : Addr} {gn_STEPS_2 : Nat} {gd_STEPS_2 : Option Addr} {gs_STEPS_2 : Array (Option Value)}
    {ga_STEPS : Addr} {gn_STEPS : Nat} {gd_STEPS : Option Addr} {gs_STEPS : Array (Option Value)}
    (a1 : PySem.W.nsIn K mainGlobals "_law_mixed" = some (some (.ref f1))) (l1 : K.lookup f1 = some ⟨oc1, od1, .func (PySem.W.fnOf "_law_mixed" "_law_mixed" (defArgs s__law_mixed) (defBody s__law_mixed) (defScope s__law_mixed) .none kV1 dc1 pm1 an1 cd1 ct1), sl1⟩) (c1 : PySem.W.codeIn K cd1 "_law_mixed" = true) (k1 : PySem.W.keepIn K (.ref f1) = true)
    (a2 : PySem.W.nsIn K mainGlobals "_law_purse" = some (some (.ref f2))) (l2 : K.lookup f2 = some ⟨oc2, od2, .func (PySem.W.fnOf "_law_purse" "_law_purse" (defArgs s__law_purse) (defBody s__law_purse) (defScope s__law_purse) .none kV2 dc2 pm2 an2 cd2 ct2), sl2⟩) (c2 : PySem.W.codeIn K cd2 "_law_purse" = true) (k2 : PySem.W.keepIn K (.ref f2) = true)
    (a3 : PySem.W.nsIn K mainGlobals "_law_draw" = some (some (.ref f3))) (l3 : K.lookup f3 = some ⟨oc3, od3, .func (PySem.W.fnOf "_law_draw" "_law_draw" (defArgs s__law_draw) (defBody s__law_draw) (defScope s__law_draw) .none kV3 dc3 pm3 an3 cd3 ct3), sl3⟩) (c3 : PySem.W.codeIn K cd3 "_law_draw" = true) (k3 : PySem.W.keepIn K (.ref f3) = true)
    (a4 : PySem.W.nsIn K mainGlobals "_law_lists" = some (some (.ref f4))) (l4 : K.lookup f4 = some ⟨oc4, od4, .func (PySem.W.fnOf "_law_lists" "_law_lists" (defArgs s__law_lists) (defBody s__law_lists) (defScope s__law_lists) .none kV4 dc4 pm4 an4 cd4 ct4), sl4⟩) (c4 : PySem.W.codeIn K cd4 "_law_lists" = true) (k4 : PySem.W.keepIn K (.ref f4) = true)
    (a5 : PySem.W.nsIn K mainGlobals "must_band" = some (some (.ref f5))) (l5 : K.lookup f5 = some ⟨oc5, od5, .func (PySem.W.fnOf "must_band" "must_band" (defArgs s_must_band) (defBody s_must_band) (defScope s_must_band) .none kV5 dc5 pm5 an5 cd5 ct5), sl5⟩) (c5 : PySem.W.codeIn K cd5 "must_band" = true) (k5 : PySem.W.keepIn K (.ref f5) = true)
    (a6 : PySem.W.nsIn K mainGlobals "must_length" = some (some (.ref f6))) (l6 : K.lookup f6 = some ⟨oc6, od6, .func (PySem.W.fnOf "must_length" "must_length" (defArgs s_must_length) (defBody s_must_length) (defScope s_must_length) .none kV6 dc6 pm6 an6 cd6 ct6), sl6⟩) (c6 : PySem.W.codeIn K cd6 "must_length" = true) (k6 : PySem.W.keepIn K (.ref f6) = true)
    (a7 : PySem.W.nsIn K mainGlobals "must_lists" = some (some (.ref f7))) (l7 : K.lookup f7 = some ⟨oc7, od7, .func (PySem.W.fnOf "must_lists" "must_lists" (defArgs s_must_lists) (defBody s_must_lists) (defScope s_must_lists) .none kV7 dc7 pm7 an7 cd7 ct7), sl7⟩) (c7 : PySem.W.codeIn K cd7 "must_lists" = true) (k7 : PySem.W.keepIn K (.ref f7) = true)
    (a8 : PySem.W.nsIn K mainGlobals "square_at" = some (some (.ref f8))) (l8 : K.lookup f8 = some ⟨oc8, od8, .func (PySem.W.fnOf "square_at" "square_at" (defArgs s_square_at) (defBody s_square_at) (defScope s_square_at) .none kV8 dc8 pm8 an8 cd8 ct8), sl8⟩) (c8 : PySem.W.codeIn K cd8 "square_at" = true) (k8 : PySem.W.keepIn K (.ref f8) = true)
    (a9 : PySem.W.nsIn K mainGlobals "places_ahead" = some (some (.ref f9))) (l9 : K.lookup f9 = some ⟨oc9, od9, .func (PySem.W.fnOf "places_ahead" "places_ahead" (defArgs s_places_ahead) (defBody s_places_ahead) (defScope s_places_ahead) .none kV9 dc9 pm9 an9 cd9 ct9), sl9⟩) (c9 : PySem.W.codeIn K cd9 "places_ahead" = true) (k9 : PySem.W.keepIn K (.ref f9) = true)
    (a10 : PySem.W.nsIn K mainGlobals "least_sums" = some (some (.ref f10))) (l10 : K.lookup f10 = some ⟨oc10, od10, .func (PySem.W.fnOf "least_sums" "least_sums" (defArgs s_least_sums) (defBody s_least_sums) (defScope s_least_sums) .none kV10 dc10 pm10 an10 cd10 ct10), sl10⟩) (c10 : PySem.W.codeIn K cd10 "least_sums" = true) (k10 : PySem.W.keepIn K (.ref f10) = true)
    (a11 : PySem.W.nsIn K mainGlobals "least_sums" = some (some (.ref f11))) (l11 : K.lookup f11 = some ⟨oc11, od11, .func (PySem.W.fnOf "least_sums" "least_sums" (defArgs s_least_sums) (defBody s_least_sums) (defScope s_least_sums) .none kV11 dc11 pm11 an11 cd11 ct11), sl11⟩) (c11 : PySem.W.codeIn K cd11 "least_sums" = true) (k11 : PySem.W.keepIn K (.ref f11) = true)
    (a12 : PySem.W.nsIn K mainGlobals "way_by" = some (some (.ref f12))) (l12 : K.lookup f12 = some ⟨oc12, od12, .func (PySem.W.fnOf "way_by" "way_by" (defArgs s_way_by) (defBody s_way_by) (defScope s_way_by) .none kV12 dc12 pm12 an12 cd12 ct12), sl12⟩) (c12 : PySem.W.codeIn K cd12 "way_by" = true) (k12 : PySem.W.keepIn K (.ref f12) = true)
    (a13 : PySem.W.nsIn K mainGlobals "way_by" = some (some (.ref f13))) (l13 : K.lookup f13 = some ⟨oc13, od13, .func (PySem.W.fnOf "way_by" "way_by" (defArgs s_way_by) (defBody s_way_by) (defScope s_way_by) .none kV13 dc13 pm13 an13 cd13 ct13), sl13⟩) (c13 : PySem.W.codeIn K cd13 "way_by" = true) (k13 : PySem.W.keepIn K (.ref f13) = true)
    (a14 : PySem.W.nsIn K mainGlobals "bent_paper" = some (some (.ref f14))) (l14 : K.lookup f14 = some ⟨oc14, od14, .func (PySem.W.fnOf "bent_paper" "bent_paper" (defArgs s_bent_paper) (defBody s_bent_paper) (defScope s_bent_paper) .none kV14 dc14 pm14 an14 cd14 ct14), sl14⟩) (c14 : PySem.W.codeIn K cd14 "bent_paper" = true) (k14 : PySem.W.keepIn K (.ref f14) = true)
    (a15 : PySem.W.nsIn K mainGlobals "bent_paper" = some (some (.ref f15))) (l15 : K.lookup f15 = some ⟨oc15, od15, .func (PySem.W.fnOf "bent_paper" "bent_paper" (defArgs s_bent_paper) (defBody s_bent_paper) (defScope s_bent_paper) .none kV15 dc15 pm15 an15 cd15 ct15), sl15⟩) (c15 : PySem.W.codeIn K cd15 "bent_paper" = true) (k15 : PySem.W.keepIn K (.ref f15) = true)
    (a16 : PySem.W.nsIn K mainGlobals "bent_way" = some (some (.ref f16))) (l16 : K.lookup f16 = some ⟨oc16, od16, .func (PySem.W.fnOf "bent_way" "bent_way" (defArgs s_bent_way) (defBody s_bent_way) (defScope s_bent_way) .none kV16 dc16 pm16 an16 cd16 ct16), sl16⟩) (c16 : PySem.W.codeIn K cd16 "bent_way" = true) (k16 : PySem.W.keepIn K (.ref f16) = true)
    (a17 : PySem.W.nsIn K mainGlobals "_law_drawn_sum" = some (some (.ref f17))) (l17 : K.lookup f17 = some ⟨oc17, od17, .func (PySem.W.fnOf "_law_drawn_sum" "_law_drawn_sum" (defArgs s__law_drawn_sum) (defBody s__law_drawn_sum) (defScope s__law_drawn_sum) .none kV17 dc17 pm17 an17 cd17 ct17), sl17⟩) (c17 : PySem.W.codeIn K cd17 "_law_drawn_sum" = true) (k17 : PySem.W.keepIn K (.ref f17) = true)
    (a18 : PySem.W.nsIn K mainGlobals "heights_hold" = some (some (.ref f18))) (l18 : K.lookup f18 = some ⟨oc18, od18, .func (PySem.W.fnOf "heights_hold" "heights_hold" (defArgs s_heights_hold) (defBody s_heights_hold) (defScope s_heights_hold) .none kV18 dc18 pm18 an18 cd18 ct18), sl18⟩) (c18 : PySem.W.codeIn K cd18 "heights_hold" = true) (k18 : PySem.W.keepIn K (.ref f18) = true)
    (a19 : PySem.W.nsIn K mainGlobals "is_way" = some (some (.ref f19))) (l19 : K.lookup f19 = some ⟨oc19, od19, .func (PySem.W.fnOf "is_way" "is_way" (defArgs s_is_way) (defBody s_is_way) (defScope s_is_way) .none kV19 dc19 pm19 an19 cd19 ct19), sl19⟩) (c19 : PySem.W.codeIn K cd19 "is_way" = true) (k19 : PySem.W.keepIn K (.ref f19) = true)
    (a20 : PySem.W.nsIn K mainGlobals "are_heights" = some (some (.ref f20))) (l20 : K.lookup f20 = some ⟨oc20, od20, .func (PySem.W.fnOf "are_heights" "are_heights" (defArgs s_are_heights) (defBody s_are_heights) (defScope s_are_heights) .none kV20 dc20 pm20 an20 cd20 ct20), sl20⟩) (c20 : PySem.W.codeIn K cd20 "are_heights" = true) (k20 : PySem.W.keepIn K (.ref f20) = true)
    (a21 : PySem.W.nsIn K mainGlobals "shows_bent" = some (some (.ref f21))) (l21 : K.lookup f21 = some ⟨oc21, od21, .func (PySem.W.fnOf "shows_bent" "shows_bent" (defArgs s_shows_bent) (defBody s_shows_bent) (defScope s_shows_bent) .none kV21 dc21 pm21 an21 cd21 ct21), sl21⟩) (c21 : PySem.W.codeIn K cd21 "shows_bent" = true) (k21 : PySem.W.keepIn K (.ref f21) = true)
    (a22 : PySem.W.nsIn K mainGlobals "law" = some (some (.ref f22))) (l22 : K.lookup f22 = some ⟨oc22, od22, .func (PySem.W.fnOf "law" "law" (defArgs s_law) (defBody s_law) (defScope s_law) .none kV22 dc22 pm22 an22 cd22 ct22), sl22⟩) (c22 : PySem.W.codeIn K cd22 "law" = true) (k22 : PySem.W.keepIn K (.ref f22) = true)
    (zz_len : PySem.W.nsIn K mainGlobals "len" = some none)
    (zz_range : PySem.W.nsIn K mainGlobals "range" = some none)
    (zz_abs : PySem.W.nsIn K mainGlobals "abs" = some none)
    (zz_min : PySem.W.nsIn K mainGlobals "min" = some none)
    (zz_max : PySem.W.nsIn K mainGlobals "max" = some none)
    (zz_int : PySem.W.nsIn K mainGlobals "int" = some none)
    (zz_enumerate : PySem.W.nsIn K mainGlobals "enumerate" = some none)
    (zz_zip : PySem.W.nsIn K mainGlobals "zip" = some none)
    (zz_sum : PySem.W.nsIn K mainGlobals "sum" = some none)
    (zz_list : PySem.W.nsIn K mainGlobals "list" = some none)
    (ga1_MOST_LENGTH : PySem.W.nsIn K mainGlobals "MOST_LENGTH" = some (some (.int 40 gt_MOST_LENGTH)))
    (ga1_STEPS : PySem.W.nsIn K mainGlobals "STEPS" = some (some (.ref ga_STEPS)))
    (gl_STEPS : K.lookup ga_STEPS = some ⟨.type "tuple", gd_STEPS, .seq #[.ref ga_STEPS_0, .ref ga_STEPS_1, .ref ga_STEPS_2] gn_STEPS, gs_STEPS⟩)
    (gl_STEPS_2 : K.lookup ga_STEPS_2 = some ⟨.type "tuple", gd_STEPS_2, .seq #[.int 1 gx_STEPS4, .int 1 gx_STEPS5] gn_STEPS_2, gs_STEPS_2⟩)
    (gl_STEPS_1 : K.lookup ga_STEPS_1 = some ⟨.type "tuple", gd_STEPS_1, .seq #[.int 0 gx_STEPS2, .int 1 gx_STEPS3] gn_STEPS_1, gs_STEPS_1⟩)
    (gl_STEPS_0 : K.lookup ga_STEPS_0 = some ⟨.type "tuple", gd_STEPS_0, .seq #[.int 1 gx_STEPS0, .int 0 gx_STEPS1] gn_STEPS_0, gs_STEPS_0⟩) :
    ∃ fd : FuncData, (∀ (s : Shared) (v : Value), BindsTo s fd ⟨[v], []⟩ [("_law_script", v)]) ∧ ∀ base : Heap, K.In base → base.Ns mainGlobals mg → FnOk l.prog w K mg base CX0 5 fa fd ["_law_script"] (spD K f_law 1) := by
  have e := hfa.symm.trans (PySem.W.mg_of X G a22)
  cases e
  have z_len := PySem.W.mg_none_of X G zz_len
  have z_range := PySem.W.mg_none_of X G zz_range
  have z_abs := PySem.W.mg_none_of X G zz_abs
  have z_min := PySem.W.mg_none_of X G zz_min
  have z_max := PySem.W.mg_none_of X G zz_max
  have z_int := PySem.W.mg_none_of X G zz_int
  have z_enumerate := PySem.W.mg_none_of X G zz_enumerate
  have z_zip := PySem.W.mg_none_of X G zz_zip
  have z_sum := PySem.W.mg_none_of X G zz_sum
  have z_list := PySem.W.mg_none_of X G zz_list
  have q_MOST_LENGTH : ∀ G, Rv K G (.int 40) v_MOST_LENGTH := fun G => .int _
  have m_MOST_LENGTH := PySem.W.mg_of X G ga1_MOST_LENGTH
  have r_MOST_LENGTH : RelV (.int 40) (.int 40 gt_MOST_LENGTH) := ⟨_, rfl⟩
  have q_STEPS : ∀ G, Rv K G (.ref ga_STEPS) v_STEPS := fun G => .tup (xs := [.ref ga_STEPS_0, .ref ga_STEPS_1, .ref ga_STEPS_2]) (.inr ⟨_, _, _, gl_STEPS, rfl, rfl, by show 3 ≤ sizeLine; decide, .cons (rfl) (.cons (rfl) (.cons (rfl) (.nil)))⟩) (.cons (.tup (xs := [.int 1, .int 0]) (.inr ⟨_, _, _, gl_STEPS_0, rfl, rfl, by show 2 ≤ sizeLine; decide, .cons ⟨_, rfl⟩ (.cons ⟨_, rfl⟩ (.nil))⟩) (.cons (.int _) (.cons (.int _) (.nil)))) (.cons (.tup (xs := [.int 0, .int 1]) (.inr ⟨_, _, _, gl_STEPS_1, rfl, rfl, by show 2 ≤ sizeLine; decide, .cons ⟨_, rfl⟩ (.cons ⟨_, rfl⟩ (.nil))⟩) (.cons (.int _) (.cons (.int _) (.nil)))) (.cons (.tup (xs := [.int 1, .int 1]) (.inr ⟨_, _, _, gl_STEPS_2, rfl, rfl, by show 2 ≤ sizeLine; decide, .cons ⟨_, rfl⟩ (.cons ⟨_, rfl⟩ (.nil))⟩) (.cons (.int _) (.cons (.int _) (.nil)))) (.nil))))
  have m_STEPS := PySem.W.mg_of X G ga1_STEPS
  have r_STEPS : RelV (.ref ga_STEPS) (.ref ga_STEPS) := rfl
  have F1 := fun_mk (st := s__law_mixed) l1 c1 k1
  have b1 := F1.binds (ps := ["_law_cell", "_law_k"]) fun _ _ _ _ _ _ us hl => match us, hl with | [_, _], _ => rfl
  have F2 := fun_mk (st := s__law_purse) l2 c2 k2
  have b2 := F2.binds (ps := ["_law_script"]) fun _ _ _ _ _ _ us hl => match us, hl with | [_], _ => rfl
  have F3 := fun_mk (st := s__law_draw) l3 c3 k3
  have b3 := F3.binds (ps := ["_law_purse_here", "_law_out_of"]) fun _ _ _ _ _ _ us hl => match us, hl with | [_, _], _ => rfl
  have F4 := fun_mk (st := s__law_lists) l4 c4 k4
  have b4 := F4.binds (ps := ["_law_purse_here", "_law_most"]) fun _ _ _ _ _ _ us hl => match us, hl with | [_, _], _ => rfl
  have F5 := fun_mk (st := s_must_band) l5 c5 k5
  have b5 := F5.binds (ps := ["band"]) fun _ _ _ _ _ _ us hl => match us, hl with | [_], _ => rfl
  have F6 := fun_mk (st := s_must_length) l6 c6 k6
  have b6 := F6.binds (ps := ["length"]) fun _ _ _ _ _ _ us hl => match us, hl with | [_], _ => rfl
  have F7 := fun_mk (st := s_must_lists) l7 c7 k7
  have b7 := F7.binds (ps := ["one", "other", "band"]) fun _ _ _ _ _ _ us hl => match us, hl with | [_, _, _], _ => rfl
  have F8 := fun_mk (st := s_square_at) l8 c8 k8
  have b8 := F8.binds (ps := ["one", "other", "i", "j"]) fun _ _ _ _ _ _ us hl => match us, hl with | [_, _, _, _], _ => rfl
  have F9 := fun_mk (st := s_places_ahead) l9 c9 k9
  have b9 := F9.binds (ps := ["i", "j", "band"]) fun _ _ _ _ _ _ us hl => match us, hl with | [_, _, _], _ => rfl
  have F10 := fun_mk (st := s_least_sums) l10 c10 k10
  have b10 := F10.binds (ps := ["one", "other", "band"]) fun _ _ _ _ _ _ us hl => match us, hl with | [_, _, _], _ => rfl
  have F11 := fun_mk (st := s_least_sums) l11 c11 k11
  have b11 := F11.binds (ps := ["one", "other", "band"]) fun _ _ _ _ _ _ us hl => match us, hl with | [_, _, _], _ => rfl
  have F12 := fun_mk (st := s_way_by) l12 c12 k12
  have b12 := F12.binds (ps := ["sums", "band"]) fun _ _ _ _ _ _ us hl => match us, hl with | [_, _], _ => rfl
  have F13 := fun_mk (st := s_way_by) l13 c13 k13
  have b13 := F13.binds (ps := ["sums", "band"]) fun _ _ _ _ _ _ us hl => match us, hl with | [_, _], _ => rfl
  have F14 := fun_mk (st := s_bent_paper) l14 c14 k14
  have b14 := F14.binds (ps := ["one", "other", "band"]) fun _ _ _ _ _ _ us hl => match us, hl with | [_, _, _], _ => rfl
  have F15 := fun_mk (st := s_bent_paper) l15 c15 k15
  have b15 := F15.binds (ps := ["one", "other", "band"]) fun _ _ _ _ _ _ us hl => match us, hl with | [_, _, _], _ => rfl
  have F16 := fun_mk (st := s_bent_way) l16 c16 k16
  have b16 := F16.binds (ps := ["one", "other", "band"]) fun _ _ _ _ _ _ us hl => match us, hl with | [_, _, _], _ => rfl
  have F17 := fun_mk (st := s__law_drawn_sum) l17 c17 k17
  have b17 := F17.binds (ps := ["_law_purse_here", "_law_one", "_law_other", "_law_band"]) fun _ _ _ _ _ _ us hl => match us, hl with | [_, _, _, _], _ => rfl
  have F18 := fun_mk (st := s_heights_hold) l18 c18 k18
  have b18 := F18.binds (ps := ["one", "other", "band", "heights"]) fun _ _ _ _ _ _ us hl => match us, hl with | [_, _, _, _], _ => rfl
  have F19 := fun_mk (st := s_is_way) l19 c19 k19
  have b19 := F19.binds (ps := ["one", "other", "band", "way"]) fun _ _ _ _ _ _ us hl => match us, hl with | [_, _, _, _], _ => rfl
  have F20 := fun_mk (st := s_are_heights) l20 c20 k20
  have b20 := F20.binds (ps := ["one", "other", "band", "heights"]) fun _ _ _ _ _ _ us hl => match us, hl with | [_, _, _, _], _ => rfl
  have F21 := fun_mk (st := s_shows_bent) l21 c21 k21
  have b21 := F21.binds (ps := ["one", "other", "band", "paper"]) fun _ _ _ _ _ _ us hl => match us, hl with | [_, _, _, _], _ => rfl
  have F22 := fun_mk (st := s_law) l22 c22 k22
  refine ⟨PySem.W.fnOf "law" "law" (defArgs s_law) (defBody s_law) (defScope s_law) .none kV22 dc22 pm22 an22 cd22 ct22, fun s v => .of_eq rfl, fun base _ _ => ?_⟩
  have h__law_mixed : Has l.prog w K mg base "_law_mixed" 1 2 f__law_mixed := ⟨_, _, _, ok__law_mixed F1 , PySem.W.mg_of X G a1, k1, b1⟩
  have h__law_purse : Has l.prog w K mg base "_law_purse" 2 1 f__law_purse := ⟨_, _, _, ok__law_purse F2 h__law_mixed z_len z_range, PySem.W.mg_of X G a2, k2, b2⟩
  have h__law_draw : Has l.prog w K mg base "_law_draw" 1 2 f__law_draw := ⟨_, _, _, ok__law_draw F3 , PySem.W.mg_of X G a3, k3, b3⟩
  have h__law_lists : Has l.prog w K mg base "_law_lists" 2 2 f__law_lists := ⟨_, _, _, ok__law_lists F4 h__law_draw z_range, PySem.W.mg_of X G a4, k4, b4⟩
  have h_must_band : Has l.prog w K mg base "must_band" 1 1 f_must_band := ⟨_, _, _, ok_must_band F5 m_MOST_LENGTH r_MOST_LENGTH q_MOST_LENGTH, PySem.W.mg_of X G a5, k5, b5⟩
  have h_must_length : Has l.prog w K mg base "must_length" 1 1 f_must_length := ⟨_, _, _, ok_must_length F6 m_MOST_LENGTH r_MOST_LENGTH q_MOST_LENGTH, PySem.W.mg_of X G a6, k6, b6⟩
  have h_must_lists : Has l.prog w K mg base "must_lists" 2 3 f_must_lists := ⟨_, _, _, ok_must_lists F7 h_must_band h_must_length z_len, PySem.W.mg_of X G a7, k7, b7⟩
  have h_square_at : Has l.prog w K mg base "square_at" 1 4 f_square_at := ⟨_, _, _, ok_square_at F8 , PySem.W.mg_of X G a8, k8, b8⟩
  have h_places_ahead : Has l.prog w K mg base "places_ahead" 1 3 f_places_ahead := ⟨_, _, _, ok_places_ahead F9 z_abs m_STEPS r_STEPS q_STEPS, PySem.W.mg_of X G a9, k9, b9⟩
  have h_least_sums : Has l.prog w K mg base "least_sums" 2 3 f_least_sums := ⟨_, _, _, ok_least_sums F10 h_places_ahead h_square_at z_len z_min z_max z_range, PySem.W.mg_of X G a10, k10, b10⟩
  have h_least_sums_W : HasW l.prog w K mg base "least_sums" 2 3 f_least_sums_W := ⟨_, _, _, ok_least_sums_W F11 h_places_ahead h_square_at z_len z_min z_max z_range, PySem.W.mg_of X G a11, k11, b11⟩
  have h_way_by : Has l.prog w K mg base "way_by" 2 2 f_way_by := ⟨_, _, _, ok_way_by F12 h_places_ahead z_len z_min, PySem.W.mg_of X G a12, k12, b12⟩
  have h_way_by_W : HasW l.prog w K mg base "way_by" 2 2 f_way_by_W := ⟨_, _, _, ok_way_by_W F13 h_places_ahead z_len z_min, PySem.W.mg_of X G a13, k13, b13⟩
  have h_bent_paper : Has l.prog w K mg base "bent_paper" 3 3 f_bent_paper := ⟨_, _, _, ok_bent_paper F14 h_must_lists h_least_sums h_way_by z_len z_abs, PySem.W.mg_of X G a14, k14, b14⟩
  have h_bent_paper_W : HasW l.prog w K mg base "bent_paper" 3 3 f_bent_paper_W := ⟨_, _, _, ok_bent_paper_W F15 h_least_sums_W h_way_by_W h_must_lists z_len z_abs, PySem.W.mg_of X G a15, k15, b15⟩
  have h_bent_way : Has l.prog w K mg base "bent_way" 4 3 f_bent_way := ⟨_, _, _, ok_bent_way F16 h_bent_paper, PySem.W.mg_of X G a16, k16, b16⟩
  have h__law_drawn_sum : Has l.prog w K mg base "_law_drawn_sum" 2 4 f__law_drawn_sum := ⟨_, _, _, ok__law_drawn_sum F17 h__law_draw z_len z_abs z_int, PySem.W.mg_of X G a17, k17, b17⟩
  have h_heights_hold : Has l.prog w K mg base "heights_hold" 2 4 f_heights_hold := ⟨_, _, _, ok_heights_hold F18 h_square_at h_places_ahead z_enumerate, PySem.W.mg_of X G a18, k18, b18⟩
  have h_is_way : Has l.prog w K mg base "is_way" 1 4 f_is_way := ⟨_, _, _, ok_is_way F19 z_len z_abs z_zip m_STEPS r_STEPS q_STEPS, PySem.W.mg_of X G a19, k19, b19⟩
  have h_are_heights : Has l.prog w K mg base "are_heights" 1 4 f_are_heights := ⟨_, _, _, ok_are_heights F20 z_len z_abs z_enumerate, PySem.W.mg_of X G a20, k20, b20⟩
  have h_shows_bent : Has l.prog w K mg base "shows_bent" 3 4 f_shows_bent := ⟨_, _, _, ok_shows_bent F21 h_must_lists h_is_way h_are_heights h_square_at h_heights_hold z_sum, PySem.W.mg_of X G a21, k21, b21⟩
  exact ok_law F22 h_bent_paper_W h__law_purse h__law_lists h_bent_way h_shows_bent h__law_drawn_sum h__law_draw z_len z_abs z_range z_enumerate z_list
end Lk95
end PWk95
section PMk95
set_option linter.all false
set_option maxHeartbeats 1000000
set_option maxRecDepth 100000
namespace Lk95
open Rw
theorem beforeW_ok {M : DSt} {m n b i j : Nat} {g : Nat → Nat → D} {h : Nat → Nat → Int} {S : WSt} {u0 u1 : Option Wv} {P : Wv × WSt → Prop} (LS : LsS M m n g S) (hi : i < m) (hj : j < n) (hg : ∀ x ∈ ahd b i j, g x.1 x.2 = .int (h x.1 x.2))
    (k : ∀ S', LsS M m n g S' → (∀ q, q < M.length → S'.N q = S.N q) → P (.v (.d (.lst (((ahd b i j).map fun x => h x.1 x.2).map D.int))), S')) :
    Ok (wFrz (wComp (iS (eFrz (eCall f_places_ahead (aCons (eVar 4) (aCons (eVar 5) (aCons (eVar 2) aNil)))))) (.tup [.name 8, .name 9]) wYes (w2 oIx (wIx (wVar 3) (eVar 8)) (wE (eVar 9))) [8, 9]) [u0, u1, some (.v (.d (.int b))), some (.l (M.length + m)), some (.v (.d (.int i))), some (.v (.d (.int j))), none, none, none, none] S) P := by
  have pa := fun M => places_ahead_ok (M := M) (i := i) (j := j) (b := b)
  have ql : (ahd b i j).length ≤ 3 := by
    unfold ahd
    have p1 : ∀ (c : Prop) [Decidable c] (x : Nat × Nat), (if c then [x] else []).length ≤ 1 := fun c _ x => by split <;> simp
    have := p1 (1 ≤ i ∧ inB b (i - 1) j = true) (i - 1, j)
    have := p1 (1 ≤ j ∧ inB b i (j - 1) = true) (i, j - 1)
    have := p1 (1 ≤ i ∧ 1 ≤ j ∧ inB b (i - 1) (j - 1) = true) (i - 1, j - 1)
    simp only [List.length_append]
    omega
  rw [ok_wFrz]
  simp [flE, Wv.fl, ↓okE (pa _), ↓ok_frz rfl]
  obtain ⟨SM, SN⟩ := S
  obtain ⟨h1, h2⟩ := LS
  simp only at h1 h2
  subst h1
  refine ⟨by omega, ?_⟩
  have qm : ∀ x ∈ ahd b i j, x.1 < m ∧ x.2 < n := fun x hx => by have := ahd_mem hx; omega
  have cs := comp_sameW (chk := fun S' => True) (step := cstepW (.tup [.name 8, .name 9]) wYes (w2 oIx (wIx (wVar 3) (eVar 8)) (wE (eVar 9))) [u0, u1, some (.v (.d (.int b))), some (.l (M.length + m)), some (.v (.d (.int i))), some (.v (.d (.int j))), none, none, none, none]) (e := prD) (w := fun x => .v (.d (.int (h x.1 x.2)))) (S := ⟨stG M m n g, SN⟩) trivial (ahd b i j) (fun x hx => by
    obtain ⟨q1, q2⟩ := qm x hx
    have ca := cellsW_at (c0 := M.length) q1
    have sa := stG_at (M := M) (n := n) (g := g) q1
    have ra := rowG_at (i := x.1) (g := g) q2
    rw [hg x hx] at ra
    have ea : atW (cellsW M.length m) (x.1 : Int) = some (.v (.c (M.length + x.1))) := by
      unfold atW
      rw [show (cellsW M.length m).length = m by simp [cellsW], ix_nat q1]
      simp [ca]
    apply ok_eq
    have ix : oIx (.c (M.length + x.1)) (.d (.int (x.2 : Int))) (stG M m n g) = some (.d (.int (h x.1 x.2)), stG M m n g) := by
      unfold oIx
      simp only [sv, lv, sa, Option.join_some, rowG_len, ix_nat q2, ra]
    simp [prD, itemsW, h2, flE, Wv.fl, ↓okE ea, ↓okE ix])
  rw [okE cs]
  have rl : rs (stG M m n g).length 5 (newL ((ahd b i j).map fun x => Wv.v (.d (.int (h x.1 x.2)))) ⟨stG M m n g, SN⟩).2 (newL ((ahd b i j).map fun x => Wv.v (.d (.int (h x.1 x.2)))) ⟨stG M m n g, SN⟩).1 = some (.lst (((ahd b i j).map fun x => h x.1 x.2).map D.int)) := by
    unfold newL
    simp only
    rw [rs_l (ws := (ahd b i j).map fun x => Wv.v (.d (.int (h x.1 x.2)))) (Nat.le_refl _) (by simp [upN]), rsL_map (α := Nat × Nat) (g := fun x => Wv.v (.d (.int (h x.1 x.2)))) (h := fun x => .int (h x.1 x.2))]
    · simp
    · intro x _
      simp [rs]
  have nl : ∀ q, q < (stG M m n g).length → (newL ((ahd b i j).map fun x => Wv.v (.d (.int (h x.1 x.2)))) ⟨stG M m n g, SN⟩).2.N q = SN q := by
    intro q hq
    unfold newL
    simp [upN]
    omega
  have nm : (newL ((ahd b i j).map fun x => Wv.v (.d (.int (h x.1 x.2)))) ⟨stG M m n g, SN⟩).2.M.take (stG M m n g).length = stG M m n g := by
    unfold newL
    simp
  simp only [okE rl]
  refine ⟨nl, ?_⟩
  rw [nm]
  have hlt : M.length + m < (stG M m n g).length := by rw [stG_len]; omega
  refine k _ ⟨rfl, ?_⟩ ?_
  · simp only [hlt, if_true]
    rw [nl _ hlt]
    exact h2
  · intro q hq
    have hq2 : q < (stG M m n g).length := by omega
    simp only [hq2, if_true]
    exact nl _ hq2
/-- the deep list, and what stood below -/
def LsK (M : DSt) (N0 : Nat → Option (List Wv)) (m n : Nat) (g : Nat → Nat → D) (S : WSt) : Prop := LsS M m n g S ∧ ∀ q, q < M.length → S.N q = N0 q
theorem least_sumsW_ok {M : DSt} {N0 : Nat → Option (List Wv)} {xs ys : List Int} {b : Nat} (hx : Row 10 xs) (hy : Row 10 ys) (hb : b ≤ 1000) : Ok (f_least_sums_W [.v (.d (rowD xs)), .v (.d (rowD ys)), .v (.d (.int b))] ⟨M, N0⟩) fun p => p.1 = .l (M.length + xs.length) ∧ LsK M N0 xs.length ys.length (gD (hZ (sqZ xs ys) b) b xs.length 0) p.2 := by
  unfold f_least_sums_W
  rw [ok_fnW]
  simp [b_least_sums_W, startW, -seqPW_nx, rowD]
  have xl := hx.2
  have yl := hy.2
  refine ⟨by omega, ?_⟩
  have om : ∀ M, oMulU true (.d (.lst [.non])) (.d (.int ys.length)) M = some (.c M.length, M ++ [some (List.replicate ys.length .non)]) := fun M => by
    simp only [oMulU, oRep, lw]
    rw [grd_ok (by simp; omega)]
    simp [mkL]
  have c0 := comp_cellsW (α := Int) (e := D.int) (w := fun _ => List.replicate ys.length D.non) (chk := fun S' => True) (step := cstepW (.name 7) wYes (wE (e2 (oMulU true) (eLst false (aCons (eC .non) aNil)) (eA oLen (aCons (eVar 1) aNil)))) [some (.v (.d (.lst (xs.map D.int)))), some (.v (.d (.lst (ys.map D.int)))), some (.v (.d (.int b))), none, none, none, none, none, none, none]) (fun _ => trivial) xs ⟨M, N0⟩ (fun x _ S => by
    apply ok_eq
    simp [-ok_rep, ↓okE (om _)])
  rw [okE c0]
  simp only [newL]
  have st0 : M ++ xs.map (fun _ => some (List.replicate ys.length D.non)) ++ [none] = stG M xs.length ys.length (gD (hZ (sqZ xs ys) b) b 0 0) := by
    unfold stG
    congr 2
    apply List.ext_getElem
    · simp
    · intro k h1 h2
      simp [rowG]
      apply List.ext_getElem
      · simp
      · intro c h3 h4
        simp [gD]
  rw [st0]
  have ml : (M ++ xs.map (fun _ => some (List.replicate ys.length D.non))).length = M.length + xs.length := by simp
  rw [ml]
  have L0 : LsK M N0 xs.length ys.length (gD (hZ (sqZ xs ys) b) b 0 0) ⟨stG M xs.length ys.length (gD (hZ (sqZ xs ys) b) b 0 0), upN N0 (M.length + xs.length) (cellsW M.length xs.length)⟩ := ⟨⟨rfl, by simp [upN]⟩, fun q hq => by simp [upN]; omega⟩
  generalize hS0 : (⟨stG M xs.length ys.length (gD (hZ (sqZ xs ys) b) b 0 0), upN N0 (M.length + xs.length) (cellsW M.length xs.length)⟩ : WSt) = S0 at *
  clear hS0 st0 ml c0 om
  refine seqPW_nx.mpr ?_
  simp [-seqPW_nx]
  refine ⟨by omega, ?_⟩
  let env : WEnv := [some (.v (.d (.lst (xs.map D.int)))), some (.v (.d (.lst (ys.map D.int)))), some (.v (.d (.int b))), some (.l (M.length + xs.length)), none, none, none, none, none, none]
  refine forW_by _ (fun k ρ S => LsK M N0 xs.length ys.length (gD (hZ (sqZ xs ys) b) b k 0) S ∧ ρ = env) ⟨L0, rfl⟩ ?_ ?_
  · rintro i x ρ S hxi ⟨LS, rfl⟩
    obtain ⟨hi, rfl⟩ := rng_at.mp hxi
    refine ⟨by simp, ?_⟩
    have mx : (if b < i then (i : Int) - b else 0) = ((i - b : Nat) : Int) := by split <;> omega
    have mn : (if (i : Int) + b + 1 < (ys.length : Int) then (i : Int) + b + 1 else (ys.length : Int)) = ((min ys.length (i + b + 1) : Nat) : Int) := by split <;> omega
    simp [env, -seqPW_nx]
    rw [mx, mn]
    refine ⟨by omega, ?_⟩
    rw [show (((min ys.length (i + b + 1) : Nat) : Int) - ((i - b : Nat) : Int)).toNat = min ys.length (i + b + 1) - (i - b) by omega]
    refine forW_by _ (fun k ρ S => LsK M N0 xs.length ys.length (gD (hZ (sqZ xs ys) b) b i (i - b + k)) S ∧ ρ = [some (.v (.d (.lst (xs.map D.int)))), some (.v (.d (.lst (ys.map D.int)))), some (.v (.d (.int b))), some (.l (M.length + xs.length)), some (.v (.d (.int i))), none, none, none, none, none]) ⟨?_, rfl⟩ ?_ ?_
    · obtain ⟨⟨l1, l2⟩, l3⟩ := LS
      refine ⟨⟨?_, l2⟩, l3⟩
      show S.M = _
      rw [l1]
      refine stG_congr fun a c _ _ => ?_
      unfold gD
      by_cases hb1 : inB b a c = true
      · have hb2 := hb1
        unfold inB at hb2
        rw [decide_eq_true_eq] at hb2
        have : (a < i ∨ a = i ∧ c < 0) ↔ (a < i ∨ a = i ∧ c < i - b + 0) := by omega
        simp only [hb1, true_and, this]
      · simp [hb1]
    · rintro k x ρ S1 hxk ⟨LS1, rfl⟩
      obtain ⟨hk, rfl⟩ := rng_at.mp hxk
      refine ⟨by simp, ?_⟩
      have ej : (((i - b : Nat) : Int) + (k : Int)) = ((i - b + k : Nat) : Int) := by omega
      rw [ej, show i - b + (k + 1) = (i - b + k) + 1 by omega]
      have hj : i - b + k < ys.length := by omega
      have hjb : i - b + k ≤ i + b := by omega
      have hjl : i ≤ i - b + k + b := by omega
      generalize i - b + k = j at *
      have hin : inB b i j = true := by unfold inB; rw [decide_eq_true_eq]; omega
      have sa := fun M => square_at_eq (M := M) hx hy hi hj
      simp only [rowD] at sa
      simp [-seqPW_nx, -ok_wFrz]
      refine beforeW_ok (h := hZ (sqZ xs ys) b) LS1.1 hi hj (fun x hxm => ?_) fun S2 LS2 LN2 => ?_
      · have := ahd_mem hxm
        unfold gD
        rw [if_pos ⟨this.1, by omega⟩]
      have hs := hZ_step (sq := sqZ xs ys) (b := b) (i := i) (j := j)
      generalize hZ (sqZ xs ys) b = h at *
      have qn : (ahd b i j).map (fun x => h x.1 x.2) = [] → lsZ ((ahd b i j).map fun x => h x.1 x.2) = 0 := fun e => by rw [e]; rfl
      generalize (ahd b i j).map (fun x => h x.1 x.2) = Q at *
      obtain ⟨l1, l2⟩ := LS2
      have l3 : ∀ q, q < M.length → S2.N q = N0 q := fun q hq => (LN2 q hq).trans (LS1.2 q hq)
      clear LN2
      obtain ⟨SM, SN⟩ := S2
      simp only at l1 l2 l3
      subst l1
      have ca := cellsW_at (c0 := M.length) hi
      have eat : atW (cellsW M.length xs.length) (i : Int) = some (.v (.c (M.length + i))) := by
        unfold atW
        rw [show (cellsW M.length xs.length).length = xs.length by simp [cellsW], ix_nat hi]
        simp [ca]
      let ρ1 : WEnv := [some (.v (.d (.lst (xs.map D.int)))), some (.v (.d (.lst (ys.map D.int)))), some (.v (.d (.int b))), some (.l (M.length + xs.length)), some (.v (.d (.int i))), some (.v (.d (.int j))), some (.v (.d (.lst (Q.map D.int)))), none, none, none]
      have ea : ∀ SM, (wIx (wVar 3) (eVar 4)) ρ1 ⟨SM, SN⟩ = some (.v (.c (M.length + i)), ⟨SM, SN⟩) := fun SM => by
        apply ok_eq
        simp [ρ1, itemsW, l2, ↓okE eat]
      have ei : ∀ SM, wE (eVar 5) ρ1 ⟨SM, SN⟩ = some (.v (.d (.int j)), ⟨SM, SN⟩) := fun SM => by
        apply ok_eq
        simp [ρ1]
      have es : ∀ SM, wE (eCall f_square_at (aCons (eVar 0) (aCons (eVar 1) (aCons (eVar 4) (aCons (eVar 5) aNil))))) ρ1 ⟨SM, SN⟩ = some (.v (.d (.int (sqZ xs ys i j))), ⟨SM, SN⟩) := fun SM => by
        apply ok_eq
        simp [ρ1, ↓okE (sa _)]
      have ix : ∀ g, ixD (rowG ys.length g i).length (j : Int) = some j := fun g => by rw [rowG_len]; exact ix_nat hj
      have p1 := sPut_c (S := ⟨stG M xs.length ys.length (gD h b i j), SN⟩) (es _) (ea _) (ei _) (stG_at (M := M) (n := ys.length) (g := gD h b i j) hi) (ix _)
      have g1 : (stG M xs.length ys.length (gD h b i j)).set (M.length + i) (some ((rowG ys.length (gD h b i j) i).set j (.int (sqZ xs ys i j)))) = stG M xs.length ys.length (fun a c => if a = i ∧ c = j then .int (sqZ xs ys i j) else gD h b i j a c) := stG_set hi hj fun _ _ _ _ => rfl
      simp only [setC] at p1
      rw [g1] at p1
      have gfin : ∀ v : Int, v = h i j → ∀ a c, (if a = i ∧ c = j then D.int v else gD h b i j a c) = gD h b i (j + 1) a c := by
        intro v hv a c
        unfold gD
        by_cases e : a = i ∧ c = j
        · obtain ⟨rfl, rfl⟩ := e
          rw [if_pos ⟨rfl, rfl⟩, if_pos ⟨hin, by omega⟩, hv]
        · rw [if_neg e]
          by_cases hb1 : inB b a c = true
          · have : (a < i ∨ a = i ∧ c < j) ↔ (a < i ∨ a = i ∧ c < j + 1) := by omega
            simp only [hb1, true_and, this]
          · simp [hb1]
      refine seqPW_nx.mpr ?_
      rw [ok_sSeq, okE p1]
      refine seqPW_nx.mpr ?_
      by_cases hq : Q = []
      · have e0 : h i j = sqZ xs ys i j := by rw [hs, qn hq]; omega
        subst hq
        have nil : (D.lst []).shp 9 = true := rfl
        simp [ρ1, ↓ok_neSame nil]
        exact ⟨⟨stG_congr fun a c _ _ => gfin _ e0.symm a c, l2⟩, l3⟩
      · have nE : D.eqv (.lst (Q.map D.int)) (.lst []) = false := by
          cases Q with
          | nil => exact absurd rfl hq
          | cons x r => rfl
        have n9 : (D.lst (Q.map D.int)).shp 9 = true := by simp [D.shp]
        have nil : (D.lst []).shp 9 = true := rfl
        have em : ∀ SM, wE (eA oMin1 (aCons (eVar 6) aNil)) ρ1 ⟨SM, SN⟩ = some (.v (.d (.int (minZ Q))), ⟨SM, SN⟩) := fun SM => by
          apply ok_eq
          have o1 : oMin1 [.d (.lst (Q.map D.int))] SM = some (.d (.int (minZ Q)), SM) := by
            simp only [oMin1, lv, intsD_map]
            rw [grd_ok (List.length_pos_iff.mpr hq)]
          simp [ρ1, ↓okE o1]
        have rx : (rowG ys.length (fun a c => if a = i ∧ c = j then D.int (sqZ xs ys i j) else gD h b i j a c) i)[j]? = some (.int (sqZ xs ys i j)) := by
          rw [rowG_at hj]
          simp
        have p2 := sAugS_c (S := ⟨stG M xs.length ys.length (fun a c => if a = i ∧ c = j then D.int (sqZ xs ys i j) else gD h b i j a c), SN⟩) (f := oI fun i j => .int (i + j)) (z := .int (sqZ xs ys i j + minZ Q)) (ea _) (ei _) (stG_at (M := M) (n := ys.length) (g := fun a c => if a = i ∧ c = j then D.int (sqZ xs ys i j) else gD h b i j a c) hi) (ix _) rx (em _) rfl
        simp only [setC] at p2
        have g2 : (stG M xs.length ys.length (fun a c => if a = i ∧ c = j then D.int (sqZ xs ys i j) else gD h b i j a c)).set (M.length + i) (some ((rowG ys.length (fun a c => if a = i ∧ c = j then D.int (sqZ xs ys i j) else gD h b i j a c) i).set j (.int (sqZ xs ys i j + minZ Q)))) = stG M xs.length ys.length (gD h b i (j + 1)) := stG_set hi hj fun a c _ _ => by
          rw [← gfin (sqZ xs ys i j + minZ Q) (by rw [hs, lsZ_eq]) a c]
          by_cases e : a = i ∧ c = j <;> simp [e]
        rw [g2] at p2
        rw [ok_sIf]
        simp [ρ1, ↓ok_neD n9 nil, nE]
        rw [okE p2]
        simp [ρ1]
        exact ⟨⟨rfl, l2⟩, l3⟩
    · rintro ρ S1 ⟨LS1, rfl⟩
      refine ⟨by simp, ?_⟩
      simp only [rng, List.length_map, List.length_range] at LS1
      simp [env]
      obtain ⟨⟨l1, l2⟩, l3⟩ := LS1
      refine ⟨⟨?_, l2⟩, l3⟩
      rw [l1]
      refine stG_congr fun a c _ hc => ?_
      unfold gD
      by_cases hb1 : inB b a c = true
      · have hb2 := hb1
        unfold inB at hb2
        rw [decide_eq_true_eq] at hb2
        have : (a < i ∨ a = i ∧ c < i - b + (min ys.length (i + b + 1) - (i - b))) ↔ (a < i + 1 ∨ a = i + 1 ∧ c < 0) := by omega
        simp only [hb1, true_and, this]
      · simp [hb1]
  · rintro ρ S ⟨LS, rfl⟩
    refine ⟨by simp, ?_⟩
    simp only [rng, List.length_map, List.length_range] at LS
    refine seqPW_nx.mpr ?_
    simp [env]
    exact LS
theorem cells_at {c0 k i : Nat} (h : i < k) : atW (cellsW c0 k) (i : Int) = some (.v (.c (c0 + i))) := by
  unfold atW
  rw [show (cellsW c0 k).length = k by simp [cellsW], ix_nat h]
  simp [cellsW_at (c0 := c0) h]
def WyW (sq : Nat → Nat → Int) (b m n : Nat) (A : DSt) (N0 : Nat → Option (List Wv)) (env : WEnv) (k : Nat) (ρ : WEnv) (S : WSt) : Prop := ∃ (R : List (Nat × Nat)) (i j : Nat), k = i + j ∧ inB b i j = true ∧ i ≤ m ∧ j ≤ n ∧ R.length + i + j ≤ m + n ∧ Tl sq b m n (R ++ [(i, j)]) i j ∧ S.M = A ++ [some (R.map prD ++ [prD (i, j)])] ∧ (∀ q, q < A.length → S.N q = N0 q) ∧ ρ = env
theorem way_byW_ok {M : DSt} {N0 : Nat → Option (List Wv)} {sq : Nat → Nat → Int} {b m n : Nat} {g : Nat → Nat → D} (LN : N0 (M.length + (m + 1)) = some (cellsW M.length (m + 1))) (hg : ∀ i j, i ≤ m → j ≤ n → inB b i j = true → g i j = .int (hZ sq b i j)) (hb : inB b m n = true) (hm : m ≤ 100) (hn : n ≤ 100) : Ok (f_way_by_W [.l (M.length + (m + 1)), .v (.d (.int b))] ⟨stG M (m + 1) (n + 1) g, N0⟩) fun p => ∃ W jk, Wl sq b W m n (hZ sq b m n) ∧ p.1 = .v (.c (M.length + m + 3)) ∧ p.2.M = stG M (m + 1) (n + 1) g ++ [some jk, some (W.map prD)] ∧ ∀ q, q < M.length + m + 2 → p.2.N q = N0 q := by
  unfold f_way_by_W
  rw [ok_fnW]
  have ca := fun i (hi : i < m + 1) => cells_at (c0 := M.length) hi
  have c0 : atW (cellsW M.length (m + 1)) 0 = some (.v (.c (M.length + 0))) := ca 0 (by omega)
  have g0 := stG_at (M := M) (m := m + 1) (n := n + 1) (i := 0) (g := g) (by omega)
  have gl : (stG M (m + 1) (n + 1) g).length = M.length + m + 2 := by rw [stG_len]; omega
  have ga : ∀ i, i < m + 1 → ∀ B, (stG M (m + 1) (n + 1) g ++ B)[M.length + i]? = some (some (rowG (n + 1) g i)) := fun i hi B => by
    rw [List.getElem?_append_left (by omega)]
    exact stG_at hi
  have cl : (cellsW M.length (m + 1)).length = m + 1 := by simp [cellsW]
  generalize stG M (m + 1) (n + 1) g = A at *
  simp only [Nat.add_zero] at g0 c0
  simp [b_way_by_W, startW, -seqPW_nx, itemsW, LN, cl, ↓okE c0, celOk g0, rowG_len, mkT, allW, allF, allD]
  refine seqPW_nx.mpr ?_
  have e2 : ((n : Int) + 1 - 1) = (n : Int) := by omega
  rw [ok_sSeq]
  let env : WEnv := [some (.l (M.length + (m + 1))), some (.v (.d (.int b))), some (.v (.c A.length)), none, none, none]
  refine whileW_by (WyW sq b m n A N0 env) (m + n) ⟨[], m, n, rfl, hb, by omega, by omega, by simp, Tl.start, by simp [prD], fun _ _ => rfl, rfl⟩ ?_
  rintro k ρ ⟨SM, SN⟩ ⟨R, i, j, rfl, hij, hi, hj, hR, hT, hSM, hN, rfl⟩
  simp only at hSM hN
  subst hSM
  have hcl : (A ++ [some (R.map prD ++ [prD (i, j)])])[A.length]? = some (some (R.map prD ++ [prD (i, j)])) := by simp
  have la : atD (R.map prD ++ [prD (i, j)]) (-1) = some (prD (i, j)) := lastAt
  have s1 : (prD (i, j)).shp 9 = true := by simp [prD, D.shp]
  have s2 : (D.tup [.int 0, .int 0]).shp 9 = true := rfl
  by_cases h0 : i = 0 ∧ j = 0
  · obtain ⟨rfl, rfl⟩ := h0
    have ev : D.eqv (prD (0, 0)) (.tup [.int 0, .int 0]) = true := by simp [prD, D.eqv, D.eqvs]
    have rv : oRev true (.c A.length) (A ++ [some (R.map prD ++ [prD (0, 0)])]) = some (.c (A.length + 1), (A ++ [some (R.map prD ++ [prD (0, 0)])]) ++ [some (R.map prD ++ [prD (0, 0)]).reverse]) := by
      simp [oRev, sv, lv, mkL]
    simp [env, celOk hcl, ↓okE la, ↓ok_neD s1 s2, ev]
    rw [okE rv]
    simp only [finPW]
    refine ⟨_, hT.done, ?_, ⟨R.map prD ++ [prD (0, 0)], by simp⟩, ?_⟩
    · rw [gl]
    · intro q hq
      exact hN q (by omega)
  · have ev : D.eqv (prD (i, j)) (.tup [.int 0, .int 0]) = false := by
      simp [prD, D.eqv, D.eqvs]
      omega
    have pa := fun M => places_ahead_ok (M := M) (i := i) (j := j) (b := b)
    have pl0 : ∀ M, oIx (.d (prD (i, j))) (.d (.int 0)) M = some (.d (.int i), M) := fun M => by simp [oIx, prD, sv, ixD]
    have pl1 : ∀ M, oIx (.d (prD (i, j))) (.d (.int 1)) M = some (.d (.int j), M) := fun M => by simp [oIx, prD, sv, ixD]
    have LN' : SN (M.length + (m + 1)) = some (cellsW M.length (m + 1)) := by rw [hN _ (by omega)]; exact LN
    simp [env, celOk hcl, ↓okE la, ↓ok_neD s1 s2, ev, -seqPW_nx, ↓okE (pl0 _), ↓okE (pl1 _), ↓okE (pa _), ↓ok_frz rfl]
    have ne := ahd_ne hij h0
    have am := fun x => ahd_mem (b := b) (i := i) (j := j) (x := x)
    have tst := fun y hy hl => hT.step (a := (y : Nat × Nat).1) (c := y.2) hy hij (least_ahd hy hl)
    have ql := ahd_len (b := b) (i := i) (j := j)
    generalize ahd b i j = Q at *
    have fz : frz (A.length + 1) (Dv.c (A.length + 1), A ++ [some (R.map prD ++ [prD (i, j)]), some (Q.map prD)]) = some (.d (.lst (Q.map prD)), A ++ [some (R.map prD ++ [prD (i, j)])]) := by
      simp [frz, lv]
      have : A ++ [some (R.map prD ++ [prD (i, j)]), some (Q.map prD)] = (A ++ [some (R.map prD ++ [prD (i, j)])]) ++ [some (Q.map prD)] := by simp
      rw [this]
      exact List.take_left' (by simp)
    rw [okE fz]
    simp only [sv, lv, ok_some]
    refine ⟨by rw [List.length_map]; omega, ?_⟩
    have cs := comp_sameW (chk := fun S' => stand (cellsOf (.d (.lst (Q.map prD)))) (A ++ [some (R.map prD ++ [prD (i, j)])]) S'.M) (step := cstepW (.tup [.name 4, .name 5]) wYes (wTup (wCons (w2 oIx (wIx (wVar 0) (eVar 4)) (wE (eVar 5))) (wCons (wE (eVar 4)) (wCons (wE (eVar 5)) wNil)))) env) (e := prD) (w := fun x => .v (.d (bkD true (hZ sq b x.1 x.2 :: [(x.1 : Int), (x.2 : Int)])))) (S := ⟨A ++ [some (R.map prD ++ [prD (i, j)])], SN⟩) (by simp [stand, cellsOf]) Q (fun x hx => by
      have hm1 := am x hx
      have ea := ca x.1 (by omega)
      have sa := ga x.1 (by omega) [some (R.map prD ++ [prD (i, j)])]
      have ra := rowG_at (n := n + 1) (i := x.1) (j := x.2) (g := g) (by omega)
      rw [hg x.1 x.2 (by omega) (by omega) hm1.1] at ra
      have hj2 : x.2 < n + 1 := by omega
      apply ok_eq
      have px : prD x = .tup [.int x.1, .int x.2] := rfl
      rw [px]
      simp [env, itemsW, LN', flE, Wv.fl, ↓okE ea, celOk sa, ok_atN ra, mkT, allW, bkD])
    rw [okE cs]
    have rl : rs (A.length + 1) 5 (newL (Q.map fun x => Wv.v (.d (bkD true (hZ sq b x.1 x.2 :: [(x.1 : Int), (x.2 : Int)])))) ⟨A ++ [some (R.map prD ++ [prD (i, j)])], SN⟩).2 (newL (Q.map fun x => Wv.v (.d (bkD true (hZ sq b x.1 x.2 :: [(x.1 : Int), (x.2 : Int)])))) ⟨A ++ [some (R.map prD ++ [prD (i, j)])], SN⟩).1 = some (.lst (Q.map fun x => bkD true (hZ sq b x.1 x.2 :: [(x.1 : Int), (x.2 : Int)]))) := by
      unfold newL
      simp only
      rw [rs_l (ws := Q.map fun x => Wv.v (.d (bkD true (hZ sq b x.1 x.2 :: [(x.1 : Int), (x.2 : Int)])))) (by simp) (by simp [upN]), rsL_map (α := Nat × Nat) (g := fun x => Wv.v (.d (bkD true (hZ sq b x.1 x.2 :: [(x.1 : Int), (x.2 : Int)])))) (h := fun x => bkD true (hZ sq b x.1 x.2 :: [(x.1 : Int), (x.2 : Int)]))]
      · simp
      · intro x _
        simp [rs]
    have nl : ∀ q, q < A.length + 1 → (newL (Q.map fun x => Wv.v (.d (bkD true (hZ sq b x.1 x.2 :: [(x.1 : Int), (x.2 : Int)])))) ⟨A ++ [some (R.map prD ++ [prD (i, j)])], SN⟩).2.N q = SN q := by
      intro q hq
      unfold newL
      simp [upN]
      omega
    have nm : (newL (Q.map fun x => Wv.v (.d (bkD true (hZ sq b x.1 x.2 :: [(x.1 : Int), (x.2 : Int)])))) ⟨A ++ [some (R.map prD ++ [prD (i, j)])], SN⟩).2.M.take (A.length + 1) = A ++ [some (R.map prD ++ [prD (i, j)])] := by
      unfold newL
      exact List.take_left' (by simp)
    simp only [okE rl, nm]
    refine ⟨nl, ?_⟩
    have nf : ∀ q, q < A.length → (fun q => if q < A.length + 1 then (newL (Q.map fun x => Wv.v (.d (bkD true (hZ sq b x.1 x.2 :: [(x.1 : Int), (x.2 : Int)])))) ⟨A ++ [some (R.map prD ++ [prD (i, j)])], SN⟩).2.N q else none) q = N0 q := fun q hq => by
      simp only [show q < A.length + 1 by omega, if_true]
      rw [nl q (by omega)]
      exact hN q hq
    generalize (fun q => if q < A.length + 1 then (newL (Q.map fun x => Wv.v (.d (bkD true (hZ sq b x.1 x.2 :: [(x.1 : Int), (x.2 : Int)])))) ⟨A ++ [some (R.map prD ++ [prD (i, j)])], SN⟩).2.N q else none) = N3 at *
    cases Q with
    | nil => exact absurd rfl ne
    | cons z Q =>
      obtain ⟨y, y1, y2, y3⟩ := minL_head (f := fun x : Nat × Nat => hZ sq b x.1 x.2) (g := fun x : Nat × Nat => [(x.1 : Int), (x.2 : Int)]) Q z
      have om : ∀ M, oMinT [.d (.lst ((z :: Q).map fun x : Nat × Nat => bkD true (hZ sq b x.1 x.2 :: [(x.1 : Int), (x.2 : Int)])))] M = some (.d (.tup [.int (hZ sq b y.1 y.2), .int y.1, .int y.2]), M) := by
        intro M
        have e : ((z :: Q).map fun x : Nat × Nat => bkD true (hZ sq b x.1 x.2 :: [(x.1 : Int), (x.2 : Int)])) = ((hZ sq b z.1 z.2 :: [(z.1 : Int), (z.2 : Int)]) :: Q.map fun x : Nat × Nat => hZ sq b x.1 x.2 :: [(x.1 : Int), (x.2 : Int)]).map (bkD true) := by simp
        rw [e]
        simp only [oMinT, lv, rowsT_map]
        rw [y2]
        rfl
      have ct : cutD [D.int (hZ sq b y.1 y.2), .int y.1, .int y.2] (some 1) none = [.int y.1, .int y.2] := by simp [cutD, sIxD]
      have := am y y1
      refine seqPW_nx.mpr ?_
      simp [↓okE (om _), ct, celOk hcl, -List.map_cons]
      refine ⟨by omega, y.1 + y.2, by omega, R ++ [(i, j)], y.1, y.2, rfl, this.1, by omega, by omega, by simp; omega, tst y y1 y3, by simp [prD], nf, rfl⟩
/-- the heights of a made paper -/
def hG (xs ys : List Int) (b m : Nat) : Nat → Nat → D := gD (hZ (sqZ xs ys) b) b (m + 1) 0
theorem bent_paperW_ok {M : DSt} {N0 : Nat → Option (List Wv)} {xs ys : List Int} {b m n : Nat} (hx : Row 10 xs) (hy : Row 10 ys) (hm : xs.length = m + 1) (hn : ys.length = n + 1) (hm2 : m < 40) (hn2 : n < 40) (hb : b ≤ 40) :
    (inB b m n = false → f_bent_paper_W [.v (.d (rowD xs)), .v (.d (rowD ys)), .v (.d (.int b))] ⟨M, N0⟩ = some (.v (.d .non), ⟨M, N0⟩)) ∧
    (inB b m n = true → ∃ W jk N1, Wl (sqZ xs ys) b W m n (hZ (sqZ xs ys) b m n) ∧ N1 (M.length + (m + 1)) = some (cellsW M.length (m + 1)) ∧ (∀ q, q < M.length → N1 q = N0 q) ∧ f_bent_paper_W [.v (.d (rowD xs)), .v (.d (rowD ys)), .v (.d (.int b))] ⟨M, N0⟩ = some (.t [.v (.d (.int (hZ (sqZ xs ys) b m n))), .v (.c (M.length + m + 3)), .l (M.length + (m + 1))], ⟨stG M (m + 1) (n + 1) (hG xs ys b m) ++ [some jk, some (W.map prD)], N1⟩)) := by
  have e1 := fun M => must_lists_eq (M := M) (xs := xs) (ys := ys) (b := b) (by omega) (by omega) (by omega) (by omega) hb
  simp only [rowD] at e1
  constructor
  · intro h
    apply ok_eq
    unfold f_bent_paper_W
    rw [ok_fnW]
    have hc : (b : Int) < (if ((m : Int) + 1) - ((n : Int) + 1) < 0 then -(((m : Int) + 1) - ((n : Int) + 1)) else ((m : Int) + 1) - ((n : Int) + 1)) := by
      unfold inB at h
      rw [decide_eq_false_iff_not] at h
      split <;> omega
    simp [b_bent_paper_W, startW, rowD, ↓okE (e1 _), hm, hn, hc]
  · intro h
    have hc : ¬ (b : Int) < (if ((m : Int) + 1) - ((n : Int) + 1) < 0 then -(((m : Int) + 1) - ((n : Int) + 1)) else ((m : Int) + 1) - ((n : Int) + 1)) := by
      have h' := h
      unfold inB at h'
      rw [decide_eq_true_eq] at h'
      split <;> omega
    suffices hs : Ok (f_bent_paper_W [.v (.d (rowD xs)), .v (.d (rowD ys)), .v (.d (.int b))] ⟨M, N0⟩) fun p => ∃ W jk, Wl (sqZ xs ys) b W m n (hZ (sqZ xs ys) b m n) ∧ p.1 = .t [.v (.d (.int (hZ (sqZ xs ys) b m n))), .v (.c (M.length + m + 3)), .l (M.length + (m + 1))] ∧ p.2.M = stG M (m + 1) (n + 1) (hG xs ys b m) ++ [some jk, some (W.map prD)] ∧ p.2.N (M.length + (m + 1)) = some (cellsW M.length (m + 1)) ∧ (∀ q, q < M.length → p.2.N q = N0 q) by
      obtain ⟨⟨w, ⟨SM, SN⟩⟩, e, W, jk, h1, h2, h3, h4, h5⟩ := hs
      simp only at h2 h3 h4 h5
      subst h2 h3
      exact ⟨W, jk, SN, h1, h4, h5, e⟩
    unfold f_bent_paper_W
    rw [ok_fnW]
    simp [b_bent_paper_W, startW, rowD, ↓okE (e1 _), -seqPW_nx]
    refine seqPW_nx.mpr ?_
    simp [-seqPW_nx, hm, hn, hc]
    refine seqPW_nx.mpr ?_
    simp [-seqPW_nx]
    have ls := least_sumsW_ok (M := M) (N0 := N0) hx hy (b := b) (by omega)
    simp only [rowD] at ls
    refine ls.mono ?_
    rintro ⟨w, ⟨SM, SN⟩⟩ ⟨hw, ⟨l1, l2⟩, l3⟩
    rw [hm, hn] at *
    simp only at hw l1 l2 l3
    subst hw l1
    refine seqPW_nx.mpr ?_
    have ca := cells_at (c0 := M.length) (k := m + 1) (i := m) (by omega)
    have cl : (cellsW M.length (m + 1)).length = m + 1 := by simp [cellsW]
    have cm : atW (cellsW M.length (m + 1)) (-1) = some (.v (.c (M.length + m))) := by
      have : ixD (cellsW M.length (m + 1)).length (-1) = some m := by
        rw [cl]
        unfold ixD
        rw [if_neg (by decide), if_pos (by omega)]
        congr 1
        omega
      unfold atW at ca ⊢
      rw [this]
      exact cellsW_at (by omega)
    have sa := stG_at (M := M) (m := m + 1) (n := n + 1) (i := m) (g := hG xs ys b m) (by omega)
    have a2 : atD (rowG (n + 1) (hG xs ys b m) m) (-1) = some (.int (hZ (sqZ xs ys) b m n)) := by
      refine atLast (k := n) (by simp [rowG]) ?_
      rw [rowG_at (by omega)]
      unfold hG gD
      rw [if_pos ⟨h, by omega⟩]
    have wb := way_byW_ok (M := M) (N0 := SN) (sq := sqZ xs ys) (b := b) (m := m) (n := n) (g := hG xs ys b m) l2 (fun i j hi hj hij => by
      unfold hG gD
      rw [if_pos ⟨hij, by omega⟩]) h (by omega) (by omega)
    have hGe : gD (hZ (sqZ xs ys) b) b (m + 1) 0 = hG xs ys b m := rfl
    rw [hGe] at *
    generalize stG M (m + 1) (n + 1) (hG xs ys b m) = A at *
    simp [-seqPW_nx, itemsW, l2, ↓okE cm, celOk sa, ↓okE a2]
    refine wb.mono ?_
    rintro ⟨w, ⟨SM, S2⟩⟩ ⟨W, jk, hW, hw, hM, hN⟩
    simp only at hw hM hN
    subst hw hM
    simp [mkT, allW]
    exact ⟨W, hW, rfl, by rw [hN _ (by omega)]; exact l2, fun q hq => by rw [hN _ (by omega)]; exact l3 q hq⟩
theorem step_in {b : Nat} {u v : Nat × Nat} (h : u ∈ ahd b v.1 v.2) : (v.1 = u.1 + 1 ∧ v.2 = u.2) ∨ (v.1 = u.1 ∧ v.2 = u.2 + 1) ∨ (v.1 = u.1 + 1 ∧ v.2 = u.2 + 1) :=
  (ahd_iff (a := u.1) (c := u.2) (ahd_mem h).1).mp h
theorem zipT_at : ∀ {W V : List D} {k : Nat} {x : D}, (zipD W V)[k]? = some x → ∃ u v, W[k]? = some u ∧ V[k]? = some v ∧ x = .tup [u, v]
  | [], V, k, x, h => by simp [zipD] at h
  | u :: W, [], k, x, h => by simp [zipD] at h
  | u :: W, v :: V, 0, x, h => by simp [zipD] at h; exact ⟨u, v, rfl, rfl, h.symm⟩
  | u :: W, v :: V, k + 1, x, h => by
    simp only [zipD, List.getElem?_cons_succ] at h ⊢
    exact zipT_at h
theorem in_steps {M : DSt} {p q : Nat} (h : (p = 1 ∧ q = 0) ∨ (p = 0 ∧ q = 1) ∨ (p = 1 ∧ q = 1)) : oInT true (.d (.tup [.int p, .int q])) (.d v_STEPS) M = some (.d (.bl false), M) := by
  rcases h with ⟨rfl, rfl⟩ | ⟨rfl, rfl⟩ | ⟨rfl, rfl⟩ <;> (simp only [oInT, dv, v_STEPS]; rw [grd_ok ⟨rfl, rfl⟩]; simp [D.eqv, D.eqvs])
theorem is_way_eq {M : DSt} {xs ys : List Int} {sq : Nat → Nat → Int} {b m n : Nat} {W : List (Nat × Nat)} {s : Int} (hm : xs.length = m + 1) (hn : ys.length = n + 1) (hm2 : m < 40) (hn2 : n < 40) (h : Wl sq b W m n s) : f_is_way [.d (rowD xs), .d (rowD ys), .d (.int b), .d (.lst (W.map prD))] M = some (.d (.bl true), M) := by
  apply ok_eq
  unfold f_is_way
  rw [ok_fn]
  have wl := h.len
  obtain ⟨W', e⟩ := h.last
  have lp : 0 < W.length := by rw [e]; simp
  have w0 : (W.map prD)[0]? = some (prD (0, 0)) := by rw [List.getElem?_map, h.first]; rfl
  have c1 : cutD (W.map prD) none (some 1) = [prD (0, 0)] := by
    cases W with
    | nil => simp at lp
    | cons w W =>
      simp at w0
      simp [cutD, sIxD, w0]
  have c2 : cutD (W.map prD) (some 1) none = (W.map prD).drop 1 := by
    have : min 1 W.length = 1 := by omega
    simp [cutD, sIxD, this]
    exact List.take_of_length_le (by simp)
  have aL : atD (W.map prD) (-1) = some (prD (m, n)) := by rw [e, List.map_append]; exact lastAt
  have z : D.tup [.int 0, .int 0] = prD (0, 0) := rfl
  have z2 : D.tup [.int (m : Int), .int (n : Int)] = prD (m, n) := rfl
  have sl : (D.lst [prD (0, 0)]).shp 9 = true := rfl
  simp [b_is_way, startD, -seqP_nx, rowD, hm, hn, c1, z, ↓okE aL, z2, ↓ok_neSame sl, ↓ok_neSame prD_shp]
  refine seqP_nx.mpr ?_
  simp [-seqP_nx, c2]
  refine forL_by _ (fun _ ρ M1 => M1 = M ∧ ρ = [some (.d (.lst (xs.map D.int))), some (.d (.lst (ys.map D.int))), some (.d (.int b)), some (.d (.lst (W.map prD))), none, none, none, none]) ⟨rfl, rfl⟩ ?_ ?_
  · rintro k x ρ M1 hx ⟨rfl, rfl⟩
    refine ⟨by simp [stand], ?_⟩
    obtain ⟨u', v', hu, hv, rfl⟩ := zipT_at hx
    rw [List.getElem?_map, Option.map_eq_some_iff] at hu
    obtain ⟨u, hu, rfl⟩ := hu
    rw [List.getElem?_tail, List.getElem?_map, Option.map_eq_some_iff] at hv
    obtain ⟨v, hv, rfl⟩ := hv
    obtain ⟨h1, h2⟩ := h.steps k u v hu hv
    obtain ⟨i, j⟩ := u
    obtain ⟨a, c⟩ := v
    have h3 := step_in h1
    simp only at h3 h1 h2
    have hc : ¬ (b : Int) < (if (a : Int) - c < 0 then -((a : Int) - c) else (a : Int) - c) := by
      simp only [inB, decide_eq_true_eq] at h2
      split <;> omega
    have s0 := in_steps (M := M1) (p := a - i) (q := c - j) (by omega)
    have e1 : (a : Int) - i = ((a - i : Nat) : Int) := by omega
    have e2 : (c : Int) - j = ((c - j : Nat) : Int) := by omega
    simp [prD, hc, e1, e2, ↓okE s0]
  · rintro ρ M1 ⟨rfl, rfl⟩
    simp [stand]
theorem are_heights_eq {M : DSt} {xs ys : List Int} {b m n : Nat} (hm : xs.length = m + 1) (hn : ys.length = n + 1) (hm2 : m < 40) (hn2 : n < 40) : f_are_heights [.d (rowD xs), .d (rowD ys), .d (.int b), .d (matD (m + 1) (n + 1) (hG xs ys b m))] M = some (.d (.bl true), M) := by
  apply ok_eq
  unfold f_are_heights
  rw [ok_fn]
  simp [b_are_heights, startD, rowD, hm, hn, matD, -seqP_nx]
  refine seqP_nx.mpr ?_
  simp [-seqP_nx]
  let env : DEnv := [some (.d (.lst (xs.map D.int))), some (.d (.lst (ys.map D.int))), some (.d (.int b)), some (.d (matD (m + 1) (n + 1) (hG xs ys b m))), none, none, none, none]
  refine forL_by _ (fun _ ρ M1 => M1 = M ∧ ρ = env) ⟨rfl, rfl⟩ ?_ ?_
  · rintro i x ρ M1 hx ⟨rfl, rfl⟩
    refine ⟨by simp [stand], ?_⟩
    obtain ⟨hi, rfl⟩ := en_at hx
    simp [env, rowG_len, hn, -seqP_nx]
    refine seqP_nx.mpr ?_
    simp [rowG, -seqP_nx]
    refine forL_by _ (fun _ ρ M2 => M2 = M1 ∧ ρ = [some (.d (.lst (xs.map D.int))), some (.d (.lst (ys.map D.int))), some (.d (.int b)), some (.d (matD (m + 1) (n + 1) (hG xs ys b m))), some (.d (.int i)), some (.d (.lst (rowG (n + 1) (hG xs ys b m) i))), none, none]) ⟨rfl, rfl⟩ ?_ ?_
    · rintro j x ρ M2 hx ⟨rfl, rfl⟩
      refine ⟨by simp [stand], ?_⟩
      obtain ⟨hj, rfl⟩ := en_at hx
      have ab := inB_abs (b := b) (p := i) (q := j)
      have hv : hG xs ys b m i j = if inB b i j = true then .int (hZ (sqZ xs ys) b i j) else .non := by
        unfold hG gD
        by_cases h : inB b i j = true
        · rw [if_pos ⟨h, by omega⟩, if_pos h]
        · rw [if_neg (fun q => h q.1), if_neg h]
      by_cases h : inB b i j = true
      · rw [if_pos h] at hv
        have hc : ¬ (b : Int) < (if (i : Int) - j < 0 then -((i : Int) - j) else (i : Int) - j) := by
          have := ab.mpr h
          omega
        rw [hv]
        simp [hc, isNon, oIsN, ok_neB]
      · rw [if_neg h] at hv
        have hc : (b : Int) < (if (i : Int) - j < 0 then -((i : Int) - j) else (i : Int) - j) := by
          exact Int.not_le.mp fun q => h (ab.mp q)
        rw [hv]
        simp [hc, isNon, oIsN, ok_neB]
    · rintro ρ M2 ⟨rfl, rfl⟩
      simp [stand, env]
  · rintro ρ M1 ⟨rfl, rfl⟩
    simp [stand]
theorem hG_in {xs ys : List Int} {b m i j : Nat} (hi : i < m + 1) (h : inB b i j = true) : hG xs ys b m i j = .int (hZ (sqZ xs ys) b i j) := by
  unfold hG gD
  rw [if_pos ⟨h, by omega⟩]
theorem hG_out {xs ys : List Int} {b m i j : Nat} (h : ¬ inB b i j = true) : hG xs ys b m i j = .non := by
  unfold hG gD
  rw [if_neg (fun q => h q.1)]
theorem heights_hold_eq {M : DSt} {xs ys : List Int} {b m n : Nat} (hx : Row 10 xs) (hy : Row 10 ys) (hm : xs.length = m + 1) (hn : ys.length = n + 1) (hm2 : m < 40) (hn2 : n < 40) : f_heights_hold [.d (rowD xs), .d (rowD ys), .d (.int b), .d (matD (m + 1) (n + 1) (hG xs ys b m))] M = some (.d (.bl true), M) := by
  apply ok_eq
  unfold f_heights_hold
  rw [ok_fn]
  have ma := fun i hi => mat_at (m := m + 1) (n := n + 1) (g := hG xs ys b m) (i := i) hi
  simp [b_heights_hold, startD, rowD, matD, -seqP_nx]
  let env : DEnv := [some (.d (.lst (xs.map D.int))), some (.d (.lst (ys.map D.int))), some (.d (.int b)), some (.d (matD (m + 1) (n + 1) (hG xs ys b m))), none, none, none, none, none, none, none]
  refine forL_by _ (fun _ ρ M1 => M1 = M ∧ ρ = env) ⟨rfl, rfl⟩ ?_ ?_
  · rintro i x ρ M1 hx1 ⟨rfl, rfl⟩
    refine ⟨by simp [stand], ?_⟩
    obtain ⟨hi, rfl⟩ := en_at hx1
    simp [env, rowG, -seqP_nx]
    refine forL_by _ (fun _ ρ M2 => M2 = M1 ∧ ρ = [some (.d (.lst (xs.map D.int))), some (.d (.lst (ys.map D.int))), some (.d (.int b)), some (.d (matD (m + 1) (n + 1) (hG xs ys b m))), some (.d (.int i)), some (.d (.lst (rowG (n + 1) (hG xs ys b m) i))), none, none, none, none, none]) ⟨rfl, rfl⟩ ?_ ?_
    · rintro j x ρ M2 hx2 ⟨rfl, rfl⟩
      refine ⟨by simp [stand], ?_⟩
      obtain ⟨hj, rfl⟩ := en_at hx2
      by_cases h : inB b i j = true
      · have es := fun M => square_at_eq (M := M) (i := i) (j := j) hx hy (by omega) (by omega)
        simp only [rowD] at es
        have pa := fun M => places_ahead_ok (M := M) (i := i) (j := j) (b := b)
        have st := hZ_step (sq := sqZ xs ys) (b := b) (i := i) (j := j)
        have ql := ahd_len (b := b) (i := i) (j := j)
        have am := fun x => ahd_mem (b := b) (i := i) (j := j) (x := x)
        have zz : D.tup [.int 0, .int 0] = prD (0, 0) := rfl
        have zi : D.tup [.int (i : Int), .int (j : Int)] = prD (i, j) := rfl
        rw [hG_in hi h]
        simp [isNon, ↓okE (es _), -seqP_nx]
        refine seqP_nx.mpr ?_
        refine if_pass ?_ ?_
        · by_cases h0 : i = 0 ∧ j = 0
          · obtain ⟨rfl, rfl⟩ := h0
            have e0 : hZ (sqZ xs ys) b 0 0 = sqZ xs ys 0 0 := by rw [st, ahd_zero]; simp [lsZ]
            simp [zz, ↓ok_eqSame prD_shp, e0]
          · simp [zi, zz, ↓ok_eqD prD_shp prD_shp, eqv_pr, h0]
        have ls := fun x (hx' : x ∈ ahd b i j) => lsZ_le (l := (ahd b i j).map fun x => hZ (sqZ xs ys) b x.1 x.2) (List.mem_map_of_mem hx')
        simp [-seqP_nx, ↓okE (pa _), ↓ok_frz rfl]
        generalize ahd b i j = Q at *
        refine forL_by _ (fun _ ρ M3 => M3 = M2 ∧ ρ = [some (.d (.lst (xs.map D.int))), some (.d (.lst (ys.map D.int))), some (.d (.int b)), some (.d (matD (m + 1) (n + 1) (hG xs ys b m))), some (.d (.int i)), some (.d (.lst (rowG (n + 1) (hG xs ys b m) i))), some (.d (.int j)), some (.d (.int (hZ (sqZ xs ys) b i j))), some (.d (.int (sqZ xs ys i j))), none, none]) ⟨rfl, rfl⟩ ?_ ?_
        · rintro k x ρ M3 hx3 ⟨rfl, rfl⟩
          refine ⟨by simp [stand], ?_⟩
          rw [List.getElem?_map, Option.map_eq_some_iff] at hx3
          obtain ⟨y, hy3, rfl⟩ := hx3
          have hym := List.mem_of_getElem? hy3
          have a1 := am y hym
          have l1 := ls y hym
          have r1 := ma y.1 (by omega)
          have r2 := rowG_at (n := n + 1) (i := y.1) (j := y.2) (g := hG xs ys b m) (by omega)
          rw [hG_in (by omega) a1.1] at r2
          simp [prD, ok_atN r1, ok_atN r2, matD]
          rw [st]
          omega
        · rintro ρ M3 ⟨rfl, rfl⟩
          simp [stand]
      · rw [hG_out h]
        simp [isNon]
    · rintro ρ M2 ⟨rfl, rfl⟩
      simp [stand, env]
  · rintro ρ M1 ⟨rfl, rfl⟩
    simp [stand]
/-- a made paper -/
def papD (xs ys : List Int) (b m n : Nat) (W : List (Nat × Nat)) : D := .tup [.int (hZ (sqZ xs ys) b m n), .lst (W.map prD), matD (m + 1) (n + 1) (hG xs ys b m)]
theorem shows_bent_eq {M : DSt} {xs ys : List Int} {b m n : Nat} {W : List (Nat × Nat)} (hx : Row 10 xs) (hy : Row 10 ys) (hm : xs.length = m + 1) (hn : ys.length = n + 1) (hm2 : m < 40) (hn2 : n < 40) (hb : b ≤ 40) (hin : inB b m n = true) (h : Wl (sqZ xs ys) b W m n (hZ (sqZ xs ys) b m n)) : f_shows_bent [.d (rowD xs), .d (rowD ys), .d (.int b), .d (papD xs ys b m n W)] M = some (.d (.bl true), M) := by
  apply ok_eq
  unfold f_shows_bent
  rw [ok_fn]
  have e1 := fun M => must_lists_eq (M := M) (xs := xs) (ys := ys) (b := b) (by omega) (by omega) (by omega) (by omega) hb
  have e2 := fun M => is_way_eq (M := M) hm hn hm2 hn2 h
  have e3 := fun M => are_heights_eq (M := M) (b := b) hm hn hm2 hn2
  have e4 := fun M => heights_hold_eq (M := M) (b := b) hx hy hm hn hm2 hn2
  simp only [rowD] at e1 e2 e3 e4
  simp [-seqP_nx, b_shows_bent, startD, rowD, ↓okE (e1 _)]
  refine seqP_nx.mpr ?_
  simp [-seqP_nx, papD]
  refine seqP_nx.mpr ?_
  simp [-seqP_nx, ↓okE (e2 _), ↓okE (e3 _)]
  refine seqP_nx.mpr ?_
  have wl := h.len
  have a1 : atD ((List.range (m + 1)).map fun i => D.lst (rowG (n + 1) (hG xs ys b m) i)) (-1) = some (.lst (rowG (n + 1) (hG xs ys b m) m)) := atLast (k := m) (by simp) (mat_at (by omega))
  have a2 : atD (rowG (n + 1) (hG xs ys b m) m) (-1) = some (.int (hZ (sqZ xs ys) b m n)) := by
    refine atLast (k := n) (by simp [rowG]) ?_
    rw [rowG_at (by omega), hG_in (by omega) hin]
  have sz : (D.int (hZ (sqZ xs ys) b m n)).shp 9 = true := rfl
  refine if_pass ?_ ?_
  · simp
    refine ⟨by omega, ?_⟩
    refine comp_map (fun x : Nat × Nat => .int (sqZ xs ys x.1 x.2)) (by simp [stand]) ?_ ?_
    · intro x hx'
      have hm' := h.mem x hx'
      have es := fun M => square_at_eq (M := M) (i := x.1) (j := x.2) hx hy (by omega) (by omega)
      simp only [rowD] at es
      simp [prD, ↓okE (es _)]
    · have e : W.map (fun x : Nat × Nat => D.int (sqZ xs ys x.1 x.2)) = (W.map fun x : Nat × Nat => sqZ xs ys x.1 x.2).map D.int := by rw [List.map_map]; rfl
      simp only [ok_mkL_f]
      rw [e]
      simp [h.sum, ↓ok_neSame sz, matD, ↓okE a1, ↓okE a2]
  simp [↓okE (e4 _)]
def DsI (sq : Nat → Nat → Int) (b m n : Nat) (M : DSt) (env : Dv → Dv → Dv → DEnv) (k : Nat) (ρ : DEnv) (M' : DSt) : Prop := ∃ (i j t : Nat) (s : Int), k = m - i + (n - j) ∧ i ≤ m ∧ j ≤ n ∧ Way sq b t i j s ∧ Like 0 M M' ∧ ρ = env (.d (.int i)) (.d (.int j)) (.d (.int s))
theorem law_drawn_ok {M : DSt} {xs ys : List Int} {b m n : Nat} (hp : Purse 0 M) (hx : Row 10 xs) (hy : Row 10 ys) (hm : xs.length = m + 1) (hn : ys.length = n + 1) (hm2 : m < 40) (hn2 : n < 40) : Ok (f__law_drawn_sum [.c 0, .d (rowD xs), .d (rowD ys), .d (.int b)] M) fun p => Like 0 M p.2 ∧ (p.1 = .d .non ∨ ∃ s : Int, p.1 = .d (.int s) ∧ hZ (sqZ xs ys) b m n ≤ s) := by
  unfold f__law_drawn_sum
  rw [ok_fn]
  have x0 : atD (xs.map D.int) 0 = some (.int (nz xs 0)) := ok_eq ((ok_atN (k := 0) (row_nz (by omega))).mpr rfl)
  have y0 : atD (ys.map D.int) 0 = some (.int (nz ys 0)) := ok_eq ((ok_atN (k := 0) (row_nz (by omega))).mpr rfl)
  have pk : ∀ i j, i ≤ m → j ≤ n → powOk (nz xs i - nz ys j) 2 := fun i j hi hj => pow_ok (Bn10 hx (by omega)) (Bn10 hy (by omega))
  simp [b__law_drawn_sum, startD, -seqP_nx]
  refine seqP_nx.mpr ?_
  simp [-seqP_nx]
  refine seqP_nx.mpr ?_
  simp [-seqP_nx, rowD, ↓okE x0, ↓okE y0, pk 0 0, sq_pow]
  refine seqP_nx.mpr ?_
  rw [ok_seq]
  let env : Dv → Dv → Dv → DEnv := fun i j s => [some (.c 0), some (.d (.lst (xs.map D.int))), some (.d (.lst (ys.map D.int))), some (.d (.int b)), some i, some j, some s, none, none]
  refine while_by (DsI (sqZ xs ys) b m n M env) (m + n) ⟨0, 0, 0, _, by omega, by omega, by omega, Way.start, hp.like, rfl⟩ ?_
  rintro k ρ M' ⟨i, j, t, s, rfl, hi, hj, hW, hL, rfl⟩
  have hib := hW.inB
  by_cases hd : i = m ∧ j = n
  · obtain ⟨rfl, rfl⟩ := hd
    simp [env, hm, hn]
    rw [List.take_of_length_le (Nat.le_of_eq hL.len)]
    exact ⟨hL, hW.ge⟩
  · have hor : ((i : Int) < m ∨ (j : Int) < n) := by omega
    refine (show Ok _ fun p => p = (true, M') from ?_).mono ?_
    · by_cases h1 : i < m
      · simp [env, hm, hn, h1]
      · have h2 : j < n := by omega
        simp [env, hm, hn, h1, h2]
    rintro _ rfl
    simp only [if_true]
    have hp' := hL.1
    simp [env, -seqP_nx]
    refine (draw_ok hp' (by decide) (by decide)).mono ?_
    rintro ⟨v, M2⟩ ⟨r, hr, hv, hM2⟩
    simp only at hv
    subst hv
    have hL2 := hL.trans hM2
    have hp2 := hL2.1
    obtain ⟨u, o, er, huo⟩ : ∃ u o : Nat, atD [D.tup [.int 1, .int 1], .tup [.int 1, .int 0], .tup [.int 0, .int 1]] (r : Int) = some (.tup [.int u, .int o]) ∧ ((u = 1 ∧ o = 1) ∨ (u = 1 ∧ o = 0) ∨ (u = 0 ∧ o = 1)) := by
      rcases (show r = 0 ∨ r = 1 ∨ r = 2 by omega) with rfl | rfl | rfl
      · exact ⟨1, 1, rfl, by omega⟩
      · exact ⟨1, 0, rfl, by omega⟩
      · exact ⟨0, 1, rfl, by omega⟩
    simp [-seqP_nx]
    rw [okE er]
    simp [-seqP_nx]
    refine seqP_nx.mpr ?_
    rw [ok_seq]
    have hA : (b : Int) < (if (i : Int) + u - j - o < 0 then -((i : Int) + u - j - o) else (i : Int) + u - j - o) ↔ ¬ inB b (i + u) (j + o) = true := by
      unfold inB
      rw [decide_eq_true_eq]
      split <;> omega
    refine (show Ok _ fun oo => ∃ a c : Nat, ((a = 1 ∧ c = 1) ∨ (a = 1 ∧ c = 0) ∨ (a = 0 ∧ c = 1)) ∧ i + a ≤ m ∧ j + c ≤ n ∧ oo = .nx [some (.c 0), some (.d (.lst (xs.map D.int))), some (.d (.lst (ys.map D.int))), some (.d (.int b)), some (.d (.int i)), some (.d (.int j)), some (.d (.int s)), some (.d (.int a)), some (.d (.int c))] M2 from ?_).mono ?_
    · by_cases hC : i = m ∨ j = n ∨ ¬ inB b (i + u) (j + o) = true
      · refine if_yes ?_ ?_
        · by_cases h1 : i = m
          · simp [hm, hn, h1]
          · by_cases h2 : j = n
            · simp [hm, hn, h1, h2]
            · have h3 := hA.mpr ((hC.resolve_left h1).resolve_left h2)
              simp [hm, hn, h1, h2, h3]
        · simp [hm, hn]
          refine ⟨if i < m then 1 else 0, if j < n then 1 else 0, ?_, ?_, ?_, ?_, ?_⟩
          · split <;> split <;> omega
          · split <;> omega
          · split <;> omega
          · split <;> rfl
          · split <;> rfl
      · have h1 : ¬ i = m := fun h => hC (.inl h)
        have h2 : ¬ j = n := fun h => hC (.inr (.inl h))
        have h3 : ¬ ((b : Int) < (if (i : Int) + u - j - o < 0 then -((i : Int) + u - j - o) else (i : Int) + u - j - o)) := fun h => hC (.inr (.inr (hA.mp h)))
        refine if_no (by simp [hm, hn, h1, h2, h3]; omega) ?_
        simp
        exact ⟨u, o, huo, by omega, by omega, rfl, rfl⟩
    clear hA huo er
    rintro _ ⟨a, c, hac, ha, hc, rfl⟩
    refine seqP_nx.mpr ?_
    simp [-seqP_nx]
    refine seqP_nx.mpr ?_
    simp [-seqP_nx]
    refine seqP_nx.mpr ?_
    have ea : (i : Int) + a = ((i + a : Nat) : Int) := by omega
    have ec : (j : Int) + c = ((j + c : Nat) : Int) := by omega
    rw [ea, ec]
    have hst : (i + a = i + 1 ∧ j + c = j) ∨ (i + a = i ∧ j + c = j + 1) ∨ (i + a = i + 1 ∧ j + c = j + 1) := by omega
    have hlt : m - (i + a) + (n - (j + c)) < m - i + (n - j) := by omega
    generalize i + a = i2 at *
    generalize j + c = j2 at *
    have hA : (b : Int) < (if (i2 : Int) - j2 < 0 then -((i2 : Int) - j2) else (i2 : Int) - j2) ↔ ¬ inB b i2 j2 = true := by
      unfold inB
      rw [decide_eq_true_eq]
      split <;> omega
    by_cases hb2 : inB b i2 j2 = true
    · have h3 : ¬ ((b : Int) < (if (i2 : Int) - j2 < 0 then -((i2 : Int) - j2) else (i2 : Int) - j2)) := fun h => hA.mp h hb2
      have r1 := row_nz (xs := xs) (i := i2) (by omega)
      have r2 := row_nz (xs := ys) (i := j2) (by omega)
      simp [h3, ok_atN r1, ok_atN r2, pk i2 j2 ha hc, sq_pow]
      exact ⟨_, hlt, i2, j2, t + 1, _, rfl, ha, hc, Way.step hW ((ahd_iff hib).mpr hst) hb2, hL2, rfl⟩
    · have h3 := hA.mpr hb2
      simp [h3]
      rw [List.take_of_length_le (Nat.le_of_eq hL2.len)]
      exact hL2
theorem _root_.Rw.Way.wider {sq : Nat → Nat → Int} {b b' k i j : Nat} {s : Int} (hb : b ≤ b') (h : Way sq b k i j s) : Way sq b' k i j s := by
  have mono : ∀ i j, inB b i j = true → inB b' i j = true := fun i j h => by
    unfold inB at *
    rw [decide_eq_true_eq] at *
    omega
  induction h with
  | start => exact .start
  | step w hm hb ih =>
    have h1 := (ahd_iff w.inB).mp hm
    exact .step ih ((ahd_iff (mono _ _ w.inB)).mpr h1) (mono _ _ hb)
theorem hZ_wider {sq : Nat → Nat → Int} {b b' i j : Nat} (hb : b ≤ b') (h : inB b i j = true) : hZ sq b' i j ≤ hZ sq b i j := by
  obtain ⟨k, w⟩ := way_least (sq := sq) (b := b) _ i j (Nat.le_refl _) h
  exact (w.wider hb).ge
theorem _root_.Rw.Way.turn {sq sq' : Nat → Nat → Int} (he : ∀ i j, sq' j i = sq i j) {b k i j : Nat} {s : Int} (h : Way sq b k i j s) : Way sq' b k j i s := by
  have tr : ∀ i j, inB b i j = true → inB b j i = true := fun i j h => by
    unfold inB at *
    rw [decide_eq_true_eq] at *
    omega
  induction h with
  | start => rw [← he]; exact .start
  | step w hm hb ih =>
    have h1 := (ahd_iff w.inB).mp hm
    rw [← he]
    exact .step ih ((ahd_iff (tr _ _ w.inB)).mpr (by omega)) (tr _ _ hb)
theorem inB_turn {b i j : Nat} : inB b i j = inB b j i := by
  unfold inB
  congr 1
  rw [and_comm]
theorem hZ_turn {sq sq' : Nat → Nat → Int} (he : ∀ i j, sq' j i = sq i j) {b i j : Nat} (h : inB b i j = true) : hZ sq' b j i = hZ sq b i j := by
  obtain ⟨k, w⟩ := way_least (sq := sq) (b := b) _ i j (Nat.le_refl _) h
  obtain ⟨k', w'⟩ := way_least (sq := sq') (b := b) _ j i (Nat.le_refl _) (by rw [inB_turn]; exact h)
  have h1 := (w.turn he).ge
  have h2 := (w'.turn (sq' := sq) fun i j => (he j i).symm).ge
  omega
theorem _root_.Rw.Way.back {sq sq' : Nat → Nat → Int} {m b : Nat} (he : ∀ a c, a ≤ m → c ≤ m → sq' (m - a) (m - c) = sq a c) {k i j : Nat} {s : Int} (h : Way sq b k i j s) : ∀ {k' : Nat} {s' : Int}, i ≤ m → j ≤ m → Way sq' b k' (m - i) (m - j) s' → Way sq' b (k + k') m m (s + s' - sq i j) := by
  have tr : ∀ i j, i ≤ m → j ≤ m → inB b i j = true → inB b (m - i) (m - j) = true := fun i j h1 h2 h => by
    unfold inB at *
    rw [decide_eq_true_eq] at *
    omega
  induction h with
  | start =>
    intro k' s' _ _ w
    simpa [show sq 0 0 + s' - sq 0 0 = s' by omega] using w
  | step w hm hb ih =>
    rename_i k a c i j s
    intro k' s' hi hj w'
    have h1 := (ahd_iff w.inB).mp hm
    have ha : a ≤ m := by omega
    have hc : c ≤ m := by omega
    have st := Way.step (i := m - a) (j := m - c) w' ((ahd_iff (tr _ _ hi hj hb)).mpr (by omega)) (tr _ _ ha hc w.inB)
    have := ih ha hc st
    rw [he a c ha hc] at this
    rw [show s + sq i j + s' - sq i j = s + (s' + sq a c) - sq a c by omega, show k + 1 + k' = k + (k' + 1) by omega]
    exact this
theorem hZ_back1 {sq sq' : Nat → Nat → Int} {m b : Nat} (he : ∀ a c, a ≤ m → c ≤ m → sq' (m - a) (m - c) = sq a c) (h : inB b m m = true) : hZ sq' b m m ≤ hZ sq b m m := by
  obtain ⟨k, w⟩ := way_least (sq := sq) (b := b) _ m m (Nat.le_refl _) h
  have s0 : Way sq' b 0 (m - m) (m - m) (sq' (m - m) (m - m)) := by rw [Nat.sub_self]; exact .start
  have := (w.back he (Nat.le_refl _) (Nat.le_refl _) s0).ge
  rw [he m m (Nat.le_refl _) (Nat.le_refl _)] at this
  omega
theorem hZ_back {sq sq' : Nat → Nat → Int} {m b : Nat} (he : ∀ a c, a ≤ m → c ≤ m → sq' (m - a) (m - c) = sq a c) (h : inB b m m = true) : hZ sq' b m m = hZ sq b m m := by
  have h1 := hZ_back1 he h
  have h2 := hZ_back1 (sq := sq') (sq' := sq) (m := m) (b := b) (fun a c ha hc => by
    have := he (m - a) (m - c) (by omega) (by omega)
    rw [show m - (m - a) = a by omega, show m - (m - c) = c by omega] at this
    exact this.symm) h
  omega
theorem _root_.Rw.Way.nn {sq : Nat → Nat → Int} (h0 : ∀ i j, 0 ≤ sq i j) {b k i j : Nat} {s : Int} (h : Way sq b k i j s) : 0 ≤ s := by
  induction h with
  | start => exact h0 0 0
  | step w hm hb ih =>
    exact Int.add_nonneg ih (h0 _ _)
theorem sqZ_nn {xs ys : List Int} {i j : Nat} : 0 ≤ sqZ xs ys i j := by
  unfold sqZ
  generalize nz xs i - nz ys j = z
  rcases Int.le_total 0 z with h | h
  · exact Int.mul_nonneg h h
  · exact Int.mul_nonneg_of_nonpos_of_nonpos h h
theorem sqZ_turn {xs ys : List Int} (i j : Nat) : sqZ ys xs j i = sqZ xs ys i j := by
  unfold sqZ
  rw [show nz ys j - nz xs i = -(nz xs i - nz ys j) by omega, Int.neg_mul_neg]
theorem sqZ_self {xs : List Int} {i : Nat} : sqZ xs xs i i = 0 := by
  unfold sqZ
  simp
theorem hZ_same {xs : List Int} {m b : Nat} : hZ (sqZ xs xs) b m m = 0 := by
  have z : hZ (sqZ xs xs) 0 m m = 0 := by
    rw [hZ_diag]
    have : (List.range (m + 1)).map (fun i => sqZ xs xs i i) = (List.range (m + 1)).map fun _ => (0 : Int) := List.map_congr_left fun i _ => sqZ_self
    rw [this]
    generalize List.range (m + 1) = l
    induction l with
    | nil => rfl
    | cons a l ih => simp at ih ⊢; exact ih
  have h1 := hZ_wider (sq := sqZ xs xs) (b := 0) (b' := b) (i := m) (j := m) (Nat.zero_le _) inB_self
  obtain ⟨k, w⟩ := way_least (sq := sqZ xs xs) (b := b) _ m m (Nat.le_refl _) inB_self
  have := w.nn fun _ _ => sqZ_nn
  omega
theorem nz_rev {xs : List Int} {m i : Nat} (hm : xs.length = m + 1) (hi : i ≤ m) : nz xs.reverse (m - i) = nz xs i := by
  unfold nz
  simp only [List.getD_eq_getElem?_getD]
  rw [List.getElem?_reverse (by omega), hm]
  congr 2
  omega
theorem row_rev {k : Nat} {xs : List Int} (h : Row k xs) : Row k xs.reverse := by
  refine ⟨?_, ?_⟩
  · intro x hx
    exact h.1 x (by simpa using hx)
  · simpa using h.2
/-- a store with the cells of a made paper -/
def stR (M : DSt) (k : Nat) (f : Nat → List D) : DSt := M ++ (List.range k).map (fun i => some (f i)) ++ [none]
theorem stR_len {M : DSt} {k : Nat} {f : Nat → List D} : (stR M k f).length = M.length + k + 1 := by simp [stR]; omega
theorem stR_at {M : DSt} {k i : Nat} {f : Nat → List D} (h : i < k) : (stR M k f)[M.length + i]? = some (some (f i)) := by
  unfold stR
  rw [List.append_assoc, List.getElem?_append_right (by omega), Nat.add_sub_cancel_left, List.getElem?_append_left (by simpa using h), List.getElem?_map, List.getElem?_range h]
  rfl
theorem stR_set {M : DSt} {k i : Nat} {f : Nat → List D} {l : List D} (hi : i < k) : (stR M k f).set (M.length + i) (some l) = stR M k fun a => if a = i then l else f a := by
  unfold stR
  rw [List.append_assoc, List.set_append_right _ _ (by omega), Nat.add_sub_cancel_left, List.set_append_left _ _ (by simpa using hi), set_range, List.append_assoc]
  congr 2
  refine List.map_congr_left fun a ha => ?_
  by_cases e : a = i <;> simp [e]
/-- the store holds a made paper -/
def Sh (c m : Nat) (f : Nat → List D) (wy : List D) (S : WSt) : Prop := ∃ M jk, Purse 0 M ∧ M.length = c ∧ S.M = stR M (m + 1) f ++ [some jk, some wy] ∧ S.N (c + (m + 1)) = some (cellsW c (m + 1))
def shW (c m : Nat) (h : Int) : Wv := .t [.v (.d (.int h)), .v (.c (c + m + 3)), .l (c + (m + 1))]
@[simp] theorem flE_sh {c m : Nat} {h : Int} {r : WEnv} : flE (some (shW c m h) :: r) = none :: flE r := rfl
def rowsF (m : Nat) (f : Nat → List D) : D := .lst ((List.range (m + 1)).map fun i => .lst (f i))
theorem Sh.row {c m i : Nat} {f : Nat → List D} {wy : List D} {S : WSt} (h : Sh c m f wy S) (hi : i < m + 1) : S.M[c + i]? = some (some (f i)) := by
  obtain ⟨M, jk, hp, rfl, e, _⟩ := h
  rw [e, List.getElem?_append_left (by rw [stR_len]; omega)]
  exact stR_at hi
theorem Sh.way {c m : Nat} {f : Nat → List D} {wy : List D} {S : WSt} (h : Sh c m f wy S) : S.M[c + m + 3]? = some (some wy) := by
  obtain ⟨M, jk, hp, rfl, e, _⟩ := h
  have : M.length + m + 3 = (stR M (m + 1) f).length + 1 := by rw [stR_len]; omega
  rw [e, this, List.getElem?_append_right (by omega)]
  simp
theorem Sh.len {c m : Nat} {f : Nat → List D} {wy : List D} {S : WSt} (h : Sh c m f wy S) : S.M.length = c + m + 4 := by
  obtain ⟨M, jk, hp, rfl, e, _⟩ := h
  rw [e, List.length_append, stR_len]
  rfl
theorem Sh.num {c m : Nat} {f : Nat → List D} {wy : List D} {S : WSt} (h : Sh c m f wy S) : S.N (c + (m + 1)) = some (cellsW c (m + 1)) := by
  obtain ⟨M, jk, hp, rfl, e, x⟩ := h
  exact x
theorem Sh.purse {c m : Nat} {f : Nat → List D} {wy : List D} {S : WSt} (h : Sh c m f wy S) : Purse 0 S.M := by
  obtain ⟨M, jk, ⟨a, b, e0⟩, rfl, e, x⟩ := h
  have hl := (List.getElem?_eq_some_iff.mp e0).1
  refine ⟨a, b, ?_⟩
  rw [e, stR, List.append_assoc, List.append_assoc, List.getElem?_append_left hl]
  exact e0
theorem Sh.draw {c m : Nat} {f : Nat → List D} {wy : List D} {S : WSt} {M2 : DSt} (h : Sh c m f wy S) (hL : Like 0 S.M M2) : Sh c m f wy ⟨M2, S.N⟩ := by
  obtain ⟨M, jk, ⟨a, b, e0⟩, rfl, e, x⟩ := h
  obtain ⟨_, a', b', e2⟩ := hL
  have hl := (List.getElem?_eq_some_iff.mp e0).1
  refine ⟨M.set 0 (some [.int a', .int b']), jk, ⟨a', b', List.getElem?_set_self hl⟩, by simp, ?_, x⟩
  show M2 = _
  rw [e2, e, stR, List.append_assoc, List.append_assoc, List.set_append_left _ _ hl, stR, List.append_assoc, List.append_assoc]
theorem Sh.put {c m i : Nat} {f : Nat → List D} {wy l : List D} {S : WSt} (h : Sh c m f wy S) (hi : i < m + 1) : Sh c m (fun a => if a = i then l else f a) wy ⟨S.M.set (c + i) (some l), S.N⟩ := by
  obtain ⟨M, jk, hp, rfl, e, x⟩ := h
  refine ⟨M, jk, hp, rfl, ?_, x⟩
  show S.M.set _ _ = _
  rw [e, List.set_append_left _ _ (by rw [stR_len]; omega), stR_set hi]
theorem Sh.clear {c m : Nat} {f : Nat → List D} {wy l : List D} {S : WSt} (h : Sh c m f wy S) : Sh c m f l ⟨S.M.set (c + m + 3) (some l), S.N⟩ := by
  obtain ⟨M, jk, hp, rfl, e, x⟩ := h
  refine ⟨M, jk, hp, rfl, ?_, x⟩
  show S.M.set _ _ = _
  have : M.length + m + 3 = (stR M (m + 1) f).length + 1 := by rw [stR_len]; omega
  rw [e, this, List.set_append_right _ _ (by omega)]
  simp
theorem rs_pap {b c m : Nat} {f : Nat → List D} {wy : List D} {S : WSt} {h : Int} (hb : b ≤ c) (hS : Sh c m f wy S) : rs b 5 S (shW c m h) = some (.tup [.int h, .lst wy, rowsF m f]) := by
  unfold shW
  rw [rs_t]
  have e1 : rs b 4 S (.v (.c (c + m + 3))) = some (.lst wy) := rs_c (by omega) hS.way
  have e2 : rs b 4 S (.l (c + (m + 1))) = some (rowsF m f) := by
    rw [rs_l (by omega) hS.num]
    unfold cellsW rowsF
    rw [rsL_map (h := fun i => .lst (f i))]
    · rfl
    · intro i hi
      exact rs_c (by omega) (hS.row (List.mem_range.mp hi))
  simp [rsL, e1, e2]
/-- a comprehension that makes a cell for each item -/
theorem comp_mk {α β : Type} {chk : WSt → Prop} {step : β → WSt → Option (Option Wv × WSt)} {e : α → β} {w : α → List D} {A : DSt} {N : Nat → Option (List Wv)} (hc : ∀ B, chk ⟨A ++ B, N⟩) : ∀ (Q : List α) (B : DSt), (∀ x ∈ Q, ∀ B, step (e x) ⟨A ++ B, N⟩ = some (some (.v (.c (A ++ B).length)), ⟨A ++ B ++ [some (w x)], N⟩)) → compW chk step (Q.map e) ⟨A ++ B, N⟩ = some (cellsW (A ++ B).length Q.length, ⟨A ++ B ++ Q.map (fun x => some (w x)), N⟩)
  | [], B, _ => by
    unfold compW
    simp only [List.map_nil]
    rw [grd_ok (hc B)]
    simp [cellsW]
  | x :: Q, B, h => by
    simp only [List.map_cons]
    unfold compW
    rw [grd_ok (hc B), h x (by simp) B]
    simp only
    have ih := comp_mk hc Q (B ++ [some (w x)]) fun y hy => h y (by simp [hy])
    rw [← List.append_assoc] at ih
    rw [ih]
    simp only [List.length_append, List.length_singleton, List.append_assoc, List.singleton_append, List.length_cons, List.length_nil, Nat.zero_add]
    have : (.v (.c (A.length + B.length))) :: cellsW (A.length + (B.length + 1)) Q.length = cellsW (A.length + B.length) (Q.length + 1) := by
      unfold cellsW
      rw [List.range_succ_eq_map, List.map_cons, List.map_map]
      congr 1
      refine List.map_congr_left fun i _ => ?_
      show Wv.v (.c (A.length + (B.length + 1) + i)) = Wv.v (.c (A.length + B.length + (i + 1)))
      congr 2
      omega
    rw [this]
theorem ok_wCompL {a : WE} {i : Nat} {t : WT} {el : WE} {own : List Nat} {ρ : WEnv} {S : WSt} {P : Wv × WSt → Prop} : Ok (wCompL a i t el own ρ S) P ↔ Ok (a ρ S) fun p => Ok (asL p.1) fun n => Ok (p.2.N n) fun ws => ws.length ≤ big ∧ Ok (compW (fun S' => S'.N n = some ws) (cstepL i t el (wipeW ρ own)) ws p.2) fun q => P (newL q.1 q.2) := by
  unfold wCompL
  cases a ρ S with
  | none => simp
  | some p =>
    obtain ⟨w, S1⟩ := p
    simp only [ok_some]
    cases w with
    | l n =>
      simp only [asL, ok_some]
      cases S1.N n with
      | none => simp
      | some ws =>
        simp only [ok_some]
        rw [ok_grd]
        cases compW (fun S' => S'.N n = some ws) (cstepL i t el (wipeW ρ own)) ws S1 with
        | none => simp
        | some q => simp
    | _ => simp [asL]
theorem marks_ok {c m n : Nat} {f : Nat → List D} {wy : List D} {S : WSt} {h : Int} {ys : List Int} {v0 v1 v2 v4 v5 : Dv} {P : Wv × WSt → Prop} (hm : m ≤ 100) (hn : ys.length = n + 1) (hS : Sh c m f wy S) (hf : ∀ i, i < m + 1 → cutD (f i) (some ((n : Int) + 1)) none = [.int ((i : Int) - 500)]) (k : ∀ S', Sh c m f wy S' → P (.v (.d (.lst ((List.range (m + 1)).map fun i : Nat => .lst [.int ((i : Int) - 500)]))), S')) :
    Ok (wFrz (wCompL (wIx (wVar 6) (eC (.int 2))) 10 wYes (wE (eComp true (iS (eSl (slU false) (eVar 10) (pSome (eA oLen (aCons (eVar 3) aNil))) pNone)) (.name 13) Rw.tYes (eVar 13) [13])) [10]) [some (.v v0), some (.v v1), some (.v v2), some (.v (.d (.lst (ys.map D.int)))), some (.v v4), some (.v v5), some (shW c m h), none, none, none, none, none, none, none] S) P := by
  rw [ok_wFrz, ok_wCompL]
  have it : ∀ S, itemsW S (shW c m h) = some [.v (.d (.int h)), .v (.c (c + m + 3)), .l (c + (m + 1))] := fun _ => rfl
  have a2 : atW [.v (.d (.int h)), .v (.c (c + m + 3)), .l (c + (m + 1))] 2 = some (.l (c + (m + 1))) := rfl
  have cl : (cellsW c (m + 1)).length = m + 1 := by simp [cellsW]
  simp [it, ↓okE a2, asL, hS.num, cl]
  refine ⟨by omega, ?_⟩
  let env : WEnv := [some (.v v0), some (.v v1), some (.v v2), some (.v (.d (.lst (ys.map D.int)))), some (.v v4), some (.v v5), some (shW c m h), none, none, none, none, none, none, none]
  have cm := comp_mk (chk := fun S' => S'.N (c + (m + 1)) = some (cellsW c (m + 1))) (step := cstepL 10 wYes (wE (eComp true (iS (eSl (slU false) (eVar 10) (pSome (eA oLen (aCons (eVar 3) aNil))) pNone)) (.name 13) Rw.tYes (eVar 13) [13])) env) (e := fun i => Wv.v (.c (c + i))) (w := fun i : Nat => [D.int ((i : Int) - 500)]) (A := S.M) (N := S.N) (fun _ => hS.num) (List.range (m + 1)) [] (fun i hi B => by
    have hi' := List.mem_range.mp hi
    have hl := hS.len
    have hr : (S.M ++ B)[c + i]? = some (some (f i)) := by
      rw [List.getElem?_append_left (by omega)]
      exact hS.row hi'
    unfold cstepL
    have e1 : wYes (env.set 10 (some (.v (.c (c + i))))) ⟨S.M ++ B, S.N⟩ = some (true, ⟨S.M ++ B, S.N⟩) := rfl
    have e2 : (wE (eComp true (iS (eSl (slU false) (eVar 10) (pSome (eA oLen (aCons (eVar 3) aNil))) pNone)) (.name 13) Rw.tYes (eVar 13) [13])) (env.set 10 (some (.v (.c (c + i))))) ⟨S.M ++ B, S.N⟩ = some (.v (.c (S.M ++ B).length), ⟨S.M ++ B ++ [some [.int ((i : Int) - 500)]], S.N⟩) := by
      apply ok_eq
      simp [env, celOk hr, hn, hf i hi']
      refine compL_step (y := .int ((i : Int) - 500)) (by simp [stand]) (by simp) ?_
      rw [ok_compL_nil]
      exact ⟨by simp [stand], by simp⟩
    simp only [e1, e2])
  simp only [List.append_nil, List.length_range] at cm
  have ce : (List.range (m + 1)).map (fun i => Wv.v (.c (c + i))) = cellsW c (m + 1) := rfl
  rw [ce] at cm
  rw [okE (show compW _ _ _ _ = _ from cm)]
  have hl := hS.len
  have rl : rs S.M.length 5 (newL (cellsW S.M.length (m + 1)) ⟨S.M ++ (List.range (m + 1)).map (fun i : Nat => some [D.int ((i : Int) - 500)]), S.N⟩).2 (newL (cellsW S.M.length (m + 1)) ⟨S.M ++ (List.range (m + 1)).map (fun i : Nat => some [D.int ((i : Int) - 500)]), S.N⟩).1 = some (.lst ((List.range (m + 1)).map fun i : Nat => .lst [.int ((i : Int) - 500)])) := by
    refine rs_cellsW (c0 := S.M.length) (k := m + 1) (G := fun i : Nat => [.int ((i : Int) - 500)]) (Nat.le_refl _) (by simp) (by simp [newL, upN]) ?_
    intro i hi
    simp only [newL]
    rw [List.append_assoc, List.getElem?_append_right (by omega), Nat.add_sub_cancel_left, List.getElem?_append_left (by simpa using hi), List.getElem?_map, List.getElem?_range hi]
    rfl
  have nl : ∀ q, q < S.M.length → (newL (cellsW S.M.length (m + 1)) ⟨S.M ++ (List.range (m + 1)).map (fun i : Nat => some [D.int ((i : Int) - 500)]), S.N⟩).2.N q = S.N q := by
    intro q hq
    simp [newL, upN]
    omega
  have nm : (newL (cellsW S.M.length (m + 1)) ⟨S.M ++ (List.range (m + 1)).map (fun i : Nat => some [D.int ((i : Int) - 500)]), S.N⟩).2.M.take S.M.length = S.M := by
    simp [newL]
  simp only [okE rl, nm]
  refine ⟨nl, k _ ?_⟩
  obtain ⟨M, jk, hp, hc, e, x⟩ := hS
  refine ⟨M, jk, hp, hc, e, ?_⟩
  have : c + (m + 1) < S.M.length := by omega
  simp only [this, if_true]
  rw [nl _ this]
  exact x
theorem law_true (ns : List Int) (hl : ns.length ≤ 63) (hb : ∀ z ∈ ns, z.natAbs.log2 < 1048577) : ∃ M, f_law [.r (ns.map D.int)] [] = some (.d (.bl true), M) := by
  suffices h : Ok (f_law [.r (ns.map D.int)] []) fun p => p.1 = .d (.bl true) by
    obtain ⟨⟨v, M⟩, e, h⟩ := h
    simp only at h
    subst h
    exact ⟨M, e⟩
  unfold f_law
  rw [ok_fnF]
  simp [b_law, startW, -seqPW_nx]
  refine (purse_ok hb).mono ?_
  rintro _ ⟨a, b, rfl⟩
  have h0 : Purse 0 [some [.int a, .int b]] := ⟨a, b, rfl⟩
  revert h0
  generalize ([some [.int a, .int b]] : DSt) = M
  intro h0
  clear a b hb hl
  simp [-seqPW_nx]
  refine seqPW_nx.mpr ?_
  simp [-seqPW_nx]
  refine (lists_ok h0 (k := 8) (by omega) (by omega)).mono ?_
  rintro ⟨v, M2⟩ ⟨xs, ys, hx, hy, x0, x1, y0, y1, hv, hM2⟩
  simp only at hv
  subst hv
  obtain ⟨m, hm⟩ : ∃ m, xs.length = m + 1 := ⟨xs.length - 1, by omega⟩
  obtain ⟨n, hn⟩ : ∃ n, ys.length = n + 1 := ⟨ys.length - 1, by omega⟩
  have p2 := hM2.1
  simp only at p2
  clear hM2 h0
  simp [-seqPW_nx, rowD]
  refine seqPW_nx.mpr ?_
  simp [-seqPW_nx]
  refine (draw_ok p2 (by decide) (by decide)).mono ?_
  rintro ⟨v, M3⟩ ⟨d1, hd1, hv, hM3⟩
  simp only at hv
  subst hv
  have p3 := hM3.1
  simp only at p3
  simp [-seqPW_nx]
  refine (draw_ok p3 (by decide) (by decide)).mono ?_
  rintro ⟨v, M4⟩ ⟨d2, hd2, hv, hM4⟩
  simp only at hv
  subst hv
  have p4 := hM4.1
  simp only at p4
  clear hM3 hM4 p2 p3
  simp [-seqPW_nx]
  let env : WEnv := [some (.v (.r (ns.map D.int))), some (.v (.c 0)), some (.v (.d (.lst (xs.map D.int)))), some (.v (.d (.lst (ys.map D.int)))), none, none, none, none, none, none, none, none, none, none]
  refine forW_by _ (fun _ ρ S => ρ = env ∧ Purse 0 S.M) ⟨rfl, p4⟩ ?_ ?_
  · rintro i x ρ ⟨SM, SN⟩ hi ⟨rfl, hp⟩
    simp only at hp
    refine ⟨trivial, ?_⟩
    obtain ⟨b, hb, rfl⟩ : ∃ b : Nat, b ≤ 8 ∧ x = .int (b : Int) := by
      rcases (show i = 0 ∨ i = 1 by have := (List.getElem?_eq_some_iff.mp hi).1; simp at this; omega) with rfl | rfl
      · simp at hi; exact ⟨d1, by omega, hi.symm⟩
      · simp at hi; exact ⟨d2, by omega, hi.symm⟩
    clear hi
    have ef := fun M => bent_way_eq (M := M) (b := b) hx hy hm hn (by omega) (by omega) (by omega)
    have ew := fun M N0 => bent_paperW_ok (M := M) (N0 := N0) (b := b) hx hy hm hn (by omega) (by omega) (by omega)
    simp only [rowD] at ef ew
    cases hin : inB b m n with
    | false =>
      have e1 := fun M => (ef M).1 hin
      have e2 := (ew SM SN).1 hin
      have hc : ¬ (if ((m : Int) + 1) - ((n : Int) + 1) < 0 then -(((m : Int) + 1) - ((n : Int) + 1)) else ((m : Int) + 1) - ((n : Int) + 1)) ≤ (b : Int) := by
        unfold inB at hin
        rw [decide_eq_false_iff_not] at hin
        split <;> omega
      simp [-seqPW_nx, env, ↓okE (e1 _)]
      refine seqPW_nx.mpr ?_
      simp [-seqPW_nx, ↓okE e2]
      refine seqPW_nx.mpr ?_
      simp [isNonW, isNon, hm, hn, hc]
      exact hp
    | true =>
      obtain ⟨Wf, hWf, e1⟩ := (ef SM).2 hin
      obtain ⟨W, jk, N1, hW, hN1, hN2, e2⟩ := (ew SM SN).2 hin
      have S1 : Sh SM.length m (rowG (n + 1) (hG xs ys b m)) (W.map prD) ⟨stG SM (m + 1) (n + 1) (hG xs ys b m) ++ [some jk, some (W.map prD)], N1⟩ := ⟨SM, jk, hp, rfl, rfl, hN1⟩
      have hsw : Wv.t [.v (.d (.int (hZ (sqZ xs ys) b m n))), .v (.c (SM.length + m + 3)), .l (SM.length + (m + 1))] = shW SM.length m (hZ (sqZ xs ys) b m n) := rfl
      have shs := fun M => shows_bent_eq (M := M) hx hy hm hn (by omega) (by omega) (by omega) hin hW
      have c0 : 0 < SM.length := hp.lt
      rw [hsw] at e2
      simp only [rowD] at shs
      generalize SM.length = c at *
      generalize (⟨stG SM (m + 1) (n + 1) (hG xs ys b m) ++ [some jk, some (W.map prD)], N1⟩ : WSt) = S at *
      simp [-seqPW_nx, env, ↓okE e1]
      refine seqPW_nx.mpr ?_
      simp [-seqPW_nx, ↓okE e2]
      refine seqPW_nx.mpr ?_
      have nw : isNonW (shW c m (hZ (sqZ xs ys) b m n)) = false := rfl
      have f1 := rs_pap (b := 0) (h := hZ (sqZ xs ys) b m n) (by omega) S1
      have pe : D.tup [.int (hZ (sqZ xs ys) b m n), .lst (W.map prD), rowsF m (rowG (n + 1) (hG xs ys b m))] = papD xs ys b m n W := rfl
      rw [pe] at f1
      have sz : (D.int (hZ (sqZ xs ys) b m n)).shp 9 = true := rfl
      have i0 : atD [.int (hZ (sqZ xs ys) b m n), .lst (Wf.map prD)] 0 = some (.int (hZ (sqZ xs ys) b m n)) := rfl
      have i1 : ∀ M, oIx (.d (papD xs ys b m n W)) (.d (.int 0)) M = some (.d (.int (hZ (sqZ xs ys) b m n)), M) := fun M => by simp [oIx, papD, sv, ixD]
      refine ifW_pass ?_ ?_
      · simp [nw, isNon]
      refine seqPW_nx.mpr ?_
      refine ifW_pass ?_ ?_
      · simp [f1, ↓okE (shs _), ↓okE i0, ↓okE (i1 _), ↓ok_neSame sz]
      simp [-seqPW_nx]
      let env2 : WEnv := [some (.v (.r (ns.map D.int))), some (.v (.c 0)), some (.v (.d (.lst (xs.map D.int)))), some (.v (.d (.lst (ys.map D.int)))), some (.v (.d (.int b))), some (.v (.d (.tup [.int (hZ (sqZ xs ys) b m n), .lst (Wf.map prD)]))), some (shW c m (hZ (sqZ xs ys) b m n)), none, none, none, none, none, none, none]
      refine forW_by _ (fun _ ρ S => ρ = env2 ∧ Sh c m (rowG (n + 1) (hG xs ys b m)) (W.map prD) S) ⟨rfl, S1⟩ ?_ ?_
      · rintro i x ρ S' hi ⟨rfl, hS⟩
        refine ⟨trivial, ?_⟩
        have dr := law_drawn_ok (b := b) hS.purse hx hy hm hn (by omega) (by omega)
        simp only [rowD] at dr
        simp [-seqPW_nx, env2]
        refine dr.mono ?_
        rintro ⟨v, M5⟩ ⟨hL, hv⟩
        have hS5 := hS.draw hL
        simp only at hv
        rcases hv with rfl | ⟨s, rfl, hs⟩
        · refine seqPW_nx.mpr ?_
          simp [isNon]
          exact hS5
        · have hs' : ¬ s < hZ (sqZ xs ys) b m n := by omega
          refine seqPW_nx.mpr ?_
          simp [isNon, ↓okE i0, hs']
          exact hS5
      rintro ρ S2 ⟨rfl, hS2⟩
      refine ⟨trivial, ?_⟩
      clear S1 f1 e1 e2
      refine seqPW_nx.mpr ?_
      have it : ∀ S, itemsW S (shW c m (hZ (sqZ xs ys) b m n)) = some [.v (.d (.int (hZ (sqZ xs ys) b m n))), .v (.c (c + m + 3)), .l (c + (m + 1))] := fun _ => rfl
      have a2 : atW [.v (.d (.int (hZ (sqZ xs ys) b m n))), .v (.c (c + m + 3)), .l (c + (m + 1))] 2 = some (.l (c + (m + 1))) := rfl
      have a1 : atW [.v (.d (.int (hZ (sqZ xs ys) b m n))), .v (.c (c + m + 3)), .l (c + (m + 1))] 1 = some (.v (.c (c + m + 3))) := rfl
      simp [-seqPW_nx, env2, it, ↓okE a2, asL, hS2.num]
      let fR : Nat → Nat → List D := fun k a => rowG (n + 1) (hG xs ys b m) a ++ (if a < k then [.int ((a : Int) - 500)] else [])
      have fR0 : fR 0 = rowG (n + 1) (hG xs ys b m) := by
        funext a
        simp [fR]
      have fRs : ∀ i, (fun a => if a = i then rowG (n + 1) (hG xs ys b m) i ++ [.int ((i : Int) - 500)] else fR i a) = fR (i + 1) := fun i => by
        funext a
        simp only [fR]
        by_cases h : a = i
        · subst h; simp
        · have h2 : a < i + 1 ↔ a < i := by omega
          simp [h, h2]
      refine forW_by _ (fun k ρ S => ρ = env2 ∧ Sh c m (fR k) (W.map prD) S) ⟨rfl, by rw [fR0]; exact hS2⟩ ?_ ?_
      · rintro i x ρ S' hi ⟨rfl, hS⟩
        refine ⟨hS.num, ?_⟩
        obtain ⟨w, hw, rfl⟩ := enumW_at _ _ _ _ hi
        have hi2 : i < m + 1 := by
          have := (List.getElem?_eq_some_iff.mp hi).1
          rw [enumW_len] at this
          simpa [cellsW] using this
        rw [cellsW_at hi2] at hw
        cases hw
        have hr := hS.row hi2
        have hf : fR i i = rowG (n + 1) (hG xs ys b m) i := by simp [fR]
        rw [hf] at hr
        have hput := hS.put (l := rowG (n + 1) (hG xs ys b m) i ++ [.int ((i : Int) - 500)]) hi2
        rw [fRs i] at hput
        simp [env2, celOk hr]
        exact ⟨by rw [rowG_len]; omega, hput⟩
      rintro ρ S3 ⟨rfl, hS3⟩
      rw [enumW_len, show (cellsW c (m + 1)).length = m + 1 by simp [cellsW]] at hS3
      refine ⟨hS3.num, ?_⟩
      clear S2 hS2
      refine seqPW_nx.mpr ?_
      have cut : ∀ i, i < m + 1 → cutD (fR (m + 1) i) (some ((n : Int) + 1)) none = [.int ((i : Int) - 500)] := fun i hi => by
        simp only [fR, if_pos hi]
        have hl : (rowG (n + 1) (hG xs ys b m) i).length = n + 1 := rowG_len
        generalize rowG (n + 1) (hG xs ys b m) i = r at *
        have e1 : sIxD (r ++ [D.int ((i : Int) - 500)]).length 0 (some ((n : Int) + 1)) = n + 1 := by
          simp [sIxD, hl]
          omega
        have e2 : sIxD (r ++ [D.int ((i : Int) - 500)]).length (r ++ [D.int ((i : Int) - 500)]).length none = n + 2 := by
          simp [sIxD, hl]
        unfold cutD
        rw [e1, e2, List.drop_left' hl, show n + 2 - (n + 1) = 1 by omega]
        rfl
      simp only [env2, ok_sSeq, ok_sAsg]
      refine marks_ok (by omega) hn hS3 cut fun S4 hS4 => ?_
      clear hS3 S3 cut
      have msh : (D.lst ((List.range (m + 1)).map fun i : Nat => .lst [.int ((i : Int) - 500)])).shp 9 = true := by
        simp [D.shp]
      simp [-seqPW_nx]
      refine seqPW_nx.mpr ?_
      refine ifW_pass ?_ ?_
      · simp [hm]
        refine ⟨by omega, by omega, ?_⟩
        have er : rng 0 (m + 1) = (List.range (m + 1)).map fun i : Nat => D.int (i : Int) := by simp [rng]
        try rw [er]
        refine comp_map (f := fun i : Nat => D.int (i : Int)) (fun i : Nat => D.lst [.int ((i : Int) - 500)]) (by simp [stand]) ?_ ?_
        · intro i hi
          simp
        · simp only [ok_mkL_f]
          simp [↓ok_neSame msh]
      simp [-seqPW_nx, it, ↓okE a1]
      rw [celOk hS4.way]
      refine seqPW_nx.mpr ?_
      have hS5 := hS4.clear (l := [])
      have p5 := hS5.purse
      simp only at p5
      generalize S4.M.set (c + m + 3) (some []) = M5 at *
      clear hS5
      obtain ⟨W2, jk2, N2, hW2, hN2, hN3, e2⟩ := (ew M5 S4.N).2 hin
      have S6 : Sh M5.length m (rowG (n + 1) (hG xs ys b m)) (W2.map prD) ⟨stG M5 (m + 1) (n + 1) (hG xs ys b m) ++ [some jk2, some (W2.map prD)], N2⟩ := ⟨M5, jk2, p5, rfl, rfl, hN2⟩
      have hsw2 : Wv.t [.v (.d (.int (hZ (sqZ xs ys) b m n))), .v (.c (M5.length + m + 3)), .l (M5.length + (m + 1))] = shW M5.length m (hZ (sqZ xs ys) b m n) := rfl
      have shs2 := fun M => shows_bent_eq (M := M) hx hy hm hn (by omega) (by omega) (by omega) hin hW2
      rw [hsw2] at e2
      simp only [rowD] at shs2
      have f2 := rs_pap (b := M5.length) (h := hZ (sqZ xs ys) b m n) (Nat.le_refl _) S6
      have pe2 : D.tup [.int (hZ (sqZ xs ys) b m n), .lst (W2.map prD), rowsF m (rowG (n + 1) (hG xs ys b m))] = papD xs ys b m n W2 := rfl
      rw [pe2] at f2
      have nm2 : (stG M5 (m + 1) (n + 1) (hG xs ys b m) ++ [some jk2, some (W2.map prD)]).take M5.length = M5 := by
        simp [stG]
      have i2 : ∀ M, oIx (.d (papD xs ys b m n W2)) (.d (.int 0)) M = some (.d (.int (hZ (sqZ xs ys) b m n)), M) := fun M => by simp [oIx, papD, sv, ixD]
      generalize stG M5 (m + 1) (n + 1) (hG xs ys b m) ++ [some jk2, some (W2.map prD)] = M6 at *
      simp [-seqPW_nx, ↓okE e2, ↓okE f2, nm2]
      refine ⟨hN3, ?_⟩
      generalize (fun n => if n < M5.length then N2 n else none) = N7
      refine seqPW_nx.mpr ?_
      refine ifW_pass ?_ ?_
      · simp [↓okE (i2 _), ↓okE i0, ↓ok_neSame sz, ↓okE (shs2 _)]
      have tin : inB b n m = true := by rw [inB_turn]; exact hin
      obtain ⟨W3, _, e3⟩ := (bent_way_eq (M := M5) (b := b) hy hx hn hm (by omega) (by omega) (by omega)).2 tin
      have ht := hZ_turn (sq := sqZ xs ys) (sq' := sqZ ys xs) sqZ_turn hin
      rw [ht] at e3
      simp only [rowD] at e3
      have i3 : atD [.int (hZ (sqZ xs ys) b m n), .lst (W3.map prD)] 0 = some (.int (hZ (sqZ xs ys) b m n)) := rfl
      refine seqPW_nx.mpr ?_
      refine ifW_pass ?_ ?_
      · simp [↓okE e3, ↓okE i3, ↓okE i0, ↓ok_neSame sz]
      refine seqPW_nx.mpr ?_
      refine ifW_pass ?_ ?_
      · by_cases hmn : m = n
        · subst hmn
          have rin : ∀ a q, a ≤ m → q ≤ m → sqZ xs.reverse ys.reverse (m - a) (m - q) = sqZ xs ys a q := fun a q ha hq => by
            unfold sqZ
            rw [nz_rev hm ha, nz_rev hn hq]
          obtain ⟨W4, _, e4⟩ := (bent_way_eq (M := M5) (b := b) (row_rev hx) (row_rev hy) (m := m) (n := m) (by simpa using hm) (by simpa using hn) (by omega) (by omega) (by omega)).2 hin
          have hbk := hZ_back (sq := sqZ xs ys) (sq' := sqZ xs.reverse ys.reverse) (m := m) (b := b) rin hin
          rw [hbk] at e4
          simp only [rowD, List.map_reverse] at e4
          have i4 : atD [.int (hZ (sqZ xs ys) b m m), .lst (W4.map prD)] 0 = some (.int (hZ (sqZ xs ys) b m m)) := rfl
          simp [hm, hn, oRev, ↓okE e4, ↓okE i4, ↓okE i0, ↓ok_neSame sz]
        · simp [hm, hn]
          omega
      refine seqPW_nx.mpr ?_
      simp [-seqPW_nx]
      refine (draw_ok p5 (by decide) (by decide)).mono ?_
      rintro ⟨v, M8⟩ ⟨d9, hd9, hv, hM8⟩
      simp only at hv
      subst hv
      have p8 := hM8.1
      simp only at p8
      obtain ⟨b2, e9, hb1, hb3⟩ : ∃ b2 : Nat, (b : Int) + 1 + (d9 : Int) = (b2 : Int) ∧ b ≤ b2 ∧ b2 ≤ 40 := ⟨b + 1 + d9, by omega, by omega, by omega⟩
      have win : inB b2 m n = true := by
        unfold inB at *
        rw [decide_eq_true_eq] at *
        omega
      obtain ⟨W5, _, e5⟩ := (bent_way_eq (M := M8) (b := b2) hx hy hm hn (by omega) (by omega) (by omega)).2 win
      have hw := hZ_wider (sq := sqZ xs ys) (b := b) (b' := b2) (i := m) (j := n) (by omega) hin
      simp only [rowD] at e5
      have i5 : atD [.int (hZ (sqZ xs ys) b2 m n), .lst (W5.map prD)] 0 = some (.int (hZ (sqZ xs ys) b2 m n)) := rfl
      have hle : ¬ hZ (sqZ xs ys) b m n < hZ (sqZ xs ys) b2 m n := by omega
      simp [e9, ↓okE e5, ↓okE i5, ↓okE i0, hle]
      exact p8
  · rintro ρ S ⟨rfl, hp⟩
    have h1 := fun M => (bent_way_eq (M := M) (b := 0) hx hx hm hm (by omega) (by omega) (by omega)).2 inB_self
    have h2 := fun M => (bent_way_eq (M := M) (b := 40) hx hx hm hm (by omega) (by omega) (by omega)).2 inB_self
    simp only [hZ_same, rowD] at h1 h2
    obtain ⟨W1, _, e1⟩ := h1 S.M
    obtain ⟨W2, _, e2⟩ := h2 S.M
    have i1 : atD [.int 0, .lst (W1.map prD)] 0 = some (.int 0) := rfl
    have i2 : atD [.int 0, .lst (W2.map prD)] 0 = some (.int 0) := rfl
    have s0 : (D.int 0).shp 9 = true := rfl
    refine ⟨trivial, ?_⟩
    refine seqPW_nx.mpr ?_
    simp [env, oList]
    rw [okE (show f_bent_way [.d (.lst (xs.map D.int)), .d (.lst (xs.map D.int)), .d (.int 0)] S.M = _ from e1)]
    simp [↓okE i1]
    rw [okE (show f_bent_way [.d (.lst (xs.map D.int)), .d (.lst (xs.map D.int)), .d (.int 40)] S.M = _ from e2)]
    simp [↓okE i2]
end Lk95
end PMk95
section PZk95
open PySem PySem.W PyProof.Rows
set_option Elab.async false
set_option maxRecDepth 100000 in
set_option maxHeartbeats 0 in
theorem PySem.Challenge.cw_rowecho_k95_whole_bent_papers_holds : PySem.Challenge.rw_rowecho_k95_whole_bent_papers.Holds := by
  w_on; o_law; k_head; (case hw => w_witness2)
  k_fill
  refine L2.walk_ofB (l := PySem.Challenge.rw_rowecho_k95_whole_bent_papers) (n := 63) (k := 5) (x := "_law_script") (CX := fun _ => L2.CX0) (sp := fun w => Rw.spD _ Lk95.f_law 1) rfl (by decide) rfl ⟨rfl, by decide, by decide⟩ (fun w h Y => PySem.W.kIn_of Y) ?F (fun _ _ a ns hl hb _ hS => (Lk95.law_true ns hl (Rw.bits_log hb)).elim fun _ h => Rw.law_sp hS h) (fun _ _ _ _ _ h => h)
  case F =>
    intro w mg fa h KX G hmg
    refine' Lk95.all_mk KX G hmg ?a1 ?l1 ?c1 ?k1 ?a2 ?l2 ?c2 ?k2 ?a3 ?l3 ?c3 ?k3 ?a4 ?l4 ?c4 ?k4 ?a5 ?l5 ?c5 ?k5 ?a6 ?l6 ?c6 ?k6 ?a7 ?l7 ?c7 ?k7 ?a8 ?l8 ?c8 ?k8 ?a9 ?l9 ?c9 ?k9 ?a10 ?l10 ?c10 ?k10 ?a11 ?l11 ?c11 ?k11 ?a12 ?l12 ?c12 ?k12 ?a13 ?l13 ?c13 ?k13 ?a14 ?l14 ?c14 ?k14 ?a15 ?l15 ?c15 ?k15 ?a16 ?l16 ?c16 ?k16 ?a17 ?l17 ?c17 ?k17 ?a18 ?l18 ?c18 ?k18 ?a19 ?l19 ?c19 ?k19 ?a20 ?l20 ?c20 ?k20 ?a21 ?l21 ?c21 ?k21 ?a22 ?l22 ?c22 ?k22 ?zz_len ?zz_range ?zz_abs ?zz_min ?zz_max ?zz_int ?zz_enumerate ?zz_zip ?zz_sum ?zz_list ?ga1_MOST_LENGTH ?ga1_STEPS ?gl_STEPS ?gl_STEPS_2 ?gl_STEPS_1 ?gl_STEPS_0
    (case a1 => k_is)
    (case l1 => k_is)
    (case c1 => k_is)
    (case k1 => k_is)
    (case a2 => k_is)
    (case l2 => k_is)
    (case c2 => k_is)
    (case k2 => k_is)
    (case a3 => k_is)
    (case l3 => k_is)
    (case c3 => k_is)
    (case k3 => k_is)
    (case a4 => k_is)
    (case l4 => k_is)
    (case c4 => k_is)
    (case k4 => k_is)
    (case a5 => k_is)
    (case l5 => k_is)
    (case c5 => k_is)
    (case k5 => k_is)
    (case a6 => k_is)
    (case l6 => k_is)
    (case c6 => k_is)
    (case k6 => k_is)
    (case a7 => k_is)
    (case l7 => k_is)
    (case c7 => k_is)
    (case k7 => k_is)
    (case a8 => k_is)
    (case l8 => k_is)
    (case c8 => k_is)
    (case k8 => k_is)
    (case a9 => k_is)
    (case l9 => k_is)
    (case c9 => k_is)
    (case k9 => k_is)
    (case a10 => k_is)
    (case l10 => k_is)
    (case c10 => k_is)
    (case k10 => k_is)
    (case a11 => k_is)
    (case l11 => k_is)
    (case c11 => k_is)
    (case k11 => k_is)
    (case a12 => k_is)
    (case l12 => k_is)
    (case c12 => k_is)
    (case k12 => k_is)
    (case a13 => k_is)
    (case l13 => k_is)
    (case c13 => k_is)
    (case k13 => k_is)
    (case a14 => k_is)
    (case l14 => k_is)
    (case c14 => k_is)
    (case k14 => k_is)
    (case a15 => k_is)
    (case l15 => k_is)
    (case c15 => k_is)
    (case k15 => k_is)
    (case a16 => k_is)
    (case l16 => k_is)
    (case c16 => k_is)
    (case k16 => k_is)
    (case a17 => k_is)
    (case l17 => k_is)
    (case c17 => k_is)
    (case k17 => k_is)
    (case a18 => k_is)
    (case l18 => k_is)
    (case c18 => k_is)
    (case k18 => k_is)
    (case a19 => k_is)
    (case l19 => k_is)
    (case c19 => k_is)
    (case k19 => k_is)
    (case a20 => k_is)
    (case l20 => k_is)
    (case c20 => k_is)
    (case k20 => k_is)
    (case a21 => k_is)
    (case l21 => k_is)
    (case c21 => k_is)
    (case k21 => k_is)
    (case a22 => k_is)
    (case l22 => k_is)
    (case c22 => k_is)
    (case k22 => k_is)
    (case zz_len => k_is)
    (case zz_range => k_is)
    (case zz_abs => k_is)
    (case zz_min => k_is)
    (case zz_max => k_is)
    (case zz_int => k_is)
    (case zz_enumerate => k_is)
    (case zz_zip => k_is)
    (case zz_sum => k_is)
    (case zz_list => k_is)
    (case ga1_MOST_LENGTH => k_is)
    (case ga1_STEPS => k_is)
    (case gl_STEPS => k_is)
    (case gl_STEPS_2 => k_is)
    (case gl_STEPS_1 => k_is)
    (case gl_STEPS_0 => k_is)
#print axioms PySem.Challenge.cw_rowecho_k95_whole_bent_papers_holds
end PZk95
