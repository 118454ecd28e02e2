import PyProof.Rows.All
import Wide.All
import OpenK.AllK
import Wide.FinOn
import PyProof.EqAt
import PyProof.EqKinds
import PyProof.TupleCall
import HandS.ForMost
import HandS.Walk
import HandS.Wide
import HandS.Evl
import HandS.EndBits
import HandS.IsInst
import HandS.SortInts
import HandS.TupAny
import HandS.Style
import HandS.Conv
import HandS.More
import HandS.NoneIn
import PySem.Challenge.RW_rowecho_k35_whole_roots
section PRwSem
set_option autoImplicit false
set_option linter.all false
/-! RwSem: a pure reading of the program: data D, values Dv (data, a cell of the store, the script), an environment by slots, a store of lists that may change. Every construct is a function; nothing of the model is in sight. -/
namespace Rw
open PySem (Str)
noncomputable section

inductive D where
  | non | bl (b : Bool) | int (i : Int) | str (s : Str) | ty (n : String) | lst (xs : List D) | tup (xs : List D)
/-- a value: data that never changes, a cell of the store, a list that is only read (the script) -/
inductive Dv where
  | d (x : D) | c (n : Nat) | r (xs : List D)

abbrev DEnv := List (Option Dv)
abbrev DSt := List (Option (List D))
abbrev DE := DEnv → DSt → Option (Dv × DSt)
abbrev DT := DEnv → DSt → Option (Bool × DSt)
abbrev DA := DEnv → DSt → Option (List Dv × DSt)
abbrev DF := List Dv → DSt → Option (Dv × DSt)
inductive Out where
  | nx (ρ : DEnv) (M : DSt) | rt (v : Dv) (M : DSt) | bk (ρ : DEnv) (M : DSt) | ct (ρ : DEnv) (M : DSt)
abbrev DS := DEnv → DSt → Option Out
abbrev DI := DEnv → DSt → Option (List D × List Nat × DSt)

/-- the bound of lists here -/
abbrev big : Nat := 1000000
/-- only where p holds -/
def grd {α : Type} (p : Prop) (o : Option α) : Option α := open Classical in if p then o else none
theorem grd_ok {α : Type} {p : Prop} {o : Option α} (h : p) : grd p o = o := if_pos h
theorem grd_some {α : Type} {p : Prop} {o : Option α} {x : α} (h : grd p o = some x) : p ∧ o = some x := by
  unfold grd at h
  split at h
  · exact ⟨by assumption, h⟩
  · cases h

/-- the list that a value is -/
def lv (M : DSt) : Dv → Option (List D)
  | .d (.lst xs) => some xs
  | .c n => (M[n]?).join
  | .r xs => some xs
  | _ => none
/-- .. but the script -/
def lw (M : DSt) : Dv → Option (List D)
  | .d (.lst xs) => some xs
  | .c n => (M[n]?).join
  | _ => none
/-- a list or a tuple -/
def sv (M : DSt) : Dv → Option (List D)
  | .d (.tup xs) => some xs
  | v => lv M v
/-- data: a cell is read -/
def dv (M : DSt) : Dv → Option D
  | .d x => some x
  | .c n => ((M[n]?).join).map D.lst
  | .r xs => some (.lst xs)
/-- a new list: a cell (c), or data -/
def mkL (c : Bool) (xs : List D) (M : DSt) : Option (Dv × DSt) := match c with
  | true => some (.c M.length, M ++ [some xs])
  | false => some (.d (.lst xs), M)

/-! ### expressions -/
def eVar (i : Nat) : DE := fun ρ M => match ρ[i]? with
  | some (some x) => some (x, M)
  | _ => none
def eC (x : D) : DE := fun _ M => some (.d x, M)
def e1 (f : Dv → DSt → Option (Dv × DSt)) (a : DE) : DE := fun ρ M => match a ρ M with
  | some (x, M1) => f x M1
  | none => none
def e2 (f : Dv → Dv → DSt → Option (Dv × DSt)) (a b : DE) : DE := fun ρ M => match a ρ M with
  | some (x, M1) => match b ρ M1 with
    | some (y, M2) => f x y M2
    | none => none
  | none => none
def aNil : DA := fun _ M => some ([], M)
def aCons (a : DE) (as : DA) : DA := fun ρ M => match a ρ M with
  | some (x, M1) => match as ρ M1 with
    | some (xs, M2) => some (x :: xs, M2)
    | none => none
  | none => none
def eA (f : List Dv → DSt → Option (Dv × DSt)) (as : DA) : DE := fun ρ M => match as ρ M with
  | some (xs, M1) => f xs M1
  | none => none
/-- a chain of two comparisons -/
def eChain (f g : Dv → Dv → DSt → Option (Dv × DSt)) (a b c : DE) : DE := fun ρ M => match a ρ M with
  | some (x, M1) => match b ρ M1 with
    | some (y, M2) => match f x y M2 with
      | some (.d (.bl true), M3) => match c ρ M3 with
        | some (z, M4) => g y z M4
        | none => none
      | some (.d (.bl false), M3) => some (.d (.bl false), M3)
      | _ => none
    | none => none
  | none => none
def tVal (a : DE) : DT := fun ρ M => match a ρ M with
  | some (.d (.bl b), M1) => some (b, M1)
  | _ => none
def tAnd (a b : DT) : DT := fun ρ M => match a ρ M with
  | some (true, M1) => b ρ M1
  | some (false, M1) => some (false, M1)
  | none => none
def tOr (a b : DT) : DT := fun ρ M => match a ρ M with
  | some (true, M1) => some (true, M1)
  | some (false, M1) => b ρ M1
  | none => none
def tNot (a : DT) : DT := fun ρ M => match a ρ M with
  | some (b, M1) => some (!b, M1)
  | none => none
def tYes : DT := fun _ M => some (true, M)
def eIf (t : DT) (a b : DE) : DE := fun ρ M => match t ρ M with
  | some (true, M1) => a ρ M1
  | some (false, M1) => b ρ M1
  | none => none
def eAnd (a b : DE) : DE := fun ρ M => match a ρ M with
  | some (.d (.bl true), M1) => b ρ M1
  | some (.d (.bl false), M1) => some (.d (.bl false), M1)
  | _ => none
def eOr (a b : DE) : DE := fun ρ M => match a ρ M with
  | some (.d (.bl true), M1) => some (.d (.bl true), M1)
  | some (.d (.bl false), M1) => b ρ M1
  | _ => none
def eNot (a : DE) : DE := fun ρ M => match a ρ M with
  | some (.d (.bl b), M1) => some (.d (.bl (!b)), M1)
  | _ => none
/-- data alone -/
def allD : List Dv → Option (List D)
  | [] => some []
  | .d x :: r => (allD r).map (x :: ·)
  | _ :: _ => none
def eTup (as : DA) : DE := eA (fun vs M => match allD vs with
  | some xs => grd (xs.length ≤ big) (some (.d (.tup xs), M))
  | none => none) as
def eLst (c : Bool) (as : DA) : DE := eA (fun vs M => match allD vs with
  | some xs => grd (xs.length ≤ big) (mkL c xs M)
  | none => none) as
/-- a value that is handed on as data: a list that was just made (the last cell) is no cell any more -/
def frz (b : Nat) : Dv × DSt → Option (Dv × DSt)
  | (.d x, M) => some (.d x, M)
  | (.c n, M) => if n = b ∧ M.length = b + 1 then match (M[n]?).join with
      | some xs => some (.d (.lst xs), M.take b)
      | none => none
    else none
  | _ => none
def eFrz (a : DE) : DE := fun ρ M => match a ρ M with
  | some p => frz M.length p
  | none => none
/-- a cell is data from now on -/
def eFrzC (a : DE) : DE := fun ρ M => match a ρ M with
  | some (.c n, M1) => match (M1[n]?).join with
    | some xs => some (.d (.lst xs), M1.set n none)
    | none => none
  | _ => none

/-! ### operators -/
def iLn (i : Int) : Prop := i.natAbs.log2 < 4000000
def mulOk (i j : Int) : Prop := (-(2 ^ 64) < i ∧ i < 2 ^ 64) ∨ (-(2 ^ 64) < j ∧ j < 2 ^ 64) ∨ (iLn i ∧ iLn j)
def divOk (j : Int) : Prop := j ≠ 0 ∧ j.natAbs.log2 < 9000
def powOk (i j : Int) : Prop := 0 ≤ j ∧ j ≤ 1000000 ∧ i.natAbs < 2 ^ 64
abbrev O1 := Dv → DSt → Option (Dv × DSt)
abbrev O2 := Dv → Dv → DSt → Option (Dv × DSt)
abbrev OA := List Dv → DSt → Option (Dv × DSt)
/-- two intsD -/
def oI (f : Int → Int → D) : O2 := fun x y M => match x, y with
  | .d (.int i), .d (.int j) => some (.d (f i j), M)
  | _, _ => none
def oIg (p : Int → Int → Prop) (f : Int → Int → D) : O2 := fun x y M => match x, y with
  | .d (.int i), .d (.int j) => grd (p i j) (some (.d (f i j), M))
  | _, _ => none
def oAdd (c : Bool) : O2 := fun x y M => match x, y with
  | .d (.int i), .d (.int j) => some (.d (.int (i + j)), M)
  | .d (.str s), .d (.str t) => grd (s.length + t.length ≤ big) (some (.d (.str (s ++ t)), M))
  | x, y => match lw M x, lw M y with
    | some xs, some ys => grd (xs.length + ys.length ≤ big) (mkL c (xs ++ ys) M)
    | _, _ => none
def oSub : O2 := oI fun i j => .int (i - j)
def oMul : O2 := oIg mulOk fun i j => .int (i * j)
/-- a list so many times -/
def oRep (c : Bool) : O2 := fun x y M => match lw M x, y with
  | some xs, .d (.int k) => grd (-(2 ^ 62) ≤ k ∧ k < 2 ^ 62 ∧ xs.length * k.toNat ≤ big) (mkL c (List.replicate k.toNat xs).flatten M)
  | _, _ => none
/-- ints, or a list so many times -/
def oMulU (c : Bool) : O2 := fun x y M => match x, y with
  | .d (.int i), .d (.int j) => grd (mulOk i j) (some (.d (.int (i * j)), M))
  | x, y => oRep c x y M
def oDiv : O2 := oIg (fun _ j => divOk j) fun i j => .int (i.fdiv j)
def oMod : O2 := oIg (fun _ j => j ≠ 0) fun i j => .int (i.fmod j)
def oPow : O2 := oIg powOk fun i j => .int (i ^ j.toNat)
def oLt : O2 := oI fun i j => .bl (decide (i < j))
def oLe : O2 := oI fun i j => .bl (decide (i ≤ j))
def oGt : O2 := oI fun i j => .bl (decide (j < i))
def oGe : O2 := oI fun i j => .bl (decide (j ≤ i))
def oNeg : O1 := fun x M => match x with
  | .d (.int i) => some (.d (.int (-i)), M)
  | _ => none
/-! == of data -/
mutual
def D.eqv : D → D → Bool
  | .non, .non => true
  | .bl a, .bl b => a == b
  | .bl a, .int j => (if a then 1 else 0) == j
  | .int i, .bl b => i == (if b then 1 else 0)
  | .int i, .int j => i == j
  | .str x, .str y => x == y
  | .lst xs, .lst ys => D.eqvs xs ys
  | .tup xs, .tup ys => D.eqvs xs ys
  | _, _ => false
def D.eqvs : List D → List D → Bool
  | [], [] => true
  | x :: xs, y :: ys => D.eqv x y && D.eqvs xs ys
  | [], _ :: _ => false
  | _ :: _, [] => false
end
/-- flat to the depth n, no classes in it, texts of signs that are such -/
def strFine (s : Str) : Bool := s.cps.all (· < 0x110000)
def D.shp : Nat → D → Bool
  | _, .non => true
  | _, .bl _ => true
  | _, .int _ => true
  | _, .str s => strFine s
  | _, .ty _ => false
  | 0, .lst _ => false
  | 0, .tup _ => false
  | n + 1, .lst xs => xs.all (D.shp n)
  | n + 1, .tup xs => xs.all (D.shp n)
def oEq : O2 := fun x y M => match dv M x, dv M y with
  | some a, some b => grd (a.shp 9 = true ∧ b.shp 9 = true) (some (.d (.bl (D.eqv a b)), M))
  | _, _ => none
def oNe : O2 := fun x y M => match dv M x, dv M y with
  | some a, some b => grd (a.shp 9 = true ∧ b.shp 9 = true) (some (.d (.bl (!D.eqv a b)), M))
  | _, _ => none
def isNon : Dv → Bool
  | .d .non => true
  | _ => false
def oIsN : O1 := fun x M => some (.d (.bl (isNon x)), M)
def oNotN : O1 := fun x M => some (.d (.bl (!isNon x)), M)
/-- flat things: None, truths, intsD, texts -/
def D.flat : D → Bool
  | .non => true
  | .bl _ => true
  | .int _ => true
  | .str _ => true
  | _ => false
def oIn (neg : Bool) : O2 := fun x y M => match x, sv M y with
  | .d a, some ys => grd (a.flat = true ∧ ys.all D.flat = true) (some (.d (.bl (xor neg (ys.any fun b => D.eqv b a))), M))
  | _, _ => none
/-- the place that an int means -/
def ixD (n : Nat) (i : Int) : Option Nat := if 0 ≤ i then (if i < n then some i.toNat else none) else if -(n : Int) ≤ i then some (i + n).toNat else none
def oIx : O2 := fun x y M => match sv M x, y with
  | some xs, .d (.int i) => match ixD xs.length i with
    | some k => match xs[k]? with
      | some z => some (.d z, M)
      | none => none
    | none => none
  | none, .d (.int i) => match x with
    | .d (.str s) => grd (s.length ≤ big) (match ixD s.cps.toList.length i with
      | some k => match s.cps.toList[k]? with
        | some z => some (.d (.str ⟨#[z]⟩), M)
        | none => none
      | none => none)
    | _ => none
  | _, _ => none
def sIxD (n d : Nat) : Option Int → Nat
  | none => d
  | some v => if v < 0 then (v + (n : Int)).toNat else min v.toNat n
def cutD (xs : List D) (lo hi : Option Int) : List D := (xs.drop (sIxD xs.length 0 lo)).take (sIxD xs.length xs.length hi - sIxD xs.length 0 lo)
abbrev DO := DEnv → DSt → Option (Option Int × DSt)
def pNone : DO := fun _ M => some (none, M)
def pSome (a : DE) : DO := fun ρ M => match a ρ M with
  | some (.d (.int i), M1) => some (some i, M1)
  | _ => none
def eSl (f : Dv → Option Int → Option Int → DSt → Option (Dv × DSt)) (a : DE) (lo hi : DO) : DE := fun ρ M => match a ρ M with
  | some (x, M1) => match lo ρ M1 with
    | some (l, M2) => match hi ρ M2 with
      | some (h, M3) => f x l h M3
      | none => none
    | none => none
  | none => none
def slL (c : Bool) : Dv → Option Int → Option Int → DSt → Option (Dv × DSt) := fun x l h M => match lv M x with
  | some xs => mkL c (cutD xs l h) M
  | none => none
def slT : Dv → Option Int → Option Int → DSt → Option (Dv × DSt) := fun x l h M => match x with
  | .d (.tup xs) => some (.d (.tup (cutD xs l h)), M)
  | _ => none

/-- a slice of a list or a tuple -/
def slU (c : Bool) : Dv → Option Int → Option Int → DSt → Option (Dv × DSt) := fun x l h M => match x with
  | .d (.tup xs) => some (.d (.tup (cutD xs l h)), M)
  | x => slL c x l h M

/-! ### built-ins -/
def intsD : List D → Option (List Int)
  | [] => some []
  | .int i :: r => (intsD r).map (i :: ·)
  | _ :: _ => none
def blsD : List D → Option (List Bool)
  | [] => some []
  | .bl b :: r => (blsD r).map (b :: ·)
  | _ :: _ => none
def oAbs : OA := fun vs M => match vs with
  | [.d (.int i)] => some (.d (.int (if i < 0 then -i else i)), M)
  | _ => none
def oLen : OA := fun vs M => match vs with
  | [.d (.str s)] => grd (s.length ≤ big) (some (.d (.int s.length), M))
  | [v] => match sv M v with
    | some xs => some (.d (.int xs.length), M)
    | none => none
  | _ => none
def oMax2 : OA := fun vs M => match vs with
  | [.d (.int i), .d (.int j)] => some (.d (.int (if j > i then j else i)), M)
  | _ => none
def oMin2 : OA := fun vs M => match vs with
  | [.d (.int i), .d (.int j)] => some (.d (.int (if j < i then j else i)), M)
  | _ => none
def oSum : OA := fun vs M => match vs with
  | [v] => match lv M v with
    | some xs => match intsD xs with
      | some ns => some (.d (.int ns.sum), M)
      | none => none
    | none => none
  | _ => none
def oAll : OA := fun vs M => match vs with
  | [v] => match lv M v with
    | some xs => match blsD xs with
      | some bs => some (.d (.bl (bs.all id)), M)
      | none => none
    | none => none
  | _ => none
def oAny : OA := fun vs M => match vs with
  | [v] => match lv M v with
    | some xs => match blsD xs with
      | some bs => some (.d (.bl (bs.any id)), M)
      | none => none
    | none => none
  | _ => none
def oInt : OA := fun vs M => match vs with
  | [.d (.int i)] => some (.d (.int i), M)
  | [.d (.bl b)] => some (.d (.int (if b then 1 else 0)), M)
  | _ => none
/-- list(xs) -/
def oList (c : Bool) : OA := fun vs M => match vs with
  | [v] => match sv M v with
    | some xs => mkL c xs M
    | none => none
  | _ => none
/-- intsD from a on -/
def rng (a : Int) (n : Nat) : List D := (List.range n).map fun (k : Nat) => .int (a + (k : Int))
/-- list(range(n)), list(range(a, b)) -/
def oListR1 (c : Bool) : OA := fun vs M => match vs with
  | [.d (.int j)] => grd (-1000000 ≤ j ∧ j ≤ 1000000) (mkL c (rng 0 j.toNat) M)
  | _ => none
def oListR2 (c : Bool) : OA := fun vs M => match vs with
  | [.d (.int i), .d (.int j)] => grd (-1000000 ≤ i ∧ i ≤ 1000000 ∧ -1000000 ≤ j ∧ j ≤ 1000000) (mkL c (rng i (j - i).toNat) M)
  | _ => none
/-- the built-in class that a value has -/
def D.tyN : D → String
  | .non => "NoneType"
  | .bl _ => "bool"
  | .int _ => "int"
  | .str _ => "str"
  | .lst _ => "list"
  | .tup _ => "tuple"
  | .ty _ => "type"
def subTy (a b : String) : Bool := a == b || (a == "bool" && b == "int")
/-- isinstance(x, T), T a built-in class -/
def oIsi (T : String) : OA := fun vs M => match vs with
  | [v, .d (.ty n)] => if n = T then match dv M v with
    | some (.ty _) => none
    | some x => some (.d (.bl (subTy x.tyN T)), M)
    | none => none
    else none
  | _ => none
/-- sorted(xs) of ints -/
def oSorted (c : Bool) : OA := fun vs M => match vs with
  | [v] => match lv M v with
    | some xs => match intsD xs with
      | some ns => mkL c ((ns.mergeSort (fun a b => decide (a ≤ b))).map D.int) M
      | none => none
    | none => none
  | _ => none
/-- xs[::-1] -/
def oRev (c : Bool) : O1 := fun v M => match lv M v with
  | some xs => mkL c xs.reverse M
  | none => none

/-! ### methods of lists -/
def setC (M : DSt) (n : Nat) (xs : List D) : DSt := M.set n (some xs)
def mAppend : Dv → List Dv → DSt → Option (Dv × DSt) := fun v as M => match v, as with
  | .c n, [.d x] => match (M[n]?).join with
    | some xs => grd (xs.length < big) (some (.d .non, setC M n (xs ++ [x])))
    | none => none
  | _, _ => none
def mPop : Dv → List Dv → DSt → Option (Dv × DSt) := fun v as M => match v, as with
  | .c n, [] => match (M[n]?).join with
    | some xs => match xs[xs.length - 1]? with
      | some y => some (.d y, setC M n xs.dropLast)
      | none => none
    | none => none
  | .c n, [.d (.int i)] => match (M[n]?).join with
    | some xs => match ixD xs.length i with
      | some k => match xs[k]? with
        | some y => grd (-(2 ^ 62) ≤ i ∧ i < 2 ^ 62) (some (.d y, setC M n (xs.eraseIdx k)))
        | none => none
      | none => none
    | none => none
  | _, _ => none
def mClear : Dv → List Dv → DSt → Option (Dv × DSt) := fun v as M => match v, as with
  | .c n, [] => match (M[n]?).join with
    | some _ => some (.d .non, setC M n [])
    | none => none
  | _, _ => none
def mInsert : Dv → List Dv → DSt → Option (Dv × DSt) := fun v as M => match v, as with
  | .c n, [.d (.int i), .d y] => match (M[n]?).join with
    | some xs => grd (xs.length < big ∧ 0 ≤ i ∧ i < 2 ^ 62) (some (.d .non, setC M n (xs.take i.toNat ++ [y] ++ xs.drop i.toNat)))
    | none => none
  | _, _ => none
def eM (f : Dv → List Dv → DSt → Option (Dv × DSt)) (a : DE) (as : DA) : DE := fun ρ M => match a ρ M with
  | some (x, M1) => match as ρ M1 with
    | some (xs, M2) => f x xs M2
    | none => none
  | none => none

/-! ### targets -/
inductive Tgt where
  | name (i : Nat) | tup (ts : List Tgt)
mutual
def Tgt.put : Tgt → Dv → DEnv → Option DEnv
  | .name i, v, ρ => some (ρ.set i (some v))
  | .tup ts, .d (.tup xs), ρ => if xs.length = ts.length then Tgt.puts ts xs ρ else none
  | .tup ts, .d (.lst xs), ρ => if xs.length = ts.length then Tgt.puts ts xs ρ else none
  | .tup _, _, _ => none
def Tgt.puts : List Tgt → List D → DEnv → Option DEnv
  | [], [], ρ => some ρ
  | t :: ts, x :: xs, ρ => match t.put (.d x) ρ with
    | some ρ1 => Tgt.puts ts xs ρ1
    | none => none
  | _, _, _ => none
end
mutual
def Tgt.slots : Tgt → List Nat
  | .name i => [i]
  | .tup ts => Tgt.slotss ts
def Tgt.slotss : List Tgt → List Nat
  | [] => []
  | t :: ts => t.slots ++ Tgt.slotss ts
end
/-- slots forgotten -/
def wipeD (ρ : DEnv) : List Nat → DEnv
  | [] => ρ
  | v :: vs => (wipeD ρ vs).set v none

/-! ### what is walked -/
/-- the walked cells stand as they stood -/
def stand (src : List Nat) (M M' : DSt) : Prop := ∀ n ∈ src, M'[n]? = M[n]?
def cellsOf : Dv → List Nat
  | .c n => [n]
  | _ => []
def iL (a : DE) : DI := fun ρ M => match a ρ M with
  | some (x, M1) => match lv M1 x with
    | some xs => some (xs, cellsOf x, M1)
    | none => none
  | none => none
def iT (a : DE) : DI := fun ρ M => match a ρ M with
  | some (.d (.tup xs), M1) => some (xs, [], M1)
  | _ => none
/-- a list or a tuple -/
def iS (a : DE) : DI := fun ρ M => match a ρ M with
  | some (.d (.tup xs), M1) => some (xs, [], M1)
  | some (x, M1) => match lv M1 x with
    | some xs => some (xs, cellsOf x, M1)
    | none => none
  | none => none
def iR1 (a : DA) : DI := fun ρ M => match a ρ M with
  | some ([.d (.int j)], M1) => grd (-(2 ^ 62) ≤ j ∧ j < 2 ^ 62) (some (rng 0 j.toNat, [], M1))
  | _ => none
def iR2 (a : DA) : DI := fun ρ M => match a ρ M with
  | some ([.d (.int i), .d (.int j)], M1) => grd (-(2 ^ 62) ≤ i ∧ i < 2 ^ 62 ∧ -(2 ^ 62) ≤ j ∧ j < 2 ^ 62) (some (rng i (j - i).toNat, [], M1))
  | _ => none
def enumD (k : Nat) : List D → List D
  | [] => []
  | x :: xs => .tup [.int (k : Int), x] :: enumD (k + 1) xs
def iEn (a : DA) : DI := fun ρ M => match a ρ M with
  | some ([x], M1) => match lv M1 x with
    | some xs => some (enumD 0 xs, cellsOf x, M1)
    | none => none
  | _ => none
def zipD : List D → List D → List D
  | x :: xs, y :: ys => .tup [x, y] :: zipD xs ys
  | _, _ => []
def iZ (a : DA) : DI := fun ρ M => match a ρ M with
  | some ([x, y], M1) => match lv M1 x, lv M1 y with
    | some xs, some ys => some (zipD xs ys, cellsOf x ++ cellsOf y, M1)
    | _, _ => none
  | _ => none

/-! ### comprehensions -/
/-- chk: the walked cells stand as they stood, ahead of every turn and at the end -/
def compL {α : Type} (chk : DSt → Prop) (step : α → DSt → Option (Option D × DSt)) : List α → DSt → Option (List D × DSt)
  | [], M => grd (chk M) (some ([], M))
  | x :: xs, M => grd (chk M) (match step x M with
    | some (o, M1) => match compL chk step xs M1 with
      | some (ys, M2) => match o with
        | some y => some (y :: ys, M2)
        | none => some (ys, M2)
      | none => none
    | none => none)
def compStep (tg : Tgt) (t : DT) (el : DE) (ρ : DEnv) (x : D) (M : DSt) : Option (Option D × DSt) :=
  match tg.put (.d x) ρ with
    | some ρ1 => match t ρ1 M with
      | some (true, M1) => match el ρ1 M1 with
        | some (.d y, M2) => some (some y, M2)
        | _ => none
      | some (false, M1) => some (none, M1)
      | none => none
    | none => none
def eComp (c : Bool) (it : DI) (tg : Tgt) (t : DT) (el : DE) (own : List Nat) : DE := fun ρ M => match it ρ M with
  | some (xs, src, M1) => grd (xs.length ≤ big) (match compL (stand src M1) (compStep tg t el (wipeD ρ own)) xs M1 with
    | some (ys, M2) => mkL c ys M2
    | none => none)
  | none => none

/-! ### statements -/
def dPass : DS := fun ρ M => some (.nx ρ M)
def dSeq (s t : DS) : DS := fun ρ M => match s ρ M with
  | some (.nx ρ1 M1) => t ρ1 M1
  | o => o
def dAsg (tg : Tgt) (a : DE) : DS := fun ρ M => match a ρ M with
  | some (v, M1) => match tg.put v ρ with
    | some ρ1 => some (.nx ρ1 M1)
    | none => none
  | none => none
/-- a, b = e, f -/
def dPar (i j : Nat) (a b : DE) : DS := fun ρ M => match a ρ M with
  | some (x, M1) => match b ρ M1 with
    | some (y, M2) => some (.nx ((ρ.set i (some x)).set j (some y)) M2)
    | none => none
  | none => none
def dAug (i : Nat) (f : O2) (a : DE) : DS := fun ρ M => match ρ[i]? with
  | some (some x) => match a ρ M with
    | some (y, M1) => match f x y M1 with
      | some (z, M2) => some (.nx (ρ.set i (some z)) M2)
      | none => none
    | none => none
  | _ => none
/-- o[i] = e -/
def dPut (o i e : DE) : DS := fun ρ M => match e ρ M with
  | some (.d x, M1) => match o ρ M1 with
    | some (.c n, M2) => match i ρ M2 with
      | some (.d (.int k), M3) => match (M3[n]?).join with
        | some xs => match ixD xs.length k with
          | some j => some (.nx ρ (setC M3 n (xs.set j x)))
          | none => none
        | none => none
      | _ => none
    | _ => none
  | _ => none
def dExpr (a : DE) : DS := fun ρ M => match a ρ M with
  | some (_, M1) => some (.nx ρ M1)
  | none => none
def dRet (a : DE) : DS := fun ρ M => match a ρ M with
  | some (v, M1) => some (.rt v M1)
  | none => none
def dRetN : DS := fun _ M => some (.rt (.d .non) M)
def dIf (t : DT) (a b : DS) : DS := fun ρ M => match t ρ M with
  | some (true, M1) => a ρ M1
  | some (false, M1) => b ρ M1
  | none => none
def dBreak : DS := fun ρ M => some (.bk ρ M)
def dCont : DS := fun ρ M => some (.ct ρ M)
def dNever : DS := fun _ _ => none
/-- slots forgotten behind a statement -/
def wipeO (vs : List Nat) : Out → Out
  | .nx ρ M => .nx (wipeD ρ vs) M
  | .bk ρ M => .bk (wipeD ρ vs) M
  | .ct ρ M => .ct (wipeD ρ vs) M
  | .rt v M => .rt v M
def dWipe (vs : List Nat) (s : DS) : DS := fun ρ M => match s ρ M with
  | some o => some (wipeO vs o)
  | none => none
/-- slots forgotten ahead of a block -/
def dPre (vs : List Nat) (s : DS) : DS := fun ρ M => s (wipeD ρ vs) M
def forL {α : Type} (chk : DSt → Prop) (step : α → DEnv → DSt → Option Out) : List α → DEnv → DSt → Option Out
  | [], ρ, M => grd (chk M) (some (.nx ρ M))
  | x :: xs, ρ, M => grd (chk M) (match step x ρ M with
    | some (.nx ρ1 M1) => forL chk step xs ρ1 M1
    | some (.ct ρ1 M1) => forL chk step xs ρ1 M1
    | some (.bk ρ1 M1) => some (.nx ρ1 M1)
    | some (.rt v M1) => some (.rt v M1)
    | none => none)
def forStep (tg : Tgt) (s : DS) (x : D) (ρ : DEnv) (M : DSt) : Option Out := match tg.put (.d x) ρ with
  | some ρ1 => s ρ1 M
  | none => none
def dFor (it : DI) (tg : Tgt) (s : DS) : DS := fun ρ M => match it ρ M with
  | some (xs, src, M1) => forL (stand src M1) (forStep tg s) xs ρ M1
  | none => none
def whileL (t : DT) (s : DS) : Nat → DEnv → DSt → Option Out
  | 0, _, _ => none
  | n + 1, ρ, M => match t ρ M with
    | some (true, M1) => match s ρ M1 with
      | some (.nx ρ1 M2) => whileL t s n ρ1 M2
      | some (.ct ρ1 M2) => whileL t s n ρ1 M2
      | some (.bk ρ1 M2) => some (.nx ρ1 M2)
      | some (.rt v M2) => some (.rt v M2)
      | none => none
    | some (false, M1) => some (.nx ρ M1)
    | none => none
open Classical in
def dWhile (t : DT) (s : DS) : DS := fun ρ M => if h : ∃ o n, whileL t s n ρ M = some o then some h.choose else none
theorem whileL_mono {t : DT} {s : DS} : ∀ {n : Nat} {ρ : DEnv} {M : DSt} {o : Out}, whileL t s n ρ M = some o → whileL t s (n + 1) ρ M = some o
  | 0, _, _, _, h => by cases h
  | n + 1, ρ, M, o, h => by
    unfold whileL at h ⊢
    cases e : t ρ M with
    | none => simp only [e] at h; cases h
    | some p =>
      obtain ⟨b, M1⟩ := p
      simp only [e] at h ⊢
      cases b with
      | false => exact h
      | true =>
        simp only at h ⊢
        cases e2 : s ρ M1 with
        | none => simp only [e2] at h; cases h
        | some q =>
          simp only [e2] at h ⊢
          cases q with
          | nx ρ1 M2 => exact whileL_mono h
          | ct ρ1 M2 => exact whileL_mono h
          | bk ρ1 M2 => exact h
          | rt v M2 => exact h
theorem whileL_le {t : DT} {s : DS} {n m : Nat} {ρ : DEnv} {M : DSt} {o : Out} (h : whileL t s n ρ M = some o) (l : n ≤ m) : whileL t s m ρ M = some o := by
  induction l with
  | refl => exact h
  | step _ ih => exact whileL_mono ih
theorem dWhile_of {t : DT} {s : DS} {n : Nat} {ρ : DEnv} {M : DSt} {o : Out} (h : whileL t s n ρ M = some o) : dWhile t s ρ M = some o := by
  have hx : ∃ o n, whileL t s n ρ M = some o := ⟨o, n, h⟩
  unfold dWhile
  rw [dif_pos hx]
  obtain ⟨m, hm⟩ := hx.choose_spec
  have a := whileL_le hm (Nat.le_max_left m n)
  have b := whileL_le h (Nat.le_max_right m n)
  rw [a] at b
  exact b
theorem dWhile_some {t : DT} {s : DS} {ρ : DEnv} {M : DSt} {o : Out} (h : dWhile t s ρ M = some o) : ∃ n, whileL t s n ρ M = some o := by
  unfold dWhile at h
  split at h
  · rename_i hx
    cases h
    exact hx.choose_spec
  · cases h
/-- one turn -/
theorem dWhile_eq (t : DT) (s : DS) (ρ : DEnv) (M : DSt) : dWhile t s ρ M = match t ρ M with
    | some (true, M1) => match s ρ M1 with
      | some (.nx ρ1 M2) => dWhile t s ρ1 M2
      | some (.ct ρ1 M2) => dWhile t s ρ1 M2
      | some (.bk ρ1 M2) => some (.nx ρ1 M2)
      | some (.rt v M2) => some (.rt v M2)
      | none => none
    | some (false, M1) => some (.nx ρ M1)
    | none => none := by
  have key : ∀ o, dWhile t s ρ M = some o ↔ (match t ρ M with
    | some (true, M1) => match s ρ M1 with
      | some (.nx ρ1 M2) => dWhile t s ρ1 M2
      | some (.ct ρ1 M2) => dWhile t s ρ1 M2
      | some (.bk ρ1 M2) => some (.nx ρ1 M2)
      | some (.rt v M2) => some (.rt v M2)
      | none => none
    | some (false, M1) => some (.nx ρ M1)
    | none => none) = some o := by
    intro o
    constructor
    · intro h
      obtain ⟨n, hn⟩ := dWhile_some h
      cases n with
      | zero => cases hn
      | succ n =>
        unfold whileL at hn
        cases e : t ρ M with
        | none => simp only [e] at hn; cases hn
        | some p =>
          obtain ⟨b, M1⟩ := p
          simp only [e] at hn
          cases b with
          | false => exact hn
          | true =>
            simp only at hn ⊢
            cases e2 : s ρ M1 with
            | none => simp only [e2] at hn; cases hn
            | some q =>
              simp only [e2] at hn
              cases q with
              | nx ρ1 M2 => exact dWhile_of hn
              | ct ρ1 M2 => exact dWhile_of hn
              | bk ρ1 M2 => exact hn
              | rt v M2 => exact hn
    · intro h
      cases e : t ρ M with
      | none => simp only [e] at h; cases h
      | some p =>
        obtain ⟨b, M1⟩ := p
        simp only [e] at h
        cases b with
        | false => exact dWhile_of (n := 1) (by unfold whileL; simp only [e]; exact h)
        | true =>
          simp only at h
          cases e2 : s ρ M1 with
          | none => simp only [e2] at h; cases h
          | some q =>
            simp only [e2] at h
            cases q with
            | nx ρ1 M2 =>
              obtain ⟨n, hn⟩ := dWhile_some h
              exact dWhile_of (n := n + 1) (by unfold whileL; simp only [e, e2]; exact hn)
            | ct ρ1 M2 =>
              obtain ⟨n, hn⟩ := dWhile_some h
              exact dWhile_of (n := n + 1) (by unfold whileL; simp only [e, e2]; exact hn)
            | bk ρ1 M2 => exact dWhile_of (n := 1) (by unfold whileL; simp only [e, e2]; exact h)
            | rt v M2 => exact dWhile_of (n := 1) (by unfold whileL; simp only [e, e2]; exact h)
  apply Option.ext
  exact key

/-! ### defs -/
def startD (n : Nat) (as : List Dv) : DEnv := as.map some ++ List.replicate (n - as.length) none
/-- behind a def: its own cells are gone, but one that it hands back -/
def fin (b : Nat) (v : Dv) (M : DSt) : Option (Dv × DSt) := match v with
  | .c n => if n < b then some (.c n, M.take b) else match (M[n]?).join with
    | some xs => some (.c b, M.take b ++ [some xs])
    | none => none
  | v => some (v, M.take b)
def fnD (n : Nat) (s : DS) : DF := fun as M => match s (startD n as) M with
  | some (.rt v M1) => fin M.length v M1
  | some (.nx _ M1) => fin M.length (.d .non) M1
  | _ => none
def eCall (f : DF) (as : DA) : DE := eA f as
end
end Rw
end PRwSem
section PRwSim
set_option Elab.async false
set_option linter.all false
set_option maxRecDepth 100000
set_option maxHeartbeats 2000000
/-! RwSim: the pure reading is kept by the layer's readings. -/
namespace Rw
open PySem L2
open Evl (Ex)

/-! ### values and data -/
mutual
inductive Rv (K : PySem.W.Frag) (G : Hp) : V → D → Prop
  | non : Rv K G .non .non
  | bl (b : Bool) : Rv K G (.bl b) (.bl b)
  | int (i : Int) : Rv K G (.int i) (.int i)
  | str (x : Str) : Rv K G (.str x) (.str x)
  | ty (n : String) : Rv K G (.ty n) (.ty n)
  | lst {a : Addr} {xs : List V} {ds : List D} : G a = some (.lst xs) → Rvs K G xs ds → Rv K G (.ref a) (.lst ds)
  | tup {a : Addr} {xs : List V} {ds : List D} : SqT K G a xs → Rvs K G xs ds → Rv K G (.ref a) (.tup ds)
inductive Rvs (K : PySem.W.Frag) (G : Hp) : List V → List D → Prop
  | nil : Rvs K G [] []
  | cons {v : V} {vs : List V} {d : D} {ds : List D} : Rv K G v d → Rvs K G vs ds → Rvs K G (v :: vs) (d :: ds)
end
section
variable {K : PySem.W.Frag} {G G' : Hp}
theorem Rv.mono (e : Ex G G') {v : V} {d : D} (h : Rv K G v d) : Rv K G' v d :=
  Rv.rec (motive_1 := fun v d _ => Rv K G' v d) (motive_2 := fun vs ds _ => Rvs K G' vs ds) .non .bl .int .str .ty (fun h _ ih => .lst (e _ _ h) ih) (fun h _ ih => .tup (Evl.ex_t e h) ih) .nil (fun _ _ a b => .cons a b) h
theorem Rvs.mono (e : Ex G G') : ∀ {vs : List V} {ds : List D}, Rvs K G vs ds → Rvs K G' vs ds
  | _, _, .nil => .nil
  | _, _, .cons h r => .cons (h.mono e) (r.mono e)
theorem Rvs.length : ∀ {vs : List V} {ds : List D}, Rvs K G vs ds → vs.length = ds.length
  | _, _, .nil => rfl
  | _, _, .cons _ r => by simp [r.length]
theorem Rvs.get : ∀ {vs : List V} {ds : List D} {i : Nat} {d : D}, Rvs K G vs ds → ds[i]? = some d → ∃ v, vs[i]? = some v ∧ Rv K G v d
  | _, _, _, _, .nil, e => by simp at e
  | _, _, 0, _, .cons h _, e => by simp at e; subst e; exact ⟨_, rfl, h⟩
  | _, _, i + 1, d, .cons _ r, e => by
    obtain ⟨u, h1, h2⟩ := Rvs.get (i := i) (d := d) r (by simpa using e)
    exact ⟨u, by simpa using h1, h2⟩
theorem Rvs.get' : ∀ {vs : List V} {ds : List D} {i : Nat} {v : V}, Rvs K G vs ds → vs[i]? = some v → ∃ d, ds[i]? = some d ∧ Rv K G v d
  | _, _, _, _, .nil, e => by simp at e
  | _, _, 0, _, .cons h _, e => by simp at e; subst e; exact ⟨_, rfl, h⟩
  | _, _, i + 1, v, .cons _ r, e => by
    obtain ⟨u, h1, h2⟩ := Rvs.get' (i := i) (v := v) r (by simpa using e)
    exact ⟨u, by simpa using h1, h2⟩
theorem Rvs.append : ∀ {xs ys : List V} {ds es : List D}, Rvs K G xs ds → Rvs K G ys es → Rvs K G (xs ++ ys) (ds ++ es)
  | _, _, _, _, .nil, s => s
  | _, _, _, _, .cons h r, s => .cons h (r.append s)
theorem Rvs.take : ∀ {xs : List V} {ds : List D} (n : Nat), Rvs K G xs ds → Rvs K G (xs.take n) (ds.take n)
  | _, _, 0, _ => .nil
  | _, _, _ + 1, .nil => .nil
  | _, _, n + 1, .cons h r => .cons h (r.take n)
theorem Rvs.drop : ∀ {xs : List V} {ds : List D} (n : Nat), Rvs K G xs ds → Rvs K G (xs.drop n) (ds.drop n)
  | _, _, 0, r => r
  | _, _, _ + 1, .nil => .nil
  | _, _, n + 1, .cons _ r => r.drop n
theorem Rvs.set {v : V} {d : D} (h : Rv K G v d) : ∀ {xs : List V} {ds : List D} (i : Nat), Rvs K G xs ds → Rvs K G (xs.set i v) (ds.set i d)
  | _, _, _, .nil => .nil
  | _, _, 0, .cons _ r => .cons h r
  | _, _, i + 1, .cons q r => .cons q (Rvs.set h i r)
theorem Rvs.eraseIdx : ∀ {xs : List V} {ds : List D} (i : Nat), Rvs K G xs ds → Rvs K G (xs.eraseIdx i) (ds.eraseIdx i)
  | _, _, _, .nil => .nil
  | _, _, 0, .cons _ r => r
  | _, _, i + 1, .cons q r => .cons q (Rvs.eraseIdx i r)
theorem Rvs.dropLast {xs : List V} {ds : List D} (h : Rvs K G xs ds) : Rvs K G xs.dropLast ds.dropLast := by
  rw [List.dropLast_eq_take, List.dropLast_eq_take, h.length]
  exact h.take _
theorem Rvs.rep {xs : List V} {ds : List D} (h : Rvs K G xs ds) : ∀ k : Nat, Rvs K G (List.replicate k xs).flatten (List.replicate k ds).flatten
  | 0 => .nil
  | k + 1 => by
    rw [List.replicate_succ, List.replicate_succ, List.flatten_cons, List.flatten_cons]
    exact h.append (h.rep k)
theorem Rvs.ints_of : ∀ {xs : List V} {ds : List D} {ns : List Int}, Rvs K G xs ds → intsD ds = some ns → xs = ns.map V.int
  | _, _, _, .nil, e => by simp [intsD] at e; subst e; rfl
  | _, _, ns, .cons h r, e => by
    rename_i v vs d ds
    cases d <;> simp only [intsD] at e <;> try (cases e)
    rename_i i
    cases e2 : intsD ds with
    | none => rw [e2] at e; cases e
    | some ms =>
      rw [e2] at e
      cases e
      cases h
      rw [Rvs.ints_of r e2]
      rfl
theorem Rvs.bls_of : ∀ {xs : List V} {ds : List D} {ns : List Bool}, Rvs K G xs ds → blsD ds = some ns → xs = ns.map V.bl
  | _, _, _, .nil, e => by simp [blsD] at e; subst e; rfl
  | _, _, ns, .cons h r, e => by
    rename_i v vs d ds
    cases d <;> simp only [blsD] at e <;> try (cases e)
    rename_i i
    cases e2 : blsD ds with
    | none => rw [e2] at e; cases e
    | some ms =>
      rw [e2] at e
      cases e
      cases h
      rw [Rvs.bls_of r e2]
      rfl
theorem Rvs.of_ints : ∀ ns : List Int, Rvs K G (ns.map V.int) (ns.map D.int)
  | [] => .nil
  | n :: r => .cons (.int n) (Rvs.of_ints r)
end

/-! ### the state -/
/-- κ: where the cells stand; G: what never changes any more; F: what is not this code's to change -/
structure Sm (K : PySem.W.Frag) (F : Hp) (κ : List Addr) (G : Hp) (M : DSt) (H : Hp) : Prop where
  ex : Ex G H
  fx : Ex F H
  dj : ∀ a o, F a = some o → G a = none
  fk : ∀ a ∈ κ, F a = none
  len : κ.length = M.length
  nd : κ.Nodup
  th : ∀ a ∈ κ, ∃ xs, H a = some (.lst xs)
  cel : ∀ (n : Nat) (ds : List D), M[n]? = some (some ds) → ∃ a xs, κ[n]? = some a ∧ G a = none ∧ H a = some (.lst xs) ∧ Rvs K G xs ds
def Rx (K : PySem.W.Frag) (κ : List Addr) (G : Hp) (u : V) : Dv → Prop
  | .d x => Rv K G u x
  | .c n => ∃ a, u = .ref a ∧ κ[n]? = some a
  | .r ds => ∃ a xs, u = .ref a ∧ SqL K G a xs ∧ Rvs K G xs ds
inductive Rxs (K : PySem.W.Frag) (κ : List Addr) (G : Hp) : List V → List Dv → Prop
  | nil : Rxs K κ G [] []
  | cons {v : V} {vs : List V} {d : Dv} {ds : List Dv} : Rx K κ G v d → Rxs K κ G vs ds → Rxs K κ G (v :: vs) (d :: ds)
structure Se (K : PySem.W.Frag) (κ : List Addr) (G : Hp) (σ : L2.St) (ρ : DEnv) : Prop where
  len : σ.length = ρ.length
  at_ : ∀ (i : Nat) (x : Dv), ρ[i]? = some (some x) → ∃ v, σ[i]? = some (some v) ∧ Rx K κ G v x
structure Le (κ : List Addr) (G : Hp) (κ' : List Addr) (G' : Hp) : Prop where
  pre : κ <+: κ'
  ex : Ex G G'
theorem Le.refl (κ : List Addr) (G : Hp) : Le κ G κ G := ⟨List.prefix_refl _, Ex.refl _⟩
theorem Le.trans {κ κ1 κ2 : List Addr} {G G1 G2 : Hp} (a : Le κ G κ1 G1) (b : Le κ1 G1 κ2 G2) : Le κ G κ2 G2 := ⟨a.pre.trans b.pre, a.ex.trans b.ex⟩
section
variable {K : PySem.W.Frag} {F : Hp} {κ κ' : List Addr} {G G' : Hp} {M M' : DSt} {H H' : Hp}
theorem Le.at_ {n : Nat} {a : Addr} (l : Le κ G κ' G') (h : κ[n]? = some a) : κ'[n]? = some a := by
  obtain ⟨t, rfl⟩ := l.pre
  have := (List.getElem?_eq_some_iff.mp h).1
  rw [List.getElem?_append_left this]
  exact h
theorem Rx.mono (l : Le κ G κ' G') : ∀ {u : V} {x : Dv}, Rx K κ G u x → Rx K κ' G' u x
  | _, .d _, h => Rv.mono l.ex h
  | _, .c _, ⟨a, e, h⟩ => ⟨a, e, l.at_ h⟩
  | _, .r _, ⟨a, xs, e, h, r⟩ => ⟨a, xs, e, Evl.ex_l l.ex h, r.mono l.ex⟩
theorem Rxs.mono (l : Le κ G κ' G') : ∀ {us : List V} {xs : List Dv}, Rxs K κ G us xs → Rxs K κ' G' us xs
  | _, _, .nil => .nil
  | _, _, .cons h r => .cons (h.mono l) (r.mono l)
theorem Rxs.length : ∀ {us : List V} {xs : List Dv}, Rxs K κ G us xs → us.length = xs.length
  | _, _, .nil => rfl
  | _, _, .cons _ r => by simp [r.length]
theorem Se.mono {σ : L2.St} {ρ : DEnv} (l : Le κ G κ' G') (h : Se K κ G σ ρ) : Se K κ' G' σ ρ := ⟨h.len, fun i x e => let ⟨v, a, b⟩ := h.at_ i x e; ⟨v, a, b.mono l⟩⟩
theorem Se.set {σ : L2.St} {ρ : DEnv} {u : V} {x : Dv} (h : Se K κ G σ ρ) (r : Rx K κ G u x) (i : Nat) : Se K κ G (σ.set i (some u)) (ρ.set i (some x)) := by
  refine ⟨by simp [h.len], fun j y e => ?_⟩
  by_cases hj : i = j
  · subst hj
    by_cases hi : i < ρ.length
    · rw [List.getElem?_set_self hi] at e
      cases e
      exact ⟨u, List.getElem?_set_self (by rw [h.len]; exact hi), r⟩
    · rw [List.getElem?_eq_none (by simpa using hi)] at e
      cases e
  · rw [List.getElem?_set_ne hj] at e
    obtain ⟨v, a, b⟩ := h.at_ j y e
    exact ⟨v, by rw [List.getElem?_set_ne hj]; exact a, b⟩
theorem Se.unset {σ : L2.St} {ρ : DEnv} (h : Se K κ G σ ρ) (i : Nat) : Se K κ G σ (ρ.set i none) := by
  refine ⟨by simp [h.len], fun j y e => ?_⟩
  by_cases hj : i = j
  · subst hj
    by_cases hi : i < ρ.length
    · rw [List.getElem?_set_self hi] at e
      cases e
    · rw [List.getElem?_eq_none (by simpa using hi)] at e
      cases e
  · rw [List.getElem?_set_ne hj] at e
    exact h.at_ j y e
theorem Se.wipe {σ : L2.St} {ρ : DEnv} (h : Se K κ G σ ρ) : ∀ vs : List Nat, Se K κ G σ (wipeD ρ vs)
  | [] => h
  | v :: vs => (h.wipe vs).unset v
/-- both sides forgotten -/
theorem Se.wipe2 {σ : L2.St} {ρ : DEnv} (h : Se K κ G σ ρ) : ∀ vs : List Nat, Se K κ G (L2.wipe σ vs) (wipeD ρ vs)
  | [] => h
  | v :: vs => by
    have h1 := h.wipe2 vs
    refine ⟨by simp [L2.wipe, wipeD, h1.len], fun j y e => ?_⟩
    unfold wipeD at e
    by_cases hj : v = j
    · subst hj
      by_cases hi : v < (wipeD ρ vs).length
      · rw [List.getElem?_set_self hi] at e
        cases e
      · rw [List.getElem?_eq_none (by simpa using hi)] at e
        cases e
    · rw [List.getElem?_set_ne hj] at e
      obtain ⟨v', a, b⟩ := h1.at_ j y e
      exact ⟨v', by unfold L2.wipe; rw [List.getElem?_set_ne hj]; exact a, b⟩
/-- the list that a value is -/
theorem cell_at (S : Sm K F κ G M H) {n : Nat} {ds : List D} {a : Addr} (h : (M[n]?).join = some ds) (ha : κ[n]? = some a) : ∃ xs, G a = none ∧ F a = none ∧ H a = some (.lst xs) ∧ Rvs K G xs ds := by
  cases e : M[n]? with
  | none => rw [e] at h; cases h
  | some o =>
    rw [e] at h
    cases o with
    | none => cases h
    | some ds' =>
      cases h
      obtain ⟨a', xs, e1, e2, e4, e5⟩ := S.cel n _ e
      rw [ha] at e1
      cases e1
      exact ⟨xs, e2, S.fk a (List.mem_of_getElem? ha), e4, e5⟩
theorem lw_at (S : Sm K F κ G M H) {u : V} {x : Dv} {ds : List D} (r : Rx K κ G u x) (h : lw M x = some ds) : ∃ a xs, u = .ref a ∧ H a = some (.lst xs) ∧ Rvs K G xs ds := by
  cases x with
  | d y =>
    cases y <;> simp only [lw] at h <;> try (cases h)
    cases r with
    | lst e1 e2 => exact ⟨_, _, rfl, S.ex _ _ e1, e2⟩
  | c n =>
    obtain ⟨a, rfl, ha⟩ := r
    obtain ⟨xs, _, _, e3, e4⟩ := cell_at S h ha
    exact ⟨a, xs, rfl, e3, e4⟩
  | r ys => cases h
theorem lv_at (S : Sm K F κ G M H) {u : V} {x : Dv} {ds : List D} (r : Rx K κ G u x) (h : lv M x = some ds) : ∃ a xs, u = .ref a ∧ SqL K H a xs ∧ Rvs K G xs ds := by
  cases x with
  | d y =>
    cases y <;> simp only [lv] at h <;> try (cases h)
    cases r with
    | lst e1 e2 => exact ⟨_, _, rfl, .of (S.ex _ _ e1), e2⟩
  | c n =>
    obtain ⟨a, rfl, ha⟩ := r
    obtain ⟨xs, _, _, e3, e4⟩ := cell_at S h ha
    exact ⟨a, xs, rfl, .of e3, e4⟩
  | r ys =>
    cases h
    obtain ⟨a, xs, e, q, p⟩ := r
    exact ⟨a, xs, e, Evl.ex_l S.ex q, p⟩
theorem sv_at (S : Sm K F κ G M H) {u : V} {x : Dv} {ds : List D} (r : Rx K κ G u x) (h : sv M x = some ds) : ∃ a xs, u = .ref a ∧ (SqL K H a xs ∨ SqT K H a xs) ∧ Rvs K G xs ds := by
  have other : lv M x = some ds → ∃ a xs, u = .ref a ∧ (SqL K H a xs ∨ SqT K H a xs) ∧ Rvs K G xs ds := fun h => by
    obtain ⟨a, xs, e, q, p⟩ := lv_at S r h
    exact ⟨a, xs, e, .inl q, p⟩
  cases x with
  | d y =>
    cases y with
    | tup zs =>
      simp only [sv] at h
      cases h
      cases r with
      | tup e1 e2 => exact ⟨_, _, rfl, .inr (Evl.ex_t S.ex e1), e2⟩
    | _ => exact other h
  | c n => exact other h
  | r ys => exact other h
/-! ### the store's steps -/
theorem Sm.fresh (S : Sm K F κ G M H) {p : Addr} (hp : H p = none) : G p = none ∧ F p = none ∧ p ∉ κ :=
  ⟨Evl.fresh_back S.ex hp, Evl.fresh_back S.fx hp, fun h => by obtain ⟨o, e⟩ := S.th p h; rw [hp] at e; cases e⟩
theorem upd_some {H : Hp} {p : Addr} {o : HO} {a : Addr} {u : HO} (h : H p = none) (e : H a = some u) : upd H p o a = some u := by
  rw [upd_ne (ne_of_none e h)]
  exact e
theorem Sm.newG (S : Sm K F κ G M H) {p : Addr} (o : HO) (hp : H p = none) : Sm K F κ (upd G p o) M (upd H p o) := by
  obtain ⟨g, f, _⟩ := S.fresh hp
  refine ⟨fun a u e => ?_, fun a u e => upd_some hp (S.fx a u e), fun a u e => by rw [upd_ne (ne_of_none e f)]; exact S.dj a u e, S.fk, S.len, S.nd, fun a h => let ⟨u, e⟩ := S.th a h; ⟨u, upd_some hp e⟩, fun n ds e => ?_⟩
  · by_cases ha : a = p
    · subst ha
      rw [upd_same] at e ⊢
      exact e
    · rw [upd_ne ha] at e ⊢
      exact S.ex a u e
  · obtain ⟨a, xs, e1, e2, e4, e5⟩ := S.cel n ds e
    refine ⟨a, xs, e1, ?_, upd_some hp e4, e5.mono (Ex.new g)⟩
    rw [upd_ne (ne_of_none e4 hp)]
    exact e2
theorem Le.newG {p : Addr} {o : HO} (h : G p = none) : Le κ G κ (upd G p o) := ⟨List.prefix_refl _, Ex.new h⟩
theorem Sm.newC (S : Sm K F κ G M H) {p : Addr} {xs : List V} {ds : List D} (hp : H p = none) (r : Rvs K G xs ds) : Sm K F (κ ++ [p]) G (M ++ [some ds]) (upd H p (.lst xs)) := by
  obtain ⟨g, f, nk⟩ := S.fresh hp
  refine ⟨fun a u e => upd_some hp (S.ex a u e), fun a u e => upd_some hp (S.fx a u e), S.dj, fun a h => ?_, by simp [S.len], ?_, fun a h => ?_, fun n es e => ?_⟩
  · rcases List.mem_append.mp h with h | h
    · exact S.fk a h
    · simp at h
      subst h
      exact f
  · rw [List.nodup_append]
    exact ⟨S.nd, by simp, fun a ha b hb e => by simp at hb; subst hb; subst e; exact nk ha⟩
  · rcases List.mem_append.mp h with h | h
    · obtain ⟨u, e⟩ := S.th a h
      exact ⟨u, upd_some hp e⟩
    · simp at h
      subst h
      exact ⟨_, upd_same⟩
  · by_cases hn : n < M.length
    · rw [List.getElem?_append_left hn] at e
      obtain ⟨a, ys, e1, e2, e4, e5⟩ := S.cel n es e
      exact ⟨a, ys, by rw [List.getElem?_append_left (by rw [S.len]; exact hn)]; exact e1, e2, upd_some hp e4, e5⟩
    · rw [List.getElem?_append_right (by omega)] at e
      have hn2 : n - M.length = 0 := by
        cases q : n - M.length with
        | zero => rfl
        | succ k => rw [q] at e; simp at e
      rw [hn2] at e
      simp at e
      subst e
      refine ⟨p, xs, ?_, g, upd_same, r⟩
      rw [List.getElem?_append_right (by rw [S.len]; omega), S.len, hn2]
      rfl
theorem Le.newC {p : Addr} : Le κ G (κ ++ [p]) G := ⟨List.prefix_append _ _, Ex.refl _⟩
/-- a new list, as data or as a cell -/
theorem Sm.new (S : Sm K F κ G M H) {c : Bool} {p : Addr} {xs : List V} {ds : List D} {z : Dv} (hp : H p = none) (r : Rvs K G xs ds) (h : mkL c ds M = some (z, M')) :
    ∃ κ' G', Le κ G κ' G' ∧ Sm K F κ' G' M' (upd H p (.lst xs)) ∧ Rx K κ' G' (.ref p) z := by
  obtain ⟨g, f, nk⟩ := S.fresh hp
  cases c with
  | true =>
    cases h
    refine ⟨κ ++ [p], G, Le.newC, S.newC hp r, p, rfl, ?_⟩
    rw [List.getElem?_append_right (by rw [S.len]; exact Nat.le_refl _), S.len, Nat.sub_self]
    rfl
  | false =>
    cases h
    exact ⟨κ, upd G p (.lst xs), Le.newG g, S.newG _ hp, .lst upd_same (r.mono (Ex.new g))⟩
theorem Sm.put (S : Sm K F κ G M H) {n : Nat} {a : Addr} {ys : List V} {ds es : List D} (h : (M[n]?).join = some ds) (ha : κ[n]? = some a) (r : Rvs K G ys es) : Sm K F κ G (setC M n es) (upd H a (.lst ys)) := by
  obtain ⟨xs, e1, e2, e3, e4⟩ := cell_at S h ha
  refine ⟨Ex.mut S.ex e1, Ex.mut S.fx e2, S.dj, S.fk, by simp [setC, S.len], S.nd, fun b hb => ?_, fun m fs e => ?_⟩
  · by_cases z : b = a
    · subst z
      exact ⟨_, upd_same⟩
    · obtain ⟨q, hq⟩ := S.th b hb
      exact ⟨q, by rw [upd_ne z]; exact hq⟩
  · unfold setC at e
    by_cases hm : n = m
    · subst hm
      have hn : n < M.length := by
        rw [← S.len]
        exact (List.getElem?_eq_some_iff.mp ha).1
      rw [List.getElem?_set_self hn] at e
      cases e
      exact ⟨a, ys, ha, e1, upd_same, r⟩
    · rw [List.getElem?_set_ne hm] at e
      obtain ⟨b, zs, q1, q2, q4, q5⟩ := S.cel m fs e
      have nb : b ≠ a := fun z => by
        subst z
        obtain ⟨l1, g1⟩ := List.getElem?_eq_some_iff.mp ha
        obtain ⟨l2, g2⟩ := List.getElem?_eq_some_iff.mp q1
        exact hm ((List.getElem_inj S.nd).mp (g1.trans g2.symm))
      exact ⟨b, zs, q1, q2, by rw [upd_ne nb]; exact q4, q5⟩
theorem Sm.take (S : Sm K F κ G M H) (b : Nat) : Sm K F (κ.take b) G (M.take b) H := by
  refine ⟨S.ex, S.fx, S.dj, fun a h => S.fk a (List.mem_of_mem_take h), by simp [S.len], S.nd.sublist (List.take_sublist _ _), fun a h => S.th a (List.mem_of_mem_take h), fun n ds e => ?_⟩
  rw [List.getElem?_take] at e
  split at e
  · rename_i hn
    obtain ⟨a, xs, e1, e2⟩ := S.cel n ds e
    exact ⟨a, xs, by rw [List.getElem?_take, if_pos hn]; exact e1, e2⟩
  · cases e
/-- a cell is data from now on -/
theorem Sm.freeze (S : Sm K F κ G M H) {n : Nat} {a : Addr} {ds : List D} (h : (M[n]?).join = some ds) (ha : κ[n]? = some a) :
    ∃ G', Ex G G' ∧ Sm K F κ G' (M.set n none) H ∧ Rv K G' (.ref a) (.lst ds) := by
  obtain ⟨xs, e1, e2, e3, e4⟩ := cell_at S h ha
  refine ⟨upd G a (.lst xs), Ex.new e1, ⟨fun b u e => ?_, S.fx, fun b u e => by rw [upd_ne (ne_of_none e e2)]; exact S.dj b u e, S.fk, by simp [S.len], S.nd, S.th, fun m fs e => ?_⟩, .lst upd_same (e4.mono (Ex.new e1))⟩
  · by_cases z : b = a
    · subst z
      rw [upd_same] at e
      cases e
      exact e3
    · rw [upd_ne z] at e
      exact S.ex b u e
  · by_cases hm : n = m
    · subst hm
      have hn : n < M.length := by
        rw [← S.len]
        exact (List.getElem?_eq_some_iff.mp ha).1
      rw [List.getElem?_set_self hn] at e
      cases e
    · rw [List.getElem?_set_ne hm] at e
      obtain ⟨b, zs, q1, q2, q4, q5⟩ := S.cel m fs e
      have nb : b ≠ a := fun z => by
        subst z
        obtain ⟨l1, g1⟩ := List.getElem?_eq_some_iff.mp ha
        obtain ⟨l2, g2⟩ := List.getElem?_eq_some_iff.mp q1
        exact hm ((List.getElem_inj S.nd).mp (g1.trans g2.symm))
      exact ⟨b, zs, q1, by rw [upd_ne nb]; exact q2, q4, q5.mono (Ex.new e1)⟩
/-! ### a list that is being made stands by itself -/
theorem Sm.frame (S : Sm K F κ G M H) {p : Addr} (hp : H p = none) (xs : List V) : Sm K (upd F p (.lst xs)) κ G M (upd H p (.lst xs)) := by
  obtain ⟨g, f, nk⟩ := S.fresh hp
  refine ⟨fun a u e => upd_some hp (S.ex a u e), fun a u e => ?_, fun a u e => ?_, fun a h => ?_, S.len, S.nd, fun a h => let ⟨u, e⟩ := S.th a h; ⟨u, upd_some hp e⟩, fun n ds e => ?_⟩
  · by_cases ha : a = p
    · subst ha
      rw [upd_same] at e ⊢
      exact e
    · rw [upd_ne ha] at e ⊢
      exact S.fx a u e
  · by_cases ha : a = p
    · subst ha
      exact g
    · rw [upd_ne ha] at e
      exact S.dj a u e
  · rw [upd_ne (show a ≠ p from fun z => nk (z ▸ h))]
    exact S.fk a h
  · obtain ⟨a, xs, e1, e2, e4, e5⟩ := S.cel n ds e
    exact ⟨a, xs, e1, e2, upd_some hp e4, e5⟩
/-- it grows -/
theorem Sm.grow {p : Addr} {xs : List V} (S : Sm K (upd F p (.lst xs)) κ G M H) (ys : List V) : Sm K (upd F p (.lst ys)) κ G M (upd H p (.lst ys)) := by
  have np : ∀ a ∈ κ, a ≠ p := fun a h z => by
    have q := S.fk a h
    rw [z, upd_same] at q
    cases q
  have gp : G p = none := S.dj p _ upd_same
  refine ⟨fun a u e => ?_, fun a u e => ?_, fun a u e => ?_, fun a h => ?_, S.len, S.nd, fun a h => let ⟨u, e⟩ := S.th a h; ⟨u, by rw [upd_ne (np a h)]; exact e⟩, fun n ds e => ?_⟩
  · rw [upd_ne (ne_of_none e gp)]
    exact S.ex a u e
  · by_cases ha : a = p
    · subst ha
      rw [upd_same] at e ⊢
      exact e
    · rw [upd_ne ha] at e ⊢
      exact S.fx a u (by rw [upd_ne ha]; exact e)
  · by_cases ha : a = p
    · subst ha
      exact gp
    · rw [upd_ne ha] at e
      exact S.dj a u (by rw [upd_ne ha]; exact e)
  · have q := S.fk a h
    rw [upd_ne (np a h)] at q ⊢
    exact q
  · obtain ⟨a, xs, e1, e2, e4, e5⟩ := S.cel n ds e
    exact ⟨a, xs, e1, e2, by rw [upd_ne (np a (List.mem_of_getElem? e1))]; exact e4, e5⟩
/-- it is made -/
theorem Sm.made {c : Bool} {p : Addr} {xs : List V} {ds : List D} {z : Dv} (S : Sm K (upd F p (.lst xs)) κ G M H) (hF : F p = none) (r : Rvs K G xs ds) (h : mkL c ds M = some (z, M')) :
    ∃ κ' G', Le κ G κ' G' ∧ Sm K F κ' G' M' H ∧ Rx K κ' G' (.ref p) z := by
  have np : ∀ a ∈ κ, a ≠ p := fun a h z => by
    have q := S.fk a h
    rw [z, upd_same] at q
    cases q
  have gp : G p = none := S.dj p _ upd_same
  have hp : H p = some (.lst xs) := S.fx p _ upd_same
  have Fx : Ex F H := fun a u e => S.fx a u (by rw [upd_ne (ne_of_none e hF)]; exact e)
  have Fk : ∀ a ∈ κ, F a = none := fun a h => by
    have q := S.fk a h
    rw [upd_ne (np a h)] at q
    exact q
  cases c with
  | false =>
    cases h
    refine ⟨κ, upd G p (.lst xs), Le.newG gp, ⟨fun a u e => ?_, Fx, fun a u e => ?_, Fk, S.len, S.nd, S.th, fun n es e => ?_⟩, .lst upd_same (r.mono (Ex.new gp))⟩
    · by_cases ha : a = p
      · subst ha
        rw [upd_same] at e
        rw [← e]
        exact hp
      · rw [upd_ne ha] at e
        exact S.ex a u e
    · have ha := ne_of_none e hF
      rw [upd_ne ha]
      exact S.dj a u (by rw [upd_ne ha]; exact e)
    · obtain ⟨a, xs, e1, e2, e4, e5⟩ := S.cel n es e
      exact ⟨a, xs, e1, by rw [upd_ne (np a (List.mem_of_getElem? e1))]; exact e2, e4, e5.mono (Ex.new gp)⟩
  | true =>
    cases h
    refine ⟨κ ++ [p], G, Le.newC, ⟨S.ex, Fx, fun a u e => S.dj a u (by rw [upd_ne (ne_of_none e hF)]; exact e), fun a h => ?_, by simp [S.len], ?_, fun a h => ?_, fun n es e => ?_⟩, p, rfl, ?_⟩
    · rcases List.mem_append.mp h with h | h
      · exact Fk a h
      · simp at h
        subst h
        exact hF
    · rw [List.nodup_append]
      exact ⟨S.nd, by simp, fun a ha b hb e => by simp at hb; subst hb; subst e; exact np _ ha rfl⟩
    · rcases List.mem_append.mp h with h | h
      · exact S.th a h
      · simp at h
        subst h
        exact ⟨_, hp⟩
    · by_cases hn : n < M.length
      · rw [List.getElem?_append_left hn] at e
        obtain ⟨a, ys, e1, e2, e4, e5⟩ := S.cel n es e
        exact ⟨a, ys, by rw [List.getElem?_append_left (by rw [S.len]; exact hn)]; exact e1, e2, e4, e5⟩
      · rw [List.getElem?_append_right (by omega)] at e
        have hn2 : n - M.length = 0 := by
          cases q : n - M.length with
          | zero => rfl
          | succ k => rw [q] at e; simp at e
        rw [hn2] at e
        simp at e
        subst e
        refine ⟨p, xs, ?_, gp, hp, r⟩
        rw [List.getElem?_append_right (by rw [S.len]; omega), S.len, hn2]
        rfl
    · rw [List.getElem?_append_right (by rw [S.len]; exact Nat.le_refl _), S.len, Nat.sub_self]
      rfl
end
end Rw
end PRwSim
section PRwSimE
set_option Elab.async false
set_option linter.all false
set_option maxRecDepth 100000
set_option maxHeartbeats 2000000
namespace Rw
open PySem L2 PySem.Spec PyProof.Rows
open Evl (Ex)

/-- behind an expression -/
abbrev PV (K : PySem.W.Frag) (F : Hp) (κ : List Addr) (G : Hp) (Q : VK) (v : Dv) (M' : DSt) : Prop := ∀ κ' G' u H', Le κ G κ' G' → Sm K F κ' G' M' H' → Rx K κ' G' u v → Q u H'
structure SimE (K : PySem.W.Frag) (t : TE) (e : DE) : Prop where
  run : ∀ {F κ G σ ρ M H Q v M'}, Sm K F κ G M H → Se K κ G σ ρ → e ρ M = some (v, M') → PV K F κ G Q v M' → t σ H Q
structure SimT (K : PySem.W.Frag) (t : TT) (e : DT) : Prop where
  run : ∀ {F κ G σ ρ M H b M'} {Q : Bool → Hp → Prop}, Sm K F κ G M H → Se K κ G σ ρ → e ρ M = some (b, M') → (∀ κ' G' H', Le κ G κ' G' → Sm K F κ' G' M' H' → Q b H') → t σ H Q
structure SimA (K : PySem.W.Frag) (t : TA) (e : DA) : Prop where
  run : ∀ {F κ G σ ρ M H vs M'} {Q : List V → Hp → Prop}, Sm K F κ G M H → Se K κ G σ ρ → e ρ M = some (vs, M') → (∀ κ' G' us H', Le κ G κ' G' → Sm K F κ' G' M' H' → Rxs K κ' G' us vs → Q us H') → t σ H Q
def SimR2 (K : PySem.W.Frag) (r : R2) (f : O2) : Prop := ∀ {F κ G M H Q x y z M' u v}, Sm K F κ G M H → Rx K κ G u x → Rx K κ G v y → f x y M = some (z, M') → PV K F κ G Q z M' → r u v H Q
def SimR1 (K : PySem.W.Frag) (r : V → Hp → VK → Prop) (f : O1) : Prop := ∀ {F κ G M H Q x z M' u}, Sm K F κ G M H → Rx K κ G u x → f x M = some (z, M') → PV K F κ G Q z M' → r u H Q
def SimRA (K : PySem.W.Frag) (r : List V → Hp → VK → Prop) (f : OA) : Prop := ∀ {F κ G M H Q xs z M' us}, Sm K F κ G M H → Rxs K κ G us xs → f xs M = some (z, M') → PV K F κ G Q z M' → r us H Q
def SimRM (K : PySem.W.Frag) (T : String) (r : V → List V → Hp → VK → Prop) (f : Dv → List Dv → DSt → Option (Dv × DSt)) : Prop := ∀ {F κ G M H Q x xs z M' u us}, Sm K F κ G M H → Rx K κ G u x → Rxs K κ G us xs → f x xs M = some (z, M') → PV K F κ G Q z M' → r u us H Q
section
variable {K : PySem.W.Frag}
theorem PV.weak {F : Hp} {κ κ1 : List Addr} {G G1 : Hp} {Q : VK} {v : Dv} {M' : DSt} (l : Le κ G κ1 G1) (k : PV K F κ G Q v M') : PV K F κ1 G1 Q v M' := fun κ' G' u H' l' S r => k κ' G' u H' (l.trans l') S r
theorem PV.here {F : Hp} {κ : List Addr} {G : Hp} {Q : VK} {v : Dv} {M' : DSt} {H : Hp} {u : V} (k : PV K F κ G Q v M') (S : Sm K F κ G M' H) (r : Rx K κ G u v) : Q u H := k κ G u H (Le.refl _ _) S r

/-! ### names, constants, operators -/
theorem sim_var (i : Nat) : SimE K (tVar i) (eVar i) := ⟨fun {F κ G σ ρ M H Q v M'} S E h k => by
  unfold eVar at h
  split at h
  · rename_i x e
    cases h
    obtain ⟨u, hu, r⟩ := E.at_ i _ e
    exact ⟨u, hu, k.here S r⟩
  · cases h⟩
theorem sim_c {v : V} {d : D} (hd : ∀ G, Rv K G v d) : SimE K (tC v) (eC d) := ⟨fun {F κ G σ ρ M H Q x M'} S E h k => by
  cases h
  exact k.here S (hd G)⟩
theorem sim_op {r : R2} {f : O2} {ta tb : TE} {a b : DE} (hr : SimR2 K r f) (ha : SimE K ta a) (hb : SimE K tb b) : SimE K (tOp r ta tb) (e2 f a b) := ⟨fun {F κ G σ ρ M H Q z M'} S E h k => by
  unfold e2 at h
  split at h
  · rename_i x M1 e
    split at h
    · rename_i y M2 e2
      refine ha.run S E e fun κ1 G1 u H1 l1 S1 r1 => hb.run S1 (E.mono l1) e2 fun κ2 G2 v H2 l2 S2 r2 => ?_
      exact hr S2 (r1.mono l2) r2 h (k.weak (l1.trans l2))
    · cases h
  · cases h⟩
theorem sim_un {r : V → Hp → VK → Prop} {f : O1} {ta : TE} {a : DE} (hr : SimR1 K r f) (ha : SimE K ta a) : SimE K (tUn r ta) (e1 f a) := ⟨fun {F κ G σ ρ M H Q z M'} S E h k => by
  unfold e1 at h
  split at h
  · rename_i x M1 e
    exact ha.run S E e fun κ1 G1 u H1 l1 S1 r1 => hr S1 r1 h (k.weak l1)
  · cases h⟩
theorem sim_nil : SimA K tNil aNil := ⟨fun {F κ G σ ρ M H vs M' Q} S E h k => by
  cases h
  exact k κ G [] H (Le.refl _ _) S .nil⟩
theorem sim_cons {ta : TE} {a : DE} {tr : TA} {as : DA} (ha : SimE K ta a) (hr : SimA K tr as) : SimA K (tCons ta tr) (aCons a as) := ⟨fun {F κ G σ ρ M H vs M' Q} S E h k => by
  unfold aCons at h
  split at h
  · rename_i x M1 e
    split at h
    · rename_i xs M2 e2
      cases h
      exact ha.run S E e fun κ1 G1 u H1 l1 S1 r1 => hr.run S1 (E.mono l1) e2 fun κ2 G2 us H2 l2 S2 r2 => k κ2 G2 (u :: us) H2 (l1.trans l2) S2 (.cons (r1.mono l2) r2)
    · cases h
  · cases h⟩
theorem sim_cb {r : List V → Hp → VK → Prop} {f : OA} {ta : TA} {a : DA} (hr : SimRA K r f) (ha : SimA K ta a) : SimE K (tCB r ta) (eA f a) := ⟨fun {F κ G σ ρ M H Q z M'} S E h k => by
  unfold eA at h
  split at h
  · rename_i xs M1 e
    exact ha.run S E e fun κ1 G1 us H1 l1 S1 r1 => hr S1 r1 h (k.weak l1)
  · cases h⟩
theorem sim_chain {r r' : R2} {f g : O2} {ta tb tc : TE} {a b c : DE} (hr : SimR2 K r f) (hr' : SimR2 K r' g) (ha : SimE K ta a) (hb : SimE K tb b) (hc : SimE K tc c) : SimE K (tChain r r' ta tb tc) (eChain f g a b c) := ⟨fun {F κ G σ ρ M H Q z M'} S E h k => by
  unfold eChain at h
  split at h
  · rename_i x M1 e
    split at h
    · rename_i y M2 e2
      refine ha.run S E e fun κ1 G1 u H1 l1 S1 r1 => hb.run S1 (E.mono l1) e2 fun κ2 G2 v H2 l2 S2 r2 => ?_
      split at h
      · rename_i M3 e3
        split at h
        · rename_i zz M4 e4
          refine hr S2 (r1.mono l2) r2 e3 fun κ3 G3 w H3 l3 S3 r3 => ⟨true, ?_, ?_⟩
          · cases r3; rfl
          · show (if true = true then _ else _)
            rw [if_pos rfl]
            exact hc.run S3 (((E.mono l1).mono l2).mono l3) e4 fun κ4 G4 w4 H4 l4 S4 r4 => hr' S4 ((r2.mono l3).mono l4) r4 h (k.weak (((l1.trans l2).trans l3).trans l4))
        · cases h
      · rename_i M3 e3
        cases h
        refine hr S2 (r1.mono l2) r2 e3 fun κ3 G3 w H3 l3 S3 r3 => ⟨false, ?_, ?_⟩
        · cases r3; rfl
        · show (if false = true then _ else _)
          rw [if_neg Bool.false_ne_true]
          exact k κ3 G3 (.bl false) H3 ((l1.trans l2).trans l3) S3 (Rv.bl false)
      · cases h
    · cases h
  · cases h⟩

/-! ### tests -/
theorem sim_tB {ta : TE} {a : DE} (ha : SimE K ta a) : SimT K (tB ta) (tVal a) := ⟨fun {F κ G σ ρ M H b M' Q} S E h k => by
  unfold tVal at h
  split at h
  · rename_i c M1 e
    cases h
    refine ha.run S E e fun κ1 G1 u H1 l1 S1 r1 => ⟨b, ?_, k κ1 G1 H1 l1 S1⟩
    cases r1; rfl
  · cases h⟩
theorem sim_tTest {ta : TE} {a : DE} (ha : SimE K ta a) : SimT K (tTest ta) (tVal a) := ⟨fun {F κ G σ ρ M H b M' Q} S E h k => (sim_tB ha).run S E h k⟩
theorem sim_and {t u : TT} {a b : DT} (ha : SimT K t a) (hb : SimT K u b) : SimT K (L2.tAnd t u) (Rw.tAnd a b) := ⟨fun {F κ G σ ρ M H c M' Q} S E h k => by
  unfold Rw.tAnd at h
  split at h
  · rename_i M1 e
    refine ha.run S E e fun κ1 G1 H1 l1 S1 => ?_
    show (if true = true then _ else _)
    rw [if_pos rfl]
    exact hb.run S1 (E.mono l1) h fun κ2 G2 H2 l2 S2 => k κ2 G2 H2 (l1.trans l2) S2
  · rename_i M1 e
    cases h
    refine ha.run S E e fun κ1 G1 H1 l1 S1 => ?_
    show (if false = true then _ else _)
    rw [if_neg Bool.false_ne_true]
    exact k κ1 G1 H1 l1 S1
  · cases h⟩
theorem sim_or {t u : TT} {a b : DT} (ha : SimT K t a) (hb : SimT K u b) : SimT K (L2.tOr t u) (Rw.tOr a b) := ⟨fun {F κ G σ ρ M H c M' Q} S E h k => by
  unfold Rw.tOr at h
  split at h
  · rename_i M1 e
    cases h
    refine ha.run S E e fun κ1 G1 H1 l1 S1 => ?_
    show (if true = true then _ else _)
    rw [if_pos rfl]
    exact k κ1 G1 H1 l1 S1
  · rename_i M1 e
    refine ha.run S E e fun κ1 G1 H1 l1 S1 => ?_
    show (if false = true then _ else _)
    rw [if_neg Bool.false_ne_true]
    exact hb.run S1 (E.mono l1) h fun κ2 G2 H2 l2 S2 => k κ2 G2 H2 (l1.trans l2) S2
  · cases h⟩
theorem sim_not {t : TT} {a : DT} (ha : SimT K t a) : SimT K (L2.tNot t) (Rw.tNot a) := ⟨fun {F κ G σ ρ M H c M' Q} S E h k => by
  unfold Rw.tNot at h
  split at h
  · rename_i b M1 e
    cases h
    exact ha.run S E e k
  · cases h⟩
theorem sim_ifE {t : TT} {c : DT} {ta tb : TE} {a b : DE} (hc : SimT K t c) (ha : SimE K ta a) (hb : SimE K tb b) : SimE K (tIf t ta tb) (eIf c a b) := ⟨fun {F κ G σ ρ M H Q z M'} S E h k => by
  unfold eIf at h
  split at h
  · rename_i M1 e
    refine hc.run S E e fun κ1 G1 H1 l1 S1 => ?_
    show (if true = true then _ else _)
    rw [if_pos rfl]
    exact ha.run S1 (E.mono l1) h (k.weak l1)
  · rename_i M1 e
    refine hc.run S E e fun κ1 G1 H1 l1 S1 => ?_
    show (if false = true then _ else _)
    rw [if_neg Bool.false_ne_true]
    exact hb.run S1 (E.mono l1) h (k.weak l1)
  · cases h⟩
theorem sim_andV {ta tb : TE} {a b : DE} (ha : SimE K ta a) (hb : SimE K tb b) : SimE K (tAndV ta tb) (eAnd a b) := ⟨fun {F κ G σ ρ M H Q z M'} S E h k => by
  unfold eAnd at h
  split at h
  · rename_i M1 e
    refine ha.run S E e fun κ1 G1 u H1 l1 S1 r1 => ⟨true, by cases r1; rfl, ?_⟩
    rw [if_pos rfl]
    exact hb.run S1 (E.mono l1) h (k.weak l1)
  · rename_i M1 e
    cases h
    refine ha.run S E e fun κ1 G1 u H1 l1 S1 r1 => ⟨false, by cases r1; rfl, ?_⟩
    rw [if_neg Bool.false_ne_true]
    exact k κ1 G1 _ H1 l1 S1 (Rv.bl false)
  · cases h⟩
theorem sim_orV {ta tb : TE} {a b : DE} (ha : SimE K ta a) (hb : SimE K tb b) : SimE K (tOrV ta tb) (eOr a b) := ⟨fun {F κ G σ ρ M H Q z M'} S E h k => by
  unfold eOr at h
  split at h
  · rename_i M1 e
    cases h
    refine ha.run S E e fun κ1 G1 u H1 l1 S1 r1 => ⟨true, by cases r1; rfl, ?_⟩
    rw [if_pos rfl]
    exact k κ1 G1 _ H1 l1 S1 (Rv.bl true)
  · rename_i M1 e
    refine ha.run S E e fun κ1 G1 u H1 l1 S1 r1 => ⟨false, by cases r1; rfl, ?_⟩
    rw [if_neg Bool.false_ne_true]
    exact hb.run S1 (E.mono l1) h (k.weak l1)
  · cases h⟩
theorem sim_notV {ta : TE} {a : DE} (ha : SimE K ta a) : SimE K (tNotV ta) (eNot a) := ⟨fun {F κ G σ ρ M H Q z M'} S E h k => by
  unfold eNot at h
  split at h
  · rename_i b M1 e
    cases h
    refine ha.run S E e fun κ1 G1 u H1 l1 S1 r1 => ⟨b, by cases r1; rfl, k κ1 G1 _ H1 l1 S1 (Rv.bl _)⟩
  · cases h⟩

/-! ### operators on values -/
theorem rx_int {κ : List Addr} {G : Hp} {u : V} {i : Int} (r : Rx K κ G u (.d (.int i))) : u = .int i := by cases r; rfl
theorem rx_str {κ : List Addr} {G : Hp} {u : V} {i : Str} (r : Rx K κ G u (.d (.str i))) : u = .str i := by cases r; rfl
theorem rx_bl {κ : List Addr} {G : Hp} {u : V} {i : Bool} (r : Rx K κ G u (.d (.bl i))) : u = .bl i := by cases r; rfl
/-- what an int operation gives: an int or a truth -/
theorem sr_I0 {g : Int → Int → V} {f : Int → Int → D} (hg : ∀ i j G, Rv K G (g i j) (f i j)) : SimR2 K (rI0 g) (oI f) := fun {F κ G M H Q x y z M' u v} S rx ry h k => by
  unfold oI at h
  split at h
  · cases h
    exact ⟨_, _, rx_int rx, rx_int ry, k.here S (hg _ _ _)⟩
  · cases h
theorem sr_I {C : Int → Int → Prop} {p : Int → Int → Prop} {g : Int → Int → V} {f : Int → Int → D} (hc : ∀ i j, p i j → C i j) (hg : ∀ i j G, p i j → Rv K G (g i j) (f i j)) : SimR2 K (rI C g) (oIg p f) := fun {F κ G M H Q x y z M' u v} S rx ry h k => by
  unfold oIg at h
  split at h
  · obtain ⟨hp, h⟩ := grd_some h
    cases h
    exact ⟨_, _, rx_int rx, rx_int ry, hc _ _ hp, k.here S (hg _ _ _ hp)⟩
  · cases h
theorem sr_sub : SimR2 K (rI0 fun i j => .int (i - j)) oSub := sr_I0 fun _ _ _ => .int _
theorem sr_lt : SimR2 K (rI0 fun i j => .bl (decide (i < j))) oLt := sr_I0 fun _ _ _ => .bl _
theorem sr_le : SimR2 K (rI0 fun i j => .bl (decide (i ≤ j))) oLe := sr_I0 fun _ _ _ => .bl _
theorem sr_gt : SimR2 K (rI0 fun i j => .bl (decide (j < i))) oGt := sr_I0 fun _ _ _ => .bl _
theorem sr_ge : SimR2 K (rI0 fun i j => .bl (decide (j ≤ i))) oGe := sr_I0 fun _ _ _ => .bl _
def CMulR (i j : Int) : Prop := IntMulOk i j
theorem op_mulR {X : Cx} : OpR X (binaryOp .Mult) (rI CMulR fun i j => .int (i * j)) := opI fun _ _ _ _ _ _ _ hc q => mul_int q hc
theorem mulOk_ok {i j : Int} (h : mulOk i j) : CMulR i j := by
  rcases h with h | h | ⟨h1, h2⟩
  · exact (show CMul i j from .inl h).ok
  · exact (show CMul i j from .inr h).ok
  · unfold CMulR
    have b : ∀ x : Int, Builtin.Int.intBits x ≤ x.natAbs.log2 + 1 := fun x => by
      unfold Builtin.Int.intBits
      split <;> omega
    have e1 := b i
    have e2 := b j
    unfold iLn at h1 h2
    have e : bitsLine = 134217728 := by decide
    unfold IntMulOk
    intro z
    rw [Bool.and_eq_true] at z
    have z2 := z.2
    unfold Builtin.Int.intTooBig at z2
    have z3 := of_decide_eq_true z2
    rw [e] at z3
    omega
theorem sr_mul : SimR2 K (rI CMulR fun i j => .int (i * j)) oMul := sr_I (fun _ _ h => mulOk_ok h) fun _ _ _ _ => .int _
def CDivR (_ j : Int) : Prop := divOk j
theorem op_fdivR {X : Cx} : OpR X (binaryOp .FloorDiv) (rI CDivR fun i j => .int (i.fdiv j)) := opI fun i j _ _ _ _ _ hc q => floordiv_int hc.1 q (.inl (PyProof.noPylong_of_log2 hc.2))
theorem sr_div : SimR2 K (rI CDivR fun i j => .int (i.fdiv j)) oDiv := sr_I (fun _ _ h => h) fun _ _ _ _ => .int _
theorem sr_mod : SimR2 K (rI (fun _ j => j ≠ 0) fun i j => .int (i.fmod j)) oMod := sr_I (fun _ _ h => h) fun _ _ _ _ => .int _
theorem sr_pow : SimR2 K (rI CPow fun i j => .int (i ^ j.toNat)) oPow := sr_I (fun _ _ h => h) fun _ _ _ _ => .int _
theorem sr_neg : SimR1 K (rU fun i => .int (-i)) oNeg := fun {F κ G M H Q x z M' u} S rx h k => by
  unfold oNeg at h
  split at h
  · cases h
    exact ⟨_, rx_int rx, k.here S (Rv.int _)⟩
  · cases h
theorem sz_big {n : Nat} (h : n ≤ big) : n ≤ sizeLine := Nat.le_trans h (by decide)
theorem sz_big1 {n : Nat} (h : n < big) : n < sizeLine := Nat.lt_of_lt_of_le h (by decide)
/-- a + b: ints, texts, lists -/
def rAddS1 : R2 := fun x y H Q => ∃ i j, x = .str i ∧ y = .str j ∧ i.length + j.length ≤ sizeLine ∧ Q (.str (i ++ j)) H
def rAdd3 : R2 := fun x y H Q => rI0 (fun i j => .int (i + j)) x y H Q ∨ (rAddS1 x y H Q ∨ rCat x y H Q)
theorem op_add3 {X : Cx} : OpR X (binaryOp .Add) rAdd3 := op_add.or (op_add_str.or op_cat)
theorem sr_add (c : Bool) : SimR2 K rAdd3 (oAdd c) := fun {F κ G M H Q x y z M' u v} S rx ry h k => by
  unfold oAdd at h
  split at h
  · cases h
    exact .inl ⟨_, _, rx_int rx, rx_int ry, k.here S (Rv.int _)⟩
  · obtain ⟨hp, h⟩ := grd_some h
    cases h
    exact .inr (.inl ⟨_, _, rx_str rx, rx_str ry, sz_big hp, k.here S (Rv.str _)⟩)
  · split at h
    · rename_i xs ys e1 e2
      obtain ⟨hp, h⟩ := grd_some h
      obtain ⟨a, us, rfl, ha, ra⟩ := lw_at S rx e1
      obtain ⟨b, vs, rfl, hb, rb⟩ := lw_at S ry e2
      refine .inr (.inr ⟨a, b, us, vs, rfl, rfl, ha, hb, sz_big (by rw [ra.length, rb.length]; exact hp), fun p hp => ?_⟩)
      obtain ⟨κ', G', l, S', r⟩ := S.new hp (ra.append rb) h
      exact k κ' G' _ _ l S' r
    · cases h
theorem sr_rep (c : Bool) : SimR2 K rRep (oRep c) := fun {F κ G M H Q x y z M' u v} S rx ry h k => by
  unfold oRep at h
  split at h
  · rename_i xs kk e1
    obtain ⟨⟨h1, h2, h3⟩, h⟩ := grd_some h
    obtain ⟨a, us, rfl, ha, ra⟩ := lw_at S rx e1
    refine ⟨a, kk, us, rfl, rx_int ry, ha, by omega, by omega, sz_big (by rw [ra.length]; exact h3), fun p hp => ?_⟩
    obtain ⟨κ', G', l, S', r⟩ := S.new hp (ra.rep kk.toNat) h
    exact k κ' G' _ _ l S' r
  · cases h
/-! ### == -/
mutual
def D.toPy : D → PyData
  | .non => .none
  | .bl b => .bool b
  | .int i => .int i
  | .str s => .str s
  | .ty _ => .none
  | .lst xs => .list (D.toPys xs)
  | .tup xs => .tuple (D.toPys xs)
def D.toPys : List D → List PyData
  | [] => []
  | x :: xs => x.toPy :: D.toPys xs
end
end
end Rw
end PRwSimE
section PRwSimF
set_option Elab.async false
set_option linter.all false
set_option maxRecDepth 100000
set_option maxHeartbeats 2000000
namespace Rw
open PySem L2 PySem.Spec PyProof.Rows
open Evl (Ex)
section
variable {K : PySem.W.Frag}
/-! ### == -/
theorem dp_all {G H : Hp} {n : Nat} (ih : ∀ (d : D) (v : V), Rv K G v d → d.shp n = true → Dp K H v d.toPy) : ∀ {vs : List V} {ds : List D}, Rvs K G vs ds → ds.all (D.shp n) = true → DpAll K H vs (D.toPys ds)
  | _, _, .nil, _ => .nil
  | _, _, .cons h r, hs => by
    simp only [List.all_cons, Bool.and_eq_true] at hs
    exact .cons (ih _ _ h hs.1) (dp_all ih r hs.2)
theorem dp_of {G H : Hp} (e : Ex G H) : ∀ (n : Nat) (d : D) (v : V), Rv K G v d → d.shp n = true → Dp K H v d.toPy
  | 0, d, v, h, hs => by
    cases h with
    | non => exact .non
    | bl b => exact .bl b
    | int i => exact .int i
    | str x => exact .str x
    | ty n => cases hs
    | lst h r => cases hs
    | tup h r => cases hs
  | n + 1, d, v, h, hs => by
    cases h with
    | non => exact .non
    | bl b => exact .bl b
    | int i => exact .int i
    | str x => exact .str x
    | ty n => cases hs
    | lst h r => exact .lst (.of (e _ _ h)) (dp_all (fun d v => dp_of e n d v) r hs)
    | tup h r => exact .tup (Evl.ex_t e h) (dp_all (fun d v => dp_of e n d v) r hs)
theorem shp_lay_all {n : Nat} (ih : ∀ d : D, d.shp n = true → d.toPy.canLay0 = true ∧ d.toPy.depth ≤ n) : ∀ ds : List D, ds.all (D.shp n) = true → PyData.canLayAll0 (D.toPys ds) = true ∧ PyData.depthAll (D.toPys ds) ≤ n
  | [], _ => ⟨rfl, Nat.zero_le _⟩
  | d :: ds, hs => by
    simp only [List.all_cons, Bool.and_eq_true] at hs
    obtain ⟨a, b⟩ := ih d hs.1
    obtain ⟨c, e⟩ := shp_lay_all ih ds hs.2
    refine ⟨?_, ?_⟩
    · simp only [D.toPys, PyData.canLayAll0, a, c, Bool.and_self]
    · simp only [D.toPys, PyData.depthAll]
      omega
theorem shp_lay : ∀ (n : Nat) (d : D), d.shp n = true → d.toPy.canLay0 = true ∧ d.toPy.depth ≤ n
  | n, .non, _ => ⟨rfl, by simp [D.toPy, PyData.depth]⟩
  | n, .bl _, _ => ⟨rfl, by simp [D.toPy, PyData.depth]⟩
  | n, .int _, _ => ⟨rfl, by simp [D.toPy, PyData.depth]⟩
  | n, .str s, h => ⟨by
      have h' : strFine s = true := by cases n <;> exact h
      simp only [D.toPy, PyData.canLay0]
      exact h', by simp [D.toPy, PyData.depth]⟩
  | n, .ty _, h => by cases n <;> cases h
  | 0, .lst _, h => by cases h
  | 0, .tup _, h => by cases h
  | n + 1, .lst ds, h => by
    obtain ⟨a, b⟩ := shp_lay_all (fun d => shp_lay n d) ds h
    exact ⟨by simp only [D.toPy, PyData.canLay0]; exact a, by simp only [D.toPy, PyData.depth]; omega⟩
  | n + 1, .tup ds, h => by
    obtain ⟨a, b⟩ := shp_lay_all (fun d => shp_lay n d) ds h
    exact ⟨by simp only [D.toPy, PyData.canLay0]; exact a, by simp only [D.toPy, PyData.depth]; omega⟩
theorem shaped_of {n : Nat} {d : D} (h : d.shp n = true) (hn : n ≤ 64) : SeqAt.shaped d.toPy = true := by
  obtain ⟨a, b⟩ := shp_lay n d h
  unfold SeqAt.shaped
  rw [a, decide_eq_true (Nat.le_trans b hn)]
  rfl
theorem eqvs_of {n : Nat} (ih : ∀ a b : D, a.shp n = true → b.shp n = true → PyData.eqv a.toPy b.toPy = D.eqv a b) : ∀ (as bs : List D), as.all (D.shp n) = true → bs.all (D.shp n) = true → PyData.eqvAll (D.toPys as) (D.toPys bs) = D.eqvs as bs
  | [], [], _, _ => rfl
  | [], _ :: _, _, _ => rfl
  | _ :: _, [], _, _ => rfl
  | a :: as, b :: bs, h1, h2 => by
    simp only [List.all_cons, Bool.and_eq_true] at h1 h2
    simp only [D.toPys, PyData.eqvAll, D.eqvs]
    rw [ih a b h1.1 h2.1, eqvs_of ih as bs h1.2 h2.2]
theorem eqv_of : ∀ (n : Nat) (a b : D), a.shp n = true → b.shp n = true → PyData.eqv a.toPy b.toPy = D.eqv a b
  | 0, a, b, h1, h2 => by
    cases a <;> cases b <;> simp [D.shp] at h1 h2 <;> simp only [D.toPy, PyData.eqv, D.eqv]
  | n + 1, a, b, h1, h2 => by
    cases a <;> cases b <;> first
      | (simp only [D.shp] at h1 h2; simp only [D.toPy, PyData.eqv, D.eqv]; exact eqvs_of (fun a b => eqv_of n a b) _ _ h1 h2)
      | (simp [D.shp] at h1 h2; done)
      | (simp only [D.toPy, PyData.eqv, D.eqv]; done)
theorem dp_dv {F : Hp} {κ : List Addr} {G : Hp} {M : DSt} {H : Hp} (S : Sm K F κ G M H) {u : V} {x : Dv} {d : D} (r : Rx K κ G u x) (h : dv M x = some d) {n : Nat} (hs : d.shp (n + 1) = true) : Dp K H u d.toPy := by
  cases x with
  | d y =>
    cases h
    exact dp_of S.ex _ _ _ r hs
  | c m =>
    obtain ⟨a, rfl, ha⟩ := r
    simp only [dv] at h
    cases e : (M[m]?).join with
    | none => rw [e] at h; cases h
    | some ds =>
      rw [e] at h
      cases h
      obtain ⟨xs, _, _, e3, e4⟩ := cell_at S e ha
      exact .lst (.of e3) (dp_all (fun d v => dp_of S.ex n d v) e4 hs)
  | r ys =>
    cases h
    obtain ⟨a, xs, rfl, q, p⟩ := r
    exact .lst (Evl.ex_l S.ex q) (dp_all (fun d v => dp_of S.ex n d v) p hs)
theorem sr_eq : SimR2 K (rEqD K) oEq := fun {F κ G M H Q x y z M' u v} S rx ry h k => by
  unfold oEq at h
  split at h
  · rename_i a b e1 e2
    obtain ⟨⟨h1, h2⟩, h⟩ := grd_some h
    cases h
    refine ⟨a.toPy, b.toPy, dp_dv S rx e1 h1, dp_dv S ry e2 h2, shaped_of h1 (by decide), shaped_of h2 (by decide), ?_⟩
    rw [eqv_of 9 a b h1 h2]
    exact k.here S (Rv.bl _)
  · cases h
theorem sr_ne : SimR2 K (rNeD K) oNe := fun {F κ G M H Q x y z M' u v} S rx ry h k => by
  unfold oNe at h
  split at h
  · rename_i a b e1 e2
    obtain ⟨⟨h1, h2⟩, h⟩ := grd_some h
    cases h
    refine ⟨a.toPy, b.toPy, dp_dv S rx e1 h1, dp_dv S ry e2 h2, shaped_of h1 (by decide), shaped_of h2 (by decide), ?_⟩
    rw [eqv_of 9 a b h1 h2]
    exact k.here S (Rv.bl _)
  · cases h
/-! ### is None, in -/
theorem isNon_of {κ : List Addr} {G : Hp} {u : V} {x : Dv} (r : Rx K κ G u x) : decide (u = .non) = isNon x := by
  cases x with
  | d y => cases r <;> simp [isNon]
  | c n => obtain ⟨a, rfl, _⟩ := r; simp [isNon]
  | r xs => obtain ⟨a, _, rfl, _⟩ := r; simp [isNon]
theorem sim_isN {ta : TE} {a : DE} (ha : SimE K ta a) : SimE K (tOp (fun x y H Q => y = .non ∧ Q (.bl (decide (x = .non))) H) ta (tC .non)) (e1 oIsN a) := ⟨fun {F κ G σ ρ M H Q z M'} S E h k => by
  unfold e1 at h
  split at h
  · rename_i x M1 e
    cases h
    refine ha.run S E e fun κ1 G1 u H1 l1 S1 r1 => ⟨rfl, ?_⟩
    rw [isNon_of r1]
    exact k κ1 G1 _ H1 l1 S1 (Rv.bl _)
  · cases h⟩
theorem sim_notN {ta : TE} {a : DE} (ha : SimE K ta a) : SimE K (tOp (fun x y H Q => y = .non ∧ Q (.bl (!decide (x = .non))) H) ta (tC .non)) (e1 oNotN a) := ⟨fun {F κ G σ ρ M H Q z M'} S E h k => by
  unfold e1 at h
  split at h
  · rename_i x M1 e
    cases h
    refine ha.run S E e fun κ1 G1 u H1 l1 S1 r1 => ⟨rfl, ?_⟩
    rw [isNon_of r1]
    exact k κ1 G1 _ H1 l1 S1 (Rv.bl _)
  · cases h⟩
theorem flat_of {G : Hp} {u : V} {x : D} (r : Rv K G u x) (h : x.flat = true) : flatV u = true := by
  cases r <;> first | rfl | cases h
theorem flats_of {G : Hp} : ∀ {us : List V} {xs : List D}, Rvs K G us xs → xs.all D.flat = true → us.all flatV = true
  | _, _, .nil, _ => rfl
  | _, _, .cons a r, h => by
    simp only [List.all_cons, Bool.and_eq_true] at h ⊢
    exact ⟨flat_of a h.1, flats_of r h.2⟩
theorem eqV_of {G : Hp} {u v : V} {x y : D} (r : Rv K G u x) (q : Rv K G v y) (h : x.flat = true) (h' : y.flat = true) : eqV u v = D.eqv x y := by
  cases r <;> first | (cases h; done) | (cases q <;> first | (cases h'; done) | rfl | simp only [eqV, D.eqv])
theorem inV_of {G : Hp} {v : V} {y : D} (q : Rv K G v y) (h' : y.flat = true) : ∀ {us : List V} {xs : List D}, Rvs K G us xs → xs.all D.flat = true → inV v us = xs.any fun b => D.eqv b y
  | _, _, .nil, _ => rfl
  | _, _, .cons a r, h => by
    simp only [List.all_cons, Bool.and_eq_true] at h
    have ih := inV_of q h' r h.2
    unfold inV at ih ⊢
    simp only [List.any_cons, eqV_of a q h.1 h', ih]
theorem sr_in (neg : Bool) : SimR2 K (rIn K neg) (oIn neg) := fun {F κ G M H Q x y z M' u v} S rx ry h k => by
  unfold oIn at h
  split at h
  · rename_i a ys e
    obtain ⟨⟨h1, h2⟩, h⟩ := grd_some h
    cases h
    obtain ⟨p, xs, rfl, hs, r⟩ := sv_at S ry e
    refine ⟨p, xs, rfl, hs, flat_of rx h1, flats_of r h2, ?_⟩
    rw [inV_of rx h1 r h2]
    refine k.here S ?_
    cases neg
    · rw [Bool.false_xor]; exact Rv.bl _
    · rw [Bool.true_xor]; exact Rv.bl _
  · cases h
/-! ### places and slices -/
theorem ixD_eq (n : Nat) (i : Int) : ixD n i = ixN n i := rfl
theorem sr_ix : SimR2 K (rIx K) oIx := fun {F κ G M H Q x y z M' u v} S rx ry h k => by
  unfold oIx at h
  split at h
  · rename_i xs i e
    split at h
    · rename_i j ej
      split at h
      · rename_i w ew
        cases h
        obtain ⟨p, us, rfl, hs, r⟩ := sv_at S rx e
        obtain ⟨w', hw, rw'⟩ := r.get ew
        have ha : atI us i = some w' := by
          unfold atI
          rw [r.length, ← ixD_eq, ej]
          exact hw
        rcases hs with hs | hs
        · exact .inl ⟨p, us, i, w', rfl, rx_int ry, hs, ha, k.here S rw'⟩
        · exact .inr (.inl ⟨p, us, i, w', rfl, rx_int ry, hs, ha, k.here S rw'⟩)
      · cases h
    · cases h
  · rename_i i e
    split at h
    · rename_i s
      obtain ⟨hp, h⟩ := grd_some h
      split at h
      · rename_i j ej
        split at h
        · rename_i w ew
          cases h
          refine .inr (.inr ⟨s, i, w, rx_str rx, rx_int ry, sz_big hp, ?_, k.here S (Rv.str _)⟩)
          unfold atI
          rw [← ixD_eq, ej]
          exact ew
        · cases h
      · cases h
    · cases h
  · cases h
theorem sIx_eq (n d : Nat) (o : Option Int) : sIxD n d o = HT.sIx n d o := by cases o <;> rfl
theorem Rvs.cut {G : Hp} {us : List V} {xs : List D} (r : Rvs K G us xs) (lo hi : Option Int) : Rvs K G (cutV us lo hi) (cutD xs lo hi) := by
  unfold cutV cutD
  rw [← r.length, sIx_eq, sIx_eq]
  exact (r.drop _).take _
structure SimO (K : PySem.W.Frag) (t : TO) (e : DO) : Prop where
  run : ∀ {F κ G σ ρ M H o M'} {Q : Option Int → Hp → Prop}, Sm K F κ G M H → Se K κ G σ ρ → e ρ M = some (o, M') → (∀ κ' G' H', Le κ G κ' G' → Sm K F κ' G' M' H' → Q o H') → t σ H Q
theorem sim_pn : SimO K tNoPart pNone := ⟨fun {F κ G σ ρ M H o M' Q} S E h k => by
  cases h
  exact k κ G H (Le.refl _ _) S⟩
theorem sim_ps {ta : TE} {a : DE} (ha : SimE K ta a) : SimO K (tPart ta) (pSome a) := ⟨fun {F κ G σ ρ M H o M' Q} S E h k => by
  unfold pSome at h
  split at h
  · rename_i i M1 e
    cases h
    exact ha.run S E e fun κ1 G1 u H1 l1 S1 r1 => ⟨i, rx_int r1, k κ1 G1 H1 l1 S1⟩
  · cases h⟩
def SimSl (K : PySem.W.Frag) (r : V → Option Int → Option Int → Hp → VK → Prop) (f : Dv → Option Int → Option Int → DSt → Option (Dv × DSt)) : Prop := ∀ {F κ G M H Q x lo hi z M' u}, Sm K F κ G M H → Rx K κ G u x → f x lo hi M = some (z, M') → PV K F κ G Q z M' → r u lo hi H Q
theorem sim_sl {r : V → Option Int → Option Int → Hp → VK → Prop} {f : Dv → Option Int → Option Int → DSt → Option (Dv × DSt)} {ta : TE} {a : DE} {tl th : TO} {lo hi : DO} (hr : SimSl K r f) (ha : SimE K ta a) (hl : SimO K tl lo) (hh : SimO K th hi) : SimE K (tSl r ta tl th) (eSl f a lo hi) := ⟨fun {F κ G σ ρ M H Q z M'} S E h k => by
  unfold eSl at h
  split at h
  · rename_i x M1 e
    split at h
    · rename_i l M2 e2
      split at h
      · rename_i hh' M3 e3
        refine ha.run S E e fun κ1 G1 u H1 l1 S1 r1 => hl.run S1 (E.mono l1) e2 fun κ2 G2 H2 l2 S2 => hh.run S2 ((E.mono l1).mono l2) e3 fun κ3 G3 H3 l3 S3 => ?_
        exact hr S3 ((r1.mono l2).mono l3) h (k.weak ((l1.trans l2).trans l3))
      · cases h
    · cases h
  · cases h⟩
theorem ss_list (c : Bool) : SimSl K (rSlL K) (slL c) := fun {F κ G M H Q x lo hi z M' u} S rx h k => by
  unfold slL at h
  split at h
  · rename_i xs e
    obtain ⟨a, us, rfl, hs, r⟩ := lv_at S rx e
    refine ⟨a, us, rfl, hs, fun p hp => ?_⟩
    obtain ⟨κ', G', l, S', r'⟩ := S.new hp (r.cut lo hi) h
    exact k κ' G' _ _ l S' r'
  · cases h
theorem cut_whole {xs : List D} {lo hi : Option Int} (h : HT.sIx xs.length 0 lo = 0 ∧ HT.sIx xs.length xs.length hi = xs.length) : cutD xs lo hi = xs := by
  unfold cutD
  rw [sIx_eq, sIx_eq, h.1, h.2]
  simp
theorem ss_tup : SimSl K (rSlA K) slT := fun {F κ G M H Q x lo hi z M' u} S rx h k => by
  unfold slT at h
  split at h
  · rename_i xs
    cases h
    cases rx with
    | tup hs r =>
      rename_i a us
      refine ⟨a, us, rfl, Evl.ex_t S.ex hs, fun w => ?_, fun _ p hp => ?_⟩
      · rw [r.length] at w
        have e := cut_whole w
        exact k.here S (by rw [e]; exact Rv.tup hs r)
      · have g := (S.fresh hp).1
        exact k κ (upd G p (.tup (cutV us lo hi))) _ _ (Le.newG g) (S.newG _ hp) (Rv.tup (.of upd_same) ((r.cut lo hi).mono (Ex.new g)))
  · cases h
/-! ### displays -/
theorem allD_of {κ : List Addr} {G : Hp} : ∀ {us : List V} {vs : List Dv} {xs : List D}, Rxs K κ G us vs → allD vs = some xs → Rvs K G us xs
  | _, _, _, .nil, h => by cases h; exact .nil
  | _, _, xs, .cons r rs, h => by
    rename_i u us v vs
    cases v with
    | d x =>
      simp only [allD] at h
      cases e : allD vs with
      | none => rw [e] at h; cases h
      | some ys =>
        rw [e] at h
        cases h
        exact .cons r (allD_of rs e)
    | c n => cases h
    | r n => cases h
theorem sim_tup {ta : TA} {a : DA} (ha : SimA K ta a) : SimE K (tTup ta) (eTup a) := ⟨fun {F κ G σ ρ M H Q z M'} S E h k => by
  unfold eTup eA at h
  split at h
  · rename_i vs M1 e
    dsimp only at h
    split at h
    · rename_i xs ex
      obtain ⟨hp, h⟩ := grd_some h
      cases h
      refine ha.run S E e fun κ1 G1 us H1 l1 S1 r1 => ?_
      have r := allD_of r1 ex
      refine ⟨sz_big (by rw [r.length]; exact hp), fun p hp => ?_⟩
      have g := (S1.fresh hp).1
      exact k κ1 (upd G1 p (.tup us)) _ _ (l1.trans (Le.newG g)) (S1.newG _ hp) (Rv.tup (.of upd_same) (r.mono (Ex.new g)))
    · cases h
  · cases h⟩
theorem sim_lst (c : Bool) {ta : TA} {a : DA} (ha : SimA K ta a) : SimE K (tLst ta) (eLst c a) := ⟨fun {F κ G σ ρ M H Q z M'} S E h k => by
  unfold eLst eA at h
  split at h
  · rename_i vs M1 e
    dsimp only at h
    split at h
    · rename_i xs ex
      obtain ⟨hp, h⟩ := grd_some h
      refine ha.run S E e fun κ1 G1 us H1 l1 S1 r1 => ?_
      have r := allD_of r1 ex
      refine ⟨sz_big (by rw [r.length]; exact hp), fun p hp => ?_⟩
      obtain ⟨κ', G', l, S', r'⟩ := S1.new hp r h
      exact k κ' G' _ _ (l1.trans l) S' r'
    · cases h
  · cases h⟩
/-- a list that was just made is data -/
theorem sim_frz {ta : TE} {a : DE} (ha : SimE K ta a) : SimE K ta (eFrz a) := ⟨fun {F κ G σ ρ M H Q z M'} S E h k => by
  unfold eFrz at h
  split at h
  · rename_i p e
    obtain ⟨v, M1⟩ := p
    unfold frz at h
    split at h
    · rename_i y M2 ep
      cases ep
      cases h
      exact ha.run S E e k
    · rename_i n M2 ep
      cases ep
      split at h
      · rename_i hn
        obtain ⟨h1, h2⟩ := hn
        split at h
        · rename_i xs ex
          cases h
          refine ha.run S E e fun κ1 G1 u H1 l1 S1 r1 => ?_
          obtain ⟨b, rfl, hb⟩ := r1
          obtain ⟨G2, l2, S2, r2⟩ := S1.freeze ex hb
          have S3 := S2.take M.length
          have e3 : (M1.set n none).take M.length = M1.take M.length := by
            rw [List.take_set_of_le (by omega)]
          rw [e3] at S3
          have e4 : κ1.take M.length = κ := by
            obtain ⟨t, rfl⟩ := l1.pre
            rw [← S.len, List.take_left]
          rw [e4] at S3
          exact k κ G2 _ H1 ⟨List.prefix_refl _, l1.ex.trans l2⟩ S3 r2
        · cases h
      · cases h
    · cases h
  · cases h⟩
theorem sim_frzC {ta : TE} {a : DE} (ha : SimE K ta a) : SimE K ta (eFrzC a) := ⟨fun {F κ G σ ρ M H Q z M'} S E h k => by
  unfold eFrzC at h
  split at h
  · rename_i n M1 e
    split at h
    · rename_i xs ex
      cases h
      refine ha.run S E e fun κ1 G1 u H1 l1 S1 r1 => ?_
      obtain ⟨b, rfl, hb⟩ := r1
      obtain ⟨G2, l2, S2, r2⟩ := S1.freeze ex hb
      exact k κ1 G2 _ H1 ⟨l1.pre, l1.ex.trans l2⟩ S2 r2
    · cases h
  · cases h⟩
end
end Rw
end PRwSimF
section PRwSimG
set_option Elab.async false
set_option linter.all false
set_option maxRecDepth 100000
set_option maxHeartbeats 2000000
namespace Rw
open PySem L2 PySem.Spec PyProof.Rows
open Evl (Ex)
section
variable {K : PySem.W.Frag}
/-! ### built-ins -/
theorem rxs1 {κ : List Addr} {G : Hp} {us : List V} {x : Dv} (r : Rxs K κ G us [x]) : ∃ u, us = [u] ∧ Rx K κ G u x := by
  cases r with
  | cons a r => cases r; exact ⟨_, rfl, a⟩
theorem rxs2 {κ : List Addr} {G : Hp} {us : List V} {x y : Dv} (r : Rxs K κ G us [x, y]) : ∃ u v, us = [u, v] ∧ Rx K κ G u x ∧ Rx K κ G v y := by
  cases r with
  | cons a r =>
    obtain ⟨v, rfl, b⟩ := rxs1 r
    exact ⟨_, v, rfl, a, b⟩
theorem rxs0 {κ : List Addr} {G : Hp} {us : List V} (r : Rxs K κ G us []) : us = [] := by cases r; rfl
def rAbs : List V → Hp → VK → Prop := fun xs H Q => ∃ i, xs = [.int i] ∧ Q (.int (if i < 0 then -i else i)) H
theorem sa_abs : SimRA K rAbs oAbs := fun {F κ G M H Q xs z M' us} S r h k => by
  unfold oAbs at h
  split at h
  · cases h
    obtain ⟨u, rfl, a⟩ := rxs1 r
    exact ⟨_, by rw [rx_int a], k.here S (Rv.int _)⟩
  · cases h
def rMax2 : List V → Hp → VK → Prop := fun xs H Q => ∃ i j, xs = [.int i, .int j] ∧ Q (.int (if j > i then j else i)) H
def rMin2 : List V → Hp → VK → Prop := fun xs H Q => ∃ i j, xs = [.int i, .int j] ∧ Q (.int (if j < i then j else i)) H
theorem sa_max2 : SimRA K rMax2 oMax2 := fun {F κ G M H Q xs z M' us} S r h k => by
  unfold oMax2 at h
  split at h
  · cases h
    obtain ⟨u, v, rfl, a, b⟩ := rxs2 r
    exact ⟨_, _, by rw [rx_int a, rx_int b], k.here S (Rv.int _)⟩
  · cases h
theorem sa_min2 : SimRA K rMin2 oMin2 := fun {F κ G M H Q xs z M' us} S r h k => by
  unfold oMin2 at h
  split at h
  · cases h
    obtain ⟨u, v, rfl, a, b⟩ := rxs2 r
    exact ⟨_, _, by rw [rx_int a, rx_int b], k.here S (Rv.int _)⟩
  · cases h
def rLen (K : PySem.W.Frag) : List V → Hp → VK → Prop := fun xs H Q => ∃ x n, xs = [x] ∧ LenV K x H n ∧ Q (.int n) H
theorem sa_len : SimRA K (rLen K) oLen := fun {F κ G M H Q xs z M' us} S r h k => by
  unfold oLen at h
  split at h
  · obtain ⟨hp, h⟩ := grd_some h
    cases h
    obtain ⟨u, rfl, a⟩ := rxs1 r
    obtain rfl := rx_str a
    exact ⟨_, _, rfl, ⟨sz_big hp, rfl⟩, k.here S (Rv.int _)⟩
  · split at h
    · rename_i xs e
      cases h
      obtain ⟨u, rfl, a⟩ := rxs1 r
      obtain ⟨p, vs, rfl, hs, rr⟩ := sv_at S a e
      refine ⟨_, vs.length, rfl, ?_, ?_⟩
      · rcases hs with hs | hs
        · exact .inl ⟨vs, hs, rfl⟩
        · exact .inr ⟨vs, hs, rfl⟩
      · rw [rr.length]
        exact k.here S (Rv.int _)
    · cases h
  · cases h
theorem sa_sum : SimRA K (rSum K) oSum := fun {F κ G M H Q xs z M' us} S r h k => by
  unfold oSum at h
  split at h
  · split at h
    · rename_i xs e
      split at h
      · rename_i ns en
        cases h
        obtain ⟨u, rfl, a⟩ := rxs1 r
        obtain ⟨p, vs, rfl, hs, rr⟩ := lv_at S a e
        rw [rr.ints_of en] at hs
        exact ⟨p, ns, rfl, hs, k.here S (Rv.int _)⟩
      · cases h
    · cases h
  · cases h
theorem sa_all : SimRA K (rAll K) oAll := fun {F κ G M H Q xs z M' us} S r h k => by
  unfold oAll at h
  split at h
  · split at h
    · rename_i xs e
      split at h
      · rename_i ns en
        cases h
        obtain ⟨u, rfl, a⟩ := rxs1 r
        obtain ⟨p, vs, rfl, hs, rr⟩ := lv_at S a e
        rw [rr.bls_of en] at hs
        exact ⟨p, ns, rfl, hs, k.here S (Rv.bl _)⟩
      · cases h
    · cases h
  · cases h
theorem sa_any : SimRA K (rAny K) oAny := fun {F κ G M H Q xs z M' us} S r h k => by
  unfold oAny at h
  split at h
  · split at h
    · rename_i xs e
      split at h
      · rename_i ns en
        cases h
        obtain ⟨u, rfl, a⟩ := rxs1 r
        obtain ⟨p, vs, rfl, hs, rr⟩ := lv_at S a e
        rw [rr.bls_of en] at hs
        exact ⟨p, ns, rfl, hs, k.here S (Rv.bl _)⟩
      · cases h
    · cases h
  · cases h
def rInt1 : List V → Hp → VK → Prop := fun xs H Q => (∃ i, xs = [.int i] ∧ Q (.int i) H) ∨ ∃ k, xs = [.bl k] ∧ Q (.int (if k then 1 else 0)) H
theorem sa_int : SimRA K rInt1 oInt := fun {F κ G M H Q xs z M' us} S r h k => by
  unfold oInt at h
  split at h
  · cases h
    obtain ⟨u, rfl, a⟩ := rxs1 r
    exact .inl ⟨_, by rw [rx_int a], k.here S (Rv.int _)⟩
  · cases h
    obtain ⟨u, rfl, a⟩ := rxs1 r
    exact .inr ⟨_, by rw [rx_bl a], k.here S (Rv.int _)⟩
  · cases h
def rListOf (K : PySem.W.Frag) : List V → Hp → VK → Prop := fun xs H Q => ∃ p ys, xs = [.ref p] ∧ (SqL K H p ys ∨ SqT K H p ys) ∧ ∀ l, H l = none → Q (.ref l) (upd H l (.lst ys))
theorem sa_list (c : Bool) : SimRA K (rListOf K) (oList c) := fun {F κ G M H Q xs z M' us} S r h k => by
  unfold oList at h
  split at h
  · split at h
    · rename_i xs e
      obtain ⟨u, rfl, a⟩ := rxs1 r
      obtain ⟨p, vs, rfl, hs, rr⟩ := sv_at S a e
      refine ⟨p, vs, rfl, hs, fun l hl => ?_⟩
      obtain ⟨κ', G', l', S', r'⟩ := S.new hl rr h
      exact k κ' G' _ _ l' S' r'
    · cases h
  · cases h
theorem rng_rvs {G : Hp} (a : Int) (n : Nat) : Rvs K G ((List.range n).map fun (i : Nat) => V.int (a + (i : Nat))) (rng a n) := by
  have h := Rvs.of_ints (K := K) (G := G) ((List.range n).map fun (i : Nat) => a + (i : Int))
  rw [List.map_map, List.map_map] at h
  exact h
theorem sim_listR1 (c : Bool) {ta : TE} {a : DE} (ha : SimE K ta a) : SimE K (tLstRg (tRg1 ta)) (eA (oListR1 c) (aCons a aNil)) := ⟨fun {F κ G σ ρ M H Q z M'} S E h k => by
  unfold eA aCons aNil at h
  cases e : a ρ M with
  | none => simp only [e] at h; cases h
  | some p =>
    obtain ⟨x, M1⟩ := p
    simp only [e] at h
    unfold oListR1 at h
    split at h
    · rename_i vs j ej
      cases ej
      obtain ⟨hp, h⟩ := grd_some h
      refine ha.run S E e fun κ1 G1 u H1 l1 S1 r1 => ⟨j, rx_int r1, ?_⟩
      refine ⟨⟨by omega, by omega, by omega, by omega, by omega⟩, fun q hq => ?_⟩
      have rr := rng_rvs (K := K) (G := G1) 0 j.toNat
      have e0 : rgV 0 j = (List.range j.toNat).map fun (i : Nat) => V.int (0 + (i : Nat)) := by unfold rgV; rw [Int.sub_zero]
      rw [e0]
      obtain ⟨κ', G', l', S', r'⟩ := S1.new hq rr h
      exact k κ' G' _ _ (l1.trans l') S' r'
    · cases h⟩
theorem sim_listR2 (c : Bool) {ta tb : TE} {a b : DE} (ha : SimE K ta a) (hb : SimE K tb b) : SimE K (tLstRg (tRg2 ta tb)) (eA (oListR2 c) (aCons a (aCons b aNil))) := ⟨fun {F κ G σ ρ M H Q z M'} S E h k => by
  simp only [eA, aCons, aNil] at h
  cases e : a ρ M with
  | none => simp only [e] at h; cases h
  | some p =>
    obtain ⟨x, M1⟩ := p
    simp only [e] at h
    cases e2 : b ρ M1 with
    | none => simp only [e2] at h; cases h
    | some p =>
      obtain ⟨y, M2⟩ := p
      simp only [e2] at h
      unfold oListR2 at h
      split at h
      · rename_i vs i j ej
        cases ej
        obtain ⟨hp, h⟩ := grd_some h
        refine ha.run S E e fun κ1 G1 u H1 l1 S1 r1 => hb.run S1 (E.mono l1) e2 fun κ2 G2 v H2 l2 S2 r2 => ⟨i, j, rx_int r1, rx_int r2, ?_⟩
        refine ⟨⟨by omega, by omega, by omega, by omega, by omega⟩, fun q hq => ?_⟩
        have rr := rng_rvs (K := K) (G := G2) i (j - i).toNat
        obtain ⟨κ', G', l', S', r'⟩ := S2.new hq rr h
        exact k κ' G' _ _ ((l1.trans l2).trans l') S' r'
      · cases h⟩
/-! ### isinstance, sorted, [::-1] -/
def okTy (T : String) : Bool := T == "bool" || T == "int" || T == "str" || T == "list" || T == "tuple"
theorem kit_names : ∀ t ∈ ["NoneType", "bool", "int", "str", "list", "tuple"], ∀ T ∈ ["bool", "int", "str", "list", "tuple"], kitB t T = some (subTy t T) := by decide +kernel
theorem tyx_of {F : Hp} {κ : List Addr} {G : Hp} {M : DSt} {H : Hp} (S : Sm K F κ G M H) {u : V} {x : Dv} {d : D} (r : Rx K κ G u x) (h : dv M x = some d) (hn : ∀ n, d ≠ .ty n) : TyX K H u (.type d.tyN) ∧ d.tyN ∈ ["NoneType", "bool", "int", "str", "list", "tuple"] := by
  cases x with
  | d y =>
    cases h
    cases r with
    | non => exact ⟨.base .non, by simp [D.tyN]⟩
    | bl b => exact ⟨.base (.bl b), by simp [D.tyN]⟩
    | int i => exact ⟨.base (.int i), by simp [D.tyN]⟩
    | str s => exact ⟨.base (.str s), by simp [D.tyN]⟩
    | ty n => exact absurd rfl (hn n)
    | lst h r => exact ⟨.base (.lst (S.ex _ _ h)), by simp [D.tyN]⟩
    | tup h r =>
      refine ⟨?_, by simp [D.tyN]⟩
      rcases h with (h | ⟨o, h⟩) | ⟨o, its, n, hk, hc, _⟩
      · exact .base (.tup (S.ex _ _ h))
      · exact .fTuple (S.ex _ _ h)
      · exact .kTuple hk hc
  | c m =>
    obtain ⟨a, rfl, ha⟩ := r
    simp only [dv] at h
    cases e : (M[m]?).join with
    | none => rw [e] at h; cases h
    | some ds =>
      rw [e] at h
      cases h
      obtain ⟨xs, _, _, e3, e4⟩ := cell_at S e ha
      exact ⟨.base (.lst e3), by simp [D.tyN]⟩
  | r ys =>
    cases h
    obtain ⟨a, xs, rfl, q, p⟩ := r
    refine ⟨?_, by simp [D.tyN]⟩
    rcases Evl.ex_l S.ex q with (h | ⟨o, h⟩) | ⟨o, its, n, hk, hc, _⟩
    · exact .base (.lst h)
    · exact .base (.frz h)
    · exact .kList hk hc
theorem sa_isi (T : String) (hT : T ∈ ["bool", "int", "str", "list", "tuple"]) : SimRA K (rIsi K) (oIsi T) := fun {F κ G M H Q xs z M' us} S r h k => by
  unfold oIsi at h
  split at h
  · rename_i vs v n
    split at h
    · rename_i en
      subst en
      split at h
      · cases h
      · rename_i x nt e
        cases h
        obtain ⟨u, c, rfl, a, b⟩ := rxs2 r
        cases b
        obtain ⟨t1, t2⟩ := tyx_of S a e nt
        exact ⟨u, .ty n, _, _, _, rfl, .ty n, t1, kit_ty (kit_names _ t2 n hT), k.here S (Rv.bl _)⟩
      · cases h
    · cases h
  · cases h
theorem sorted_one {ns ms : List Int} (h1 : ms.Perm ns) (h2 : ms.Pairwise (· ≤ ·)) : ms = ns.mergeSort (fun a b => decide (a ≤ b)) := by
  have h3 := List.pairwise_mergeSort (le := fun (a b : Int) => decide (a ≤ b)) (fun a b c => by simp; omega) (fun a b => by simp; omega) ns
  have h4 := List.mergeSort_perm ns (fun a b => decide (a ≤ b))
  refine List.Perm.eq_of_pairwise (le := fun (a b : Int) => a ≤ b) (fun a b _ _ h1 h2 => Int.le_antisymm h1 h2) h2 (h3.imp (by simp)) (h1.trans h4.symm)
theorem sa_sorted (c : Bool) : SimRA K (rSortedI K) (oSorted c) := fun {F κ G M H Q xs z M' us} S r h k => by
  unfold oSorted at h
  split at h
  · split at h
    · rename_i xs e
      split at h
      · rename_i ns en
        obtain ⟨u, rfl, a⟩ := rxs1 r
        obtain ⟨p, vs, rfl, hs, rr⟩ := lv_at S a e
        rw [rr.ints_of en] at hs
        refine ⟨p, ns, rfl, hs, fun ms q h1 h2 hq => ?_⟩
        rw [sorted_one h1 h2]
        obtain ⟨κ', G', l', S', r'⟩ := S.new hq (Rvs.of_ints _) h
        exact k κ' G' _ _ l' S' r'
      · cases h
    · cases h
  · cases h
theorem Rvs.reverse {G : Hp} : ∀ {us : List V} {xs : List D}, Rvs K G us xs → Rvs K G us.reverse xs.reverse
  | _, _, .nil => .nil
  | _, _, .cons h r => by
    rw [List.reverse_cons, List.reverse_cons]
    exact (Rvs.reverse r).append (.cons h .nil)
theorem sim_rev (c : Bool) {ta : TE} {a : DE} (ha : SimE K ta a) : SimE K (tRevL K ta) (e1 (oRev c) a) := ⟨fun {F κ G σ ρ M H Q z M'} S E h k => by
  unfold e1 at h
  split at h
  · rename_i x M1 e
    unfold oRev at h
    split at h
    · rename_i xs ex
      refine ha.run S E e fun κ1 G1 u H1 l1 S1 r1 => ?_
      obtain ⟨p, vs, rfl, hs, rr⟩ := lv_at S1 r1 ex
      refine ⟨p, vs, rfl, hs, fun q hq => ?_⟩
      obtain ⟨κ', G', l', S', r'⟩ := S1.new hq rr.reverse h
      exact k κ' G' _ _ (l1.trans l') S' r'
    · cases h
  · cases h⟩
/-! ### methods of lists -/
theorem sim_bm {r : V → List V → Hp → VK → Prop} {f : Dv → List Dv → DSt → Option (Dv × DSt)} {to : TE} {o : DE} {ta : TA} {a : DA} (hr : SimRM K "list" r f) (hl : ∀ v as M z, f v as M = some z → ∃ n, v = .c n) (ho : SimE K to o) (ha : SimA K ta a) : SimE K (tBM K "list" r to ta) (eM f o a) := ⟨fun {F κ G σ ρ M H Q z M'} S E h k => by
  unfold eM at h
  split at h
  · rename_i x M1 e
    split at h
    · rename_i xs M2 e2
      obtain ⟨n, rfl⟩ := hl _ _ _ _ h
      refine ho.run S E e fun κ1 G1 u H1 l1 S1 r1 => ⟨?_, ?_⟩
      · obtain ⟨b, rfl, hb⟩ := r1
        obtain ⟨q, hq⟩ := S1.th b (List.mem_of_getElem? hb)
        exact .inl ⟨rfl, q, .of hq⟩
      · exact ha.run S1 (E.mono l1) e2 fun κ2 G2 us H2 l2 S2 r2 => hr S2 (r1.mono l2) r2 h (k.weak (l1.trans l2))
    · cases h
  · cases h⟩
theorem sim_bm0 {r : V → List V → Hp → VK → Prop} {f : Dv → List Dv → DSt → Option (Dv × DSt)} {to : TE} {o : DE} (hr : SimRM K "list" r f) (hl : ∀ v as M z, f v as M = some z → ∃ n, v = .c n) (ho : SimE K to o) : SimE K (tBM0 K "list" r to) (eM f o aNil) := ⟨fun {F κ G σ ρ M H Q z M'} S E h k => by
  have h2 := (sim_bm hr hl ho (sim_nil (K := K))).run S E h k
  exact h2⟩
theorem sm_append : SimRM K "list" rAppend mAppend := fun {F κ G M H Q x xs z M' u us} S r rs h k => by
  unfold mAppend at h
  split at h
  · rename_i n y
    split at h
    · rename_i ys e
      obtain ⟨hp, h⟩ := grd_some h
      cases h
      obtain ⟨a, rfl, ha⟩ := r
      obtain ⟨v, rfl, rv⟩ := rxs1 rs
      obtain ⟨vs, _, _, e3, e4⟩ := cell_at S e ha
      refine ⟨a, vs, v, rfl, rfl, e3, sz_big1 (by rw [e4.length]; exact hp), ?_⟩
      exact k κ G _ _ (Le.refl _ _) (S.put e ha (e4.append (.cons rv .nil))) Rv.non
    · cases h
  · cases h
theorem lm_append : ∀ v as M z, mAppend v as M = some z → ∃ n, v = .c n := fun v as M z h => by
  unfold mAppend at h
  split at h
  · exact ⟨_, rfl⟩
  · cases h
theorem sm_clear : SimRM K "list" rClear mClear := fun {F κ G M H Q x xs z M' u us} S r rs h k => by
  unfold mClear at h
  split at h
  · rename_i n
    split at h
    · rename_i ys e
      cases h
      obtain ⟨a, rfl, ha⟩ := r
      obtain ⟨vs, _, _, e3, e4⟩ := cell_at S e ha
      refine ⟨a, vs, rfl, rxs0 rs, e3, ?_⟩
      exact k κ G _ _ (Le.refl _ _) (S.put e ha .nil) Rv.non
    · cases h
  · cases h
theorem lm_clear : ∀ v as M z, mClear v as M = some z → ∃ n, v = .c n := fun v as M z h => by
  unfold mClear at h
  split at h
  · exact ⟨_, rfl⟩
  · cases h
def rPops : V → List V → Hp → VK → Prop := fun x vs H Q => rPop x vs H Q ∨ rPopAt x vs H Q
theorem mt_pops {X : Cx} : MtM X "list.pop" rPops := fun pins s σ H x vs v us Q I rx rv h => by
  rcases h with h | h
  · exact mt_pop pins s σ H x vs v us Q I rx rv h
  · exact mt_popAt pins s σ H x vs v us Q I rx rv h
theorem sm_pop : SimRM K "list" rPops mPop := fun {F κ G M H Q x xs z M' u us} S r rs h k => by
  unfold mPop at h
  split at h
  · rename_i n
    split at h
    · rename_i ys e
      split at h
      · rename_i y ey
        cases h
        obtain ⟨a, rfl, ha⟩ := r
        obtain ⟨vs, _, _, e3, e4⟩ := cell_at S e ha
        obtain ⟨w, hw, rw'⟩ := e4.get ey
        refine .inl ⟨a, vs, w, rfl, rxs0 rs, e3, by rw [e4.length]; exact hw, ?_⟩
        exact k κ G _ _ (Le.refl _ _) (S.put e ha e4.dropLast) rw'
      · cases h
    · cases h
  · rename_i n i
    split at h
    · rename_i ys e
      split at h
      · rename_i j ej
        split at h
        · rename_i y ey
          obtain ⟨hi, h⟩ := grd_some h
          cases h
          obtain ⟨a, rfl, ha⟩ := r
          obtain ⟨v, rfl, rv⟩ := rxs1 rs
          obtain rfl := rx_int rv
          obtain ⟨vs, _, _, e3, e4⟩ := cell_at S e ha
          obtain ⟨w, hw, rw'⟩ := e4.get ey
          obtain ⟨q1, q2, q3, q4⟩ := ixN_seq ej
          refine .inr ⟨a, vs, i, j, w, rfl, rfl, e3, by omega, by omega, by rw [e4.length]; exact q1, hw, ?_⟩
          exact k κ G _ _ (Le.refl _ _) (S.put e ha (e4.eraseIdx j)) rw'
        · cases h
      · cases h
    · cases h
  · cases h
end
end Rw
end PRwSimG
section PRwSimS
set_option Elab.async false
set_option linter.all false
set_option maxRecDepth 100000
set_option maxHeartbeats 2000000
namespace Rw
open PySem L2 PySem.Spec PyProof.Rows
open Evl (Ex)
section
variable {K : PySem.W.Frag}
/-! ### targets -/
theorem wipe_get (σ : L2.St) : ∀ (vs : List Nat) (j : Nat), (L2.wipe σ vs)[j]? = if j ∈ vs then (σ[j]?).map fun _ => none else σ[j]?
  | [], j => by simp [L2.wipe]
  | v :: vs, j => by
    unfold L2.wipe
    by_cases hj : v = j
    · subst hj
      by_cases hl : v < σ.length
      · rw [List.getElem?_set_self (by rw [wipe_length]; exact hl), if_pos (by simp), List.getElem?_eq_getElem hl]
        rfl
      · rw [List.getElem?_eq_none (by rw [List.length_set, wipe_length]; omega), if_pos (by simp), List.getElem?_eq_none (by omega)]
        rfl
    · rw [List.getElem?_set_ne hj, wipe_get σ vs j]
      by_cases hm : j ∈ vs
      · rw [if_pos hm, if_pos (List.mem_cons_of_mem _ hm)]
      · rw [if_neg hm, if_neg (by simp only [List.mem_cons, not_or]; exact ⟨fun e => hj e.symm, hm⟩)]
theorem wipe_length_ite {o : Option (Option V)} {p : Prop} [Decidable p] : (if p then (if p then o.map fun _ => none else o).map fun _ => none else (if p then o.map fun _ => none else o)) = if p then o.map (fun _ => none) else o := by
  split <;> simp [Function.comp_def]
theorem wipe_set {σ : L2.St} {i : Nat} {o : Option V} {vs : List Nat} (h : i ∈ vs) : L2.wipe (σ.set i o) vs = L2.wipe σ vs := by
  apply List.ext_getElem?
  intro j
  rw [wipe_get, wipe_get]
  by_cases hj : j ∈ vs
  · rw [if_pos hj, if_pos hj]
    by_cases e : i = j
    · subst e
      by_cases hl : i < σ.length
      · rw [List.getElem?_set_self hl, List.getElem?_eq_getElem hl]
        rfl
      · rw [List.getElem?_eq_none (by simpa using hl), List.getElem?_eq_none (by simpa using hl)]
    · rw [List.getElem?_set_ne e]
  · rw [if_neg hj, if_neg hj, List.getElem?_set_ne (fun (e : i = j) => hj (e ▸ h))]

mutual
def Tgt.tg (K : PySem.W.Frag) : Tgt → TG
  | .name i => gName i
  | .tup ts => fun v σ H Q => gTup K ts.length (Tgt.tgs K ts) v σ H Q ∨ gUnl K ts.length (Tgt.tgs K ts) v σ H Q
def Tgt.tgs (K : PySem.W.Frag) : List Tgt → TGs
  | [] => gNil
  | t :: ts => gCons (t.tg K) (Tgt.tgs K ts)
end
mutual
theorem put_ok {F : Hp} {κ : List Addr} {G : Hp} {M : DSt} {H : Hp} (S : Sm K F κ G M H) : ∀ (t : Tgt) {u : V} {x : Dv} {σ : L2.St} {ρ ρ' : DEnv} {Q : L2.St → Hp → Prop}, Rx K κ G u x → Se K κ G σ ρ → t.put x ρ = some ρ' → (∀ σ', Se K κ G σ' ρ' → (∀ vs : List Nat, (∀ i ∈ t.slots, i ∈ vs) → L2.wipe σ' vs = L2.wipe σ vs) → Q σ' H) → t.tg K u σ H Q
  | .name i, u, x, σ, ρ, ρ', Q, r, E, h, k => by
    simp only [Tgt.put] at h
    cases h
    refine k _ (E.set r i) fun vs hv => ?_
    exact wipe_set (hv i (by simp [Tgt.slots]))
  | .tup ts, u, x, σ, ρ, ρ', Q, r, E, h, k => by
    cases x with
    | d y =>
      cases y with
      | tup xs =>
        simp only [Tgt.put] at h
        split at h
        · rename_i hl
          cases r with
          | tup hs rs =>
            rename_i a us
            exact .inl ⟨a, us, rfl, Evl.ex_t S.ex hs, by rw [rs.length]; exact hl, puts_ok S ts rs E h fun σ' E' w => k σ' E' fun vs hv => w vs (by simpa only [Tgt.slots] using hv)⟩
        · cases h
      | lst xs =>
        simp only [Tgt.put] at h
        split at h
        · rename_i hl
          cases r with
          | lst hs rs =>
            rename_i a us
            exact .inr ⟨a, us, rfl, .of (S.ex _ _ hs), by rw [rs.length]; exact hl, puts_ok S ts rs E h fun σ' E' w => k σ' E' fun vs hv => w vs (by simpa only [Tgt.slots] using hv)⟩
        · cases h
      | _ => simp [Tgt.put] at h
    | c n => simp [Tgt.put] at h
    | r n => simp [Tgt.put] at h
theorem puts_ok {F : Hp} {κ : List Addr} {G : Hp} {M : DSt} {H : Hp} (S : Sm K F κ G M H) : ∀ (ts : List Tgt) {us : List V} {xs : List D} {σ : L2.St} {ρ ρ' : DEnv} {Q : L2.St → Hp → Prop}, Rvs K G us xs → Se K κ G σ ρ → Tgt.puts ts xs ρ = some ρ' → (∀ σ', Se K κ G σ' ρ' → (∀ vs : List Nat, (∀ i ∈ Tgt.slotss ts, i ∈ vs) → L2.wipe σ' vs = L2.wipe σ vs) → Q σ' H) → Tgt.tgs K ts us σ H Q
  | [], _, _, σ, ρ, ρ', Q, .nil, E, h, k => by
    simp only [Tgt.puts] at h
    cases h
    exact ⟨rfl, k σ E fun _ _ => rfl⟩
  | [], _, _, σ, ρ, ρ', Q, .cons r rs, E, h, k => by simp [Tgt.puts] at h
  | t :: ts, _, _, σ, ρ, ρ', Q, .nil, E, h, k => by simp [Tgt.puts] at h
  | t :: ts, _, _, σ, ρ, ρ', Q, .cons r rs, E, h, k => by
    rename_i v vs d ds
    simp only [Tgt.puts] at h
    split at h
    · rename_i ρ1 e
      refine ⟨v, vs, rfl, put_ok S t (x := .d d) r E e fun σ1 E1 w1 => puts_ok S ts rs E1 h fun σ2 E2 w2 => k σ2 E2 fun ws hw => ?_⟩
      rw [w2 ws fun i hi => hw i (by simp only [Tgt.slotss]; exact List.mem_append_right _ hi), w1 ws fun i hi => hw i (by simp only [Tgt.slotss]; exact List.mem_append_left _ hi)]
    · cases h
end
/-! ### what is walked -/
structure SimI (K : PySem.W.Frag) (wi : TI) (it : DI) : Prop where
  run : ∀ {F κ G σ ρ M H xs src M'} {R : It → Hp → Prop}, Sm K F κ G M H → Se K κ G σ ρ → it ρ M = some (xs, src, M') →
    (∀ κ1 G1 H1 J (Gd : Hp → Prop) Y, Le κ G κ1 G1 → Sm K F κ1 G1 M' H1 → Walk J xs.length Gd Y →
      (∀ F2 κ2 G2 M2 H2, Le κ1 G1 κ2 G2 → Sm K F2 κ2 G2 M2 H2 → stand src M' M2 → Gd H2) →
      (∀ i F2 κ2 G2 M2 H2 x H3, i < xs.length → Le κ1 G1 κ2 G2 → Sm K F2 κ2 G2 M2 H2 → stand src M' M2 → Y i H2 x H3 → ∃ G3 d, Ex G2 G3 ∧ Sm K F2 κ2 G3 M2 H3 ∧ xs[i]? = some d ∧ Rv K G3 x d) → R J H1) → wi σ H R
/-- a value that is a list stands as long as its cell stands -/
theorem lv_stand {F2 : Hp} {κ κ2 : List Addr} {G G2 : Hp} {M M2 : DSt} {H2 : Hp} {x : Dv} {a : Addr} {xs : List D} (l : Le κ G κ2 G2) (S2 : Sm K F2 κ2 G2 M2 H2) (r : Rx K κ G (.ref a) x) (h : lv M x = some xs) (st : stand (cellsOf x) M M2) : ∃ us, SqL K H2 a us ∧ Rvs K G2 us xs := by
  have r2 := r.mono l
  have h2 : lv M2 x = some xs := by
    cases x with
    | d y => cases y <;> exact h
    | c n =>
      have e := st n (by simp [cellsOf])
      simp only [lv] at h ⊢
      rw [e]
      exact h
    | r ys => exact h
  obtain ⟨b, us, e, q, p⟩ := lv_at S2 r2 h2
  cases e
  exact ⟨us, q, p⟩
theorem sim_iL {ta : TE} {a : DE} (ha : SimE K ta a) : SimI K (iList K ta) (iL a) := ⟨fun {F κ G σ ρ M H xs src M' R} S E h k => by
  unfold iL at h
  split at h
  · rename_i x M1 e
    split at h
    · rename_i ys ey
      cases h
      refine ha.run S E e fun κ1 G1 u H1 l1 S1 r1 => ?_
      obtain ⟨b, us, rfl, q, p⟩ := lv_at S1 r1 ey
      refine ⟨b, rfl, ⟨us, q⟩, ?_⟩
      refine k κ1 G1 H1 (Itl K b) (fun H => ∃ us G, SqL K H b us ∧ Rvs K G us xs) (fun i H x H' => H' = H ∧ ∀ us, SqL K H b us → us[i]? = some x) l1 S1 ⟨fun i H hi ⟨us, G, q, p⟩ => ?_, fun H ⟨us, G, q, p⟩ => ⟨us, q, by rw [p.length]; exact Nat.le_refl _⟩, fun i H x H' hi _ y => y⟩ (fun F2 κ2 G2 M2 H2 l2 S2 st => ?_) fun i F2 κ2 G2 M2 H2 x H3 hi l2 S2 st y => ?_
      · have hl : i < us.length := by rw [p.length]; exact hi
        exact ⟨us, us[i], q, by simp [hl]⟩
      · obtain ⟨us2, q2, p2⟩ := lv_stand l2 S2 r1 ey st
        exact ⟨us2, G2, q2, p2⟩
      · obtain ⟨us2, q2, p2⟩ := lv_stand l2 S2 r1 ey st
        obtain ⟨rfl, y⟩ := y
        obtain ⟨d, hd, rd⟩ := p2.get' (y us2 q2)
        exact ⟨G2, d, Ex.refl _, S2, hd, rd⟩
    · cases h
  · cases h⟩
theorem sim_iT {ta : TE} {a : DE} (ha : SimE K ta a) : SimI K (iTup K ta) (iT a) := ⟨fun {F κ G σ ρ M H xs src M' R} S E h k => by
  unfold iT at h
  split at h
  · rename_i ys M1 e
    cases h
    refine ha.run S E e fun κ1 G1 u H1 l1 S1 r1 => ?_
    cases r1 with
    | tup hs rs =>
      rename_i b us
      refine ⟨b, rfl, ⟨us, Evl.ex_t S1.ex hs⟩, ?_⟩
      refine k κ1 G1 H1 (Itt K b) (fun H => SqT K H b us) (YAt us) l1 S1 ?_ (fun F2 κ2 G2 M2 H2 l2 S2 st => ?_) fun i F2 κ2 G2 M2 H2 x H3 hi l2 S2 st y => ?_
      · rw [← rs.length]
        exact walk_tup
      · exact Evl.ex_t S2.ex (Evl.ex_t l2.ex hs)
      · obtain ⟨rfl, y⟩ := y
        obtain ⟨d, hd, rd⟩ := (rs.mono l2.ex).get' y
        exact ⟨G2, d, Ex.refl _, S2, hd, rd⟩
  · cases h⟩
theorem rng_length (a : Int) (n : Nat) : (rng a n).length = n := by unfold rng; simp
theorem rng_get {a : Int} {n i : Nat} (h : i < n) : (rng a n)[i]? = some (.int (a + (i : Int))) := by unfold rng; simp [h]
theorem sim_iR1 {ta : TA} {a : DA} (ha : SimA K ta a) : SimI K (iRng1 ta) (iR1 a) := ⟨fun {F κ G σ ρ M H xs src M' R} S E h k => by
  unfold iR1 at h
  split at h
  · rename_i j M1 e
    obtain ⟨hp, h⟩ := grd_some h
    cases h
    refine ha.run S E e fun κ1 G1 us H1 l1 S1 r1 => ?_
    obtain ⟨u, rfl, ru⟩ := rxs1 r1
    obtain rfl := rx_int ru
    refine ⟨j, rfl, hp.1, hp.2, ?_⟩
    refine k κ1 G1 H1 (Itr 0 j.toNat) (fun _ => True) (YFn fun i => .int (0 + (i : Nat))) l1 S1 (by rw [rng_length]; exact walk_range) (fun _ _ _ _ _ _ _ _ => trivial) fun i F2 κ2 G2 M2 H2 x H3 hi l2 S2 st y => ?_
    obtain ⟨rfl, rfl⟩ := y
    rw [rng_length] at hi
    exact ⟨G2, _, Ex.refl _, S2, rng_get hi, .int _⟩
  · cases h⟩
theorem sim_iR2 {ta : TA} {a : DA} (ha : SimA K ta a) : SimI K (iRng2 ta) (iR2 a) := ⟨fun {F κ G σ ρ M H xs src M' R} S E h k => by
  unfold iR2 at h
  split at h
  · rename_i lo j M1 e
    obtain ⟨hp, h⟩ := grd_some h
    cases h
    refine ha.run S E e fun κ1 G1 us H1 l1 S1 r1 => ?_
    obtain ⟨u, v, rfl, ru, rv⟩ := rxs2 r1
    obtain rfl := rx_int ru
    obtain rfl := rx_int rv
    refine ⟨lo, j, rfl, hp, ?_⟩
    refine k κ1 G1 H1 (Itr lo (j - lo).toNat) (fun _ => True) (YFn fun i => .int (lo + (i : Nat))) l1 S1 (by rw [rng_length]; exact walk_range) (fun _ _ _ _ _ _ _ _ => trivial) fun i F2 κ2 G2 M2 H2 x H3 hi l2 S2 st y => ?_
    obtain ⟨rfl, rfl⟩ := y
    rw [rng_length] at hi
    exact ⟨G2, _, Ex.refl _, S2, rng_get hi, .int _⟩
  · cases h⟩
/-- a new pair -/
theorem pair_new {F2 : Hp} {κ2 : List Addr} {G2 : Hp} {M2 : DSt} {H2 : Hp} {T : Addr} {x y : V} {d e : D} (S2 : Sm K F2 κ2 G2 M2 H2) (hT : H2 T = none) (r1 : Rv K G2 x d) (r2 : Rv K G2 y e) : Ex G2 (upd G2 T (.tup [x, y])) ∧ Sm K F2 κ2 (upd G2 T (.tup [x, y])) M2 (upd H2 T (.tup [x, y])) ∧ Rv K (upd G2 T (.tup [x, y])) (.ref T) (.tup [d, e]) := by
  have g := (S2.fresh hT).1
  exact ⟨Ex.new g, S2.newG _ hT, .tup (.of upd_same) (.cons (r1.mono (Ex.new g)) (.cons (r2.mono (Ex.new g)) .nil))⟩
theorem enumD_length : ∀ (k : Nat) (xs : List D), (enumD k xs).length = xs.length
  | _, [] => rfl
  | k, x :: xs => by simp [enumD, enumD_length (k + 1) xs]
theorem enumD_get : ∀ (k : Nat) (xs : List D) (i : Nat) (d : D), xs[i]? = some d → (enumD k xs)[i]? = some (.tup [.int ((k + i : Nat) : Int), d])
  | _, [], _, _, h => by simp at h
  | k, x :: xs, 0, d, h => by simp at h; subst h; simp [enumD]
  | k, x :: xs, i + 1, d, h => by
    have := enumD_get (k + 1) xs i d (by simpa using h)
    simp only [enumD, List.getElem?_cons_succ, this]
    congr 4
    omega
theorem sim_iEn {ta : TA} {a : DA} (ha : SimA K ta a) : SimI K (iEnum K ta) (iEn a) := ⟨fun {F κ G σ ρ M H xs src M' R} S E h k => by
  unfold iEn at h
  split at h
  · rename_i x M1 e
    split at h
    · rename_i ys ey
      cases h
      refine ha.run S E e fun κ1 G1 us H1 l1 S1 rs => ?_
      obtain ⟨u, rfl, r1⟩ := rxs1 rs
      obtain ⟨b, us, rfl, q, p⟩ := lv_at S1 r1 ey
      refine ⟨b, us, rfl, q, ?_⟩
      refine k κ1 G1 H1 (Ite K b) (fun H => ∃ us G, SqL K H b us ∧ Rvs K G us ys) (fun i H v H' => ∃ T x, v = .ref T ∧ H T = none ∧ H' = upd H T (.tup [.int (i : Nat), x]) ∧ ∀ us, SqL K H b us → us[i]? = some x) l1 S1 ⟨fun i H hi ⟨us, G, q, p⟩ => ?_, fun H ⟨us, G, q, p⟩ => ⟨us, q, by rw [p.length, enumD_length]; exact Nat.le_refl _⟩, fun i H x H' hi _ y => y⟩ (fun F2 κ2 G2 M2 H2 l2 S2 st => ?_) fun i F2 κ2 G2 M2 H2 x H3 hi l2 S2 st y => ?_
      · have hl : i < us.length := by rw [p.length]; rw [enumD_length] at hi; exact hi
        exact ⟨us, us[i], q, by simp [hl]⟩
      · obtain ⟨us2, q2, p2⟩ := lv_stand l2 S2 r1 ey st
        exact ⟨us2, G2, q2, p2⟩
      · obtain ⟨us2, q2, p2⟩ := lv_stand l2 S2 r1 ey st
        obtain ⟨T, w, rfl, hT, rfl, y⟩ := y
        obtain ⟨d, hd, rd⟩ := p2.get' (y us2 q2)
        obtain ⟨e1, e2, e3⟩ := pair_new S2 hT (Rv.int ((i : Nat) : Int)) rd
        refine ⟨_, _, e1, e2, enumD_get 0 ys i d hd, ?_⟩
        rw [Nat.zero_add]
        exact e3
    · cases h
  · cases h⟩
theorem zipD_length : ∀ (xs ys : List D), (zipD xs ys).length = min xs.length ys.length
  | [], _ => by simp [zipD]
  | _ :: _, [] => by simp [zipD]
  | x :: xs, y :: ys => by simp only [zipD, List.length_cons, zipD_length xs ys]; omega
theorem zipD_get : ∀ (xs ys : List D) (i : Nat) (d e : D), xs[i]? = some d → ys[i]? = some e → (zipD xs ys)[i]? = some (.tup [d, e])
  | [], _, _, _, _, h, _ => by simp at h
  | _ :: _, [], _, _, _, _, h => by simp at h
  | x :: xs, y :: ys, 0, d, e, h, h' => by simp at h h'; subst h; subst h'; simp [zipD]
  | x :: xs, y :: ys, i + 1, d, e, h, h' => by
    simp only [zipD, List.getElem?_cons_succ]
    exact zipD_get xs ys i d e (by simpa using h) (by simpa using h')
theorem sim_iZ {ta : TA} {a : DA} (ha : SimA K ta a) : SimI K (iZip K ta) (iZ a) := ⟨fun {F κ G σ ρ M H xs src M' R} S E h k => by
  unfold iZ at h
  split at h
  · rename_i x z M1 e
    split at h
    · rename_i ys zs ey ez
      cases h
      refine ha.run S E e fun κ1 G1 us H1 l1 S1 rs => ?_
      obtain ⟨u, v, rfl, r1, r2⟩ := rxs2 rs
      obtain ⟨b, us, rfl, q, p⟩ := lv_at S1 r1 ey
      obtain ⟨c, vs, rfl, q', p'⟩ := lv_at S1 r2 ez
      refine ⟨b, c, us, vs, rfl, q, q', ?_⟩
      have stL : ∀ {M2 : DSt}, stand (cellsOf x ++ cellsOf z) M' M2 → stand (cellsOf x) M' M2 := fun st n hn => st n (List.mem_append_left _ hn)
      have stR : ∀ {M2 : DSt}, stand (cellsOf x ++ cellsOf z) M' M2 → stand (cellsOf z) M' M2 := fun st n hn => st n (List.mem_append_right _ hn)
      refine k κ1 G1 H1 (Itz K b c) (fun H => ∃ us vs G, SqL K H b us ∧ SqL K H c vs ∧ Rvs K G us ys ∧ Rvs K G vs zs) (fun i H v H' => ∃ T x y, v = .ref T ∧ H T = none ∧ H' = upd H T (.tup [x, y]) ∧ (∀ us, SqL K H b us → us[i]? = some x) ∧ ∀ vs, SqL K H c vs → vs[i]? = some y) l1 S1 ⟨fun i H hi ⟨us, vs, G, q, q', p, p'⟩ => ?_, fun H ⟨us, vs, G, q, q', p, p'⟩ => ⟨us, vs, q, q', by rw [p.length, p'.length, zipD_length]; omega⟩, fun i H x H' hi _ y => y⟩ (fun F2 κ2 G2 M2 H2 l2 S2 st => ?_) fun i F2 κ2 G2 M2 H2 x H3 hi l2 S2 st y => ?_
      · rw [zipD_length] at hi
        have hl : i < us.length := by rw [p.length]; omega
        have hl' : i < vs.length := by rw [p'.length]; omega
        exact ⟨us, vs, us[i], vs[i], q, q', by simp [hl], by simp [hl']⟩
      · obtain ⟨us2, q2, p2⟩ := lv_stand l2 S2 r1 ey (stL st)
        obtain ⟨vs2, q3, p3⟩ := lv_stand l2 S2 r2 ez (stR st)
        exact ⟨us2, vs2, G2, q2, q3, p2, p3⟩
      · obtain ⟨us2, q2, p2⟩ := lv_stand l2 S2 r1 ey (stL st)
        obtain ⟨vs2, q3, p3⟩ := lv_stand l2 S2 r2 ez (stR st)
        obtain ⟨T, w, w', rfl, hT, rfl, y, y'⟩ := y
        obtain ⟨d, hd, rd⟩ := p2.get' (y us2 q2)
        obtain ⟨d', hd', rd'⟩ := p3.get' (y' vs2 q3)
        obtain ⟨e1, e2, e3⟩ := pair_new S2 hT rd rd'
        exact ⟨_, _, e1, e2, zipD_get ys zs i d d' hd hd', e3⟩
    · cases h
  · cases h⟩
/-! ### comprehensions -/
/-- the loop of a comprehension, from its reading -/
theorem compL_run {tg : Tgt} {t : DT} {el : DE} {tt : TT} {te : TE} {src : List Nat} {own : List Nat} {xs : List D} {F : Hp} {σ : L2.St} {ρ : DEnv} {κ1 : List Addr} {G1 : Hp} {M' : DSt} {H1 : Hp} {Dl : Addr} {J : It} {Gd : Hp → Prop} {Y : Nat → Hp → V → Hp → Prop} {Q : VK} {c : Bool} {z : Dv} {ys : List D} {M2 Mz : DSt}
    (ht : SimT K tt t) (he : SimE K te el) (hown : ∀ i ∈ tg.slots, i ∈ own) (E : Se K κ1 G1 σ ρ) (S1 : Sm K F κ1 G1 M' H1) (W : Walk J xs.length Gd Y)
    (hG : ∀ F2 κ2 G2 M2 H2, Le κ1 G1 κ2 G2 → Sm K F2 κ2 G2 M2 H2 → stand src M' M2 → Gd H2)
    (hY : ∀ i F2 κ2 G2 M2 H2 x H3, i < xs.length → Le κ1 G1 κ2 G2 → Sm K F2 κ2 G2 M2 H2 → stand src M' M2 → Y i H2 x H3 → ∃ G3 d, Ex G2 G3 ∧ Sm K F2 κ2 G3 M2 H3 ∧ xs[i]? = some d ∧ Rv K G3 x d)
    (hD : H1 Dl = none) (hl : compL (stand src M') (compStep tg t el (wipeD ρ own)) xs M' = some (ys, M2)) (hz : xs.length ≤ big) (hm : mkL c ys M2 = some (z, Mz)) (k : PV K F κ1 G1 Q z Mz) :
    ∃ W : Nat → Nat → Hp → Prop, (∃ m, W 0 m (upd H1 Dl (.lst []))) ∧ ∀ i m H, W i m H →
      (J.stop i H ∧ Q (.ref Dl) H) ∨ (J.go i H ∧ ∃ Nx : Hp → Prop, (∀ H', Nx H' → ∃ m', m' < m ∧ W (i + 1) m' H') ∧ ∀ x H', J.yld i H x H' → tg.tg K x (L2.wipe σ own) H' fun σ2 H2 => L2.wipe σ2 own = L2.wipe σ own ∧ tt σ2 H2 fun b H3 =>
        if b = true then te σ2 H3 fun y H4 => ∃ acc, H4 Dl = some (.lst acc) ∧ acc.length < sizeLine ∧ Nx (upd H4 Dl (.lst (acc ++ [y]))) else Nx H3) := by
  have f0 := S1.fresh hD
  refine lc_it W (fun i H => ∃ κ2 G2 M3 acc as zs, Le κ1 G1 κ2 G2 ∧ Sm K (upd F Dl (.lst acc)) κ2 G2 M3 H ∧ Rvs K G2 acc as ∧ acc.length ≤ i ∧ i ≤ xs.length ∧ compL (stand src M') (compStep tg t el (wipeD ρ own)) (xs.drop i) M3 = some (zs, M2) ∧ ys = as ++ zs) ?_ ?_ ?_ ?_
  · exact ⟨κ1, G1, M', [], [], ys, Le.refl _ _, S1.frame hD [], .nil, Nat.zero_le _, Nat.zero_le _, hl, rfl⟩
  · rintro i H hi ⟨κ2, G2, M3, acc, as, zs, l2, S2, ra, la, _, h2, e2⟩
    refine hG _ κ2 G2 M3 H l2 S2 ?_
    cases hx : xs.drop i with
    | nil => rw [hx] at h2; unfold compL at h2; exact (grd_some h2).1
    | cons y r => rw [hx] at h2; unfold compL at h2; exact (grd_some h2).1
  · rintro i x H H' hi ⟨κ2, G2, M3, acc, as, zs, l2, S2, ra, la, _, h2, e2⟩ hy
    have hx : xs.drop i = xs[i] :: xs.drop (i + 1) := List.drop_eq_getElem_cons hi
    rw [hx] at h2
    unfold compL at h2
    obtain ⟨st, h2⟩ := grd_some h2
    obtain ⟨G3, d, x3, S3, ed, rd⟩ := hY i _ κ2 G2 M3 H x H' hi l2 S2 st hy
    have ed2 : xs[i] = d := by
      rw [List.getElem?_eq_getElem hi] at ed
      exact Option.some.inj ed
    rw [ed2] at h2
    have l3 : Le κ1 G1 κ2 G3 := l2.trans ⟨List.prefix_refl _, x3⟩
    cases es : compStep tg t el (wipeD ρ own) d M3 with
    | none => simp only [es] at h2; cases h2
    | some q =>
      obtain ⟨o, M5⟩ := q
      simp only [es] at h2
      cases ec : compL (stand src M') (compStep tg t el (wipeD ρ own)) (xs.drop (i + 1)) M5 with
      | none => simp only [ec] at h2; cases h2
      | some q =>
        obtain ⟨zs', M6⟩ := q
        simp only [ec] at h2
        unfold compStep at es
        cases ep : tg.put (.d d) (wipeD ρ own) with
        | none => simp only [ep] at es; cases es
        | some ρ1 =>
          simp only [ep] at es
          refine put_ok S3 tg (x := .d d) rd ((E.mono l3).wipe2 own) ep fun σ2 E2 w2 => ⟨?_, ?_⟩
          · rw [w2 own hown]
            apply List.ext_getElem?
            intro j
            rw [wipe_get, wipe_get, wipe_length_ite]
          · cases et : t ρ1 M3 with
            | none => simp only [et] at es; cases es
            | some p =>
              obtain ⟨b, M4⟩ := p
              simp only [et] at es
              refine ht.run S3 E2 et fun κ4 G4 H4 l4 S4 => ?_
              cases b with
              | false =>
                simp only at es
                cases es
                cases h2
                rw [if_neg Bool.false_ne_true]
                exact ⟨κ4, G4, _, acc, as, _, l3.trans l4, S4, (ra.mono x3).mono l4.ex, by omega, by omega, ec, e2⟩
              | true =>
                simp only at es
                rw [if_pos rfl]
                cases ee : el ρ1 M4 with
                | none => simp only [ee] at es; cases es
                | some q =>
                  obtain ⟨v, M7⟩ := q
                  simp only [ee] at es
                  cases v with
                  | c n => simp only at es; cases es
                  | r n => simp only at es; cases es
                  | d y =>
                    simp only at es
                    cases es
                    cases h2
                    refine he.run S4 (E2.mono l4) ee fun κ5 G5 u H5 l5 S5 r5 => ?_
                    have ra5 : Rvs K G5 acc as := ((ra.mono x3).mono l4.ex).mono l5.ex
                    refine ⟨acc, S5.fx Dl _ upd_same, sz_big1 (by omega), κ5, G5, _, acc ++ [u], as ++ [y], zs', (l3.trans l4).trans l5, S5.grow _, ra5.append (.cons r5 .nil), by simp; omega, by omega, ec, ?_⟩
                    rw [e2]
                    simp
  · rintro H ⟨κ2, G2, M3, acc, as, zs, l2, S2, ra, la, _, h2, e2⟩
    rw [List.drop_length] at h2
    unfold compL at h2
    obtain ⟨st, h2⟩ := grd_some h2
    cases h2
    rw [List.append_nil] at e2
    subst e2
    obtain ⟨κ', G', l', S', r'⟩ := S2.made f0.2.1 ra hm
    exact k κ' G' _ _ (l2.trans l') S' r'
theorem sim_lc {c : Bool} {wi : TI} {it : DI} {tg : Tgt} {tt : TT} {t : DT} {te : TE} {el : DE} {own : List Nat} (hi : SimI K wi it) (ht : SimT K tt t) (he : SimE K te el) (hown : ∀ i ∈ tg.slots, i ∈ own) : SimE K (tLc wi (tg.tg K) tt te own) (eComp c it tg t el own) := ⟨fun {F κ G σ ρ M H Q z Mz} S E h k => by
  unfold eComp at h
  split at h
  · rename_i xs src M' e
    obtain ⟨hz, h⟩ := grd_some h
    split at h
    · rename_i ys M2 hl
      refine hi.run S E e fun κ1 G1 H1 J Gd Y l1 S1 W hG hY => fun Dl hD => ?_
      exact compL_run ht he hown (E.mono l1) S1 W hG hY hD hl hz h (k.weak l1)
    · cases h
  · cases h⟩
end
end Rw
end PRwSimS
section PRwSimD
set_option Elab.async false
set_option linter.all false
set_option maxRecDepth 100000
set_option maxHeartbeats 2000000
namespace Rw
open PySem L2 PySem.Spec PyProof.Rows
open Evl (Ex)
/-- behind a statement -/
def PO' (K : PySem.W.Frag) (F : Hp) (κ : List Addr) (G : Hp) (D : Ends) : Out → Prop
  | .nx ρ M => ∀ κ' G' σ' H', Le κ G κ' G' → Sm K F κ' G' M H' → Se K κ' G' σ' ρ → D.nx σ' H'
  | .rt v M => ∀ κ' G' u H', Le κ G κ' G' → Sm K F κ' G' M H' → Rx K κ' G' u v → D.rt u H'
  | .bk ρ M => ∀ κ' G' σ' H', Le κ G κ' G' → Sm K F κ' G' M H' → Se K κ' G' σ' ρ → D.bk σ' H'
  | .ct ρ M => ∀ κ' G' σ' H', Le κ G κ' G' → Sm K F κ' G' M H' → Se K κ' G' σ' ρ → D.ct σ' H'
structure SimS (K : PySem.W.Frag) (t : TS) (s : DS) : Prop where
  run : ∀ {F κ G σ ρ M H D o}, Sm K F κ G M H → Se K κ G σ ρ → s ρ M = some o → PO' K F κ G D o → t D σ H
section
variable {K : PySem.W.Frag}
theorem PO'.weak {F : Hp} {κ κ1 : List Addr} {G G1 : Hp} {D : Ends} {o : Out} (l : Le κ G κ1 G1) (k : PO' K F κ G D o) : PO' K F κ1 G1 D o := by
  cases o <;> exact fun κ' G' u H' l' S r => k κ' G' u H' (l.trans l') S r
theorem ss_pass : SimS K tNext dPass := ⟨fun {F κ G σ ρ M H D o} S E h k => by
  cases h
  exact k κ G σ H (Le.refl _ _) S E⟩
theorem ss_seq {t u : TS} {a b : DS} (ha : SimS K t a) (hb : SimS K u b) : SimS K (tSeq t u) (dSeq a b) := ⟨fun {F κ G σ ρ M H D o} S E h k => by
  unfold dSeq at h
  split at h
  · rename_i ρ1 M1 e
    exact ha.run (D := { D with nx := u D }) S E e fun κ1 G1 σ1 H1 l1 S1 E1 => hb.run S1 E1 h (k.weak l1)
  · rename_i q e
    refine ha.run (D := { D with nx := u D }) S E h ?_
    cases o with
    | nx ρ1 M1 => exact absurd h (e ρ1 M1)
    | rt v M1 => exact k
    | bk ρ1 M1 => exact k
    | ct ρ1 M1 => exact k⟩
theorem ss_asg {te : TE} {a : DE} {tg : Tgt} (ha : SimE K te a) : SimS K (tAsg te (tg.tg K)) (dAsg tg a) := ⟨fun {F κ G σ ρ M H D o} S E h k => by
  unfold dAsg at h
  split at h
  · rename_i v M1 e
    split at h
    · rename_i ρ1 e2
      cases h
      exact ha.run S E e fun κ1 G1 u H1 l1 S1 r1 => put_ok S1 tg r1 (E.mono l1) e2 fun σ2 E2 _ => k κ1 G1 σ2 H1 l1 S1 E2
    · cases h
  · cases h⟩
theorem ss_par {ta tb : TE} {a b : DE} {i j : Nat} (ha : SimE K ta a) (hb : SimE K tb b) : SimS K (tPar i j (tCons ta (tCons tb tNil))) (dPar i j a b) := ⟨fun {F κ G σ ρ M H D o} S E h k => by
  unfold dPar at h
  split at h
  · rename_i x M1 e
    split at h
    · rename_i y M2 e2
      cases h
      refine ha.run S E e fun κ1 G1 u H1 l1 S1 r1 => hb.run S1 (E.mono l1) e2 fun κ2 G2 v H2 l2 S2 r2 => ⟨u, v, rfl, ?_⟩
      exact k κ2 G2 _ H2 (l1.trans l2) S2 ((((E.mono l1).mono l2).set (r1.mono l2) i).set r2 j)
    · cases h
  · cases h⟩
/-- in place -/
def SimIp (K : PySem.W.Frag) (r : TIp) (f : O2) : Prop := ∀ {F κ G M H Q x y z M' u v}, Sm K F κ G M H → Rx K κ G u x → Rx K κ G v y → f x y M = some (z, M') → PV K F κ G Q z M' → r u v H Q
theorem ip_addI : SimIp K (ipI fun i j => i + j) (oI fun i j => .int (i + j)) := fun {F κ G M H Q x y z M' u v} S rx ry h k => by
  unfold oI at h
  split at h
  · cases h
    exact ⟨_, _, rx_int rx, rx_int ry, k.here S (Rv.int _)⟩
  · cases h
theorem ip_subI : SimIp K (ipI fun i j => i - j) (oI fun i j => .int (i - j)) := fun {F κ G M H Q x y z M' u v} S rx ry h k => by
  unfold oI at h
  split at h
  · cases h
    exact ⟨_, _, rx_int rx, rx_int ry, k.here S (Rv.int _)⟩
  · cases h
theorem ss_aug {te : TE} {a : DE} {i : Nat} {r : TIp} {f : O2} (hr : SimIp K r f) (ha : SimE K te a) : SimS K (tAug i te r) (dAug i f a) := ⟨fun {F κ G σ ρ M H D o} S E h k => by
  unfold dAug at h
  split at h
  · rename_i x ex
    split at h
    · rename_i y M1 e
      split at h
      · rename_i z M2 e2
        cases h
        obtain ⟨u, hu, ru⟩ := E.at_ i x ex
        refine ⟨u, hu, ha.run S E e fun κ1 G1 v H1 l1 S1 r1 => hr S1 (ru.mono l1) r1 e2 fun κ2 G2 w H2 l2 S2 r2 => ?_⟩
        exact k κ2 G2 _ H2 (l1.trans l2) S2 (((E.mono l1).mono l2).set r2 i)
      · cases h
    · cases h
  · cases h⟩
theorem ss_put {to ti te : TE} {o i e : DE} (ho : SimE K to o) (hi : SimE K ti i) (he : SimE K te e) : SimS K (tAsg te (gSub to ti rSetL)) (dPut o i e) := ⟨fun {F κ G σ ρ M H D oo} S E h k => by
  unfold dPut at h
  split at h
  · rename_i x M1 e1
    split at h
    · rename_i n M2 e2
      split at h
      · rename_i kk M3 e3
        split at h
        · rename_i xs ex
          split at h
          · rename_i j ej
            cases h
            refine he.run S E e1 fun κ1 G1 u H1 l1 S1 r1 => ho.run S1 (E.mono l1) e2 fun κ2 G2 v H2 l2 S2 r2 => hi.run S2 ((E.mono l1).mono l2) e3 fun κ3 G3 w H3 l3 S3 r3 => ?_
            obtain ⟨a, rfl, ha⟩ := r2.mono l3
            obtain ⟨us, _, _, q3, q4⟩ := cell_at S3 ex ha
            refine ⟨a, us, kk, j, rfl, rx_int r3, q3, by rw [q4.length, ← ixD_eq]; exact ej, ?_⟩
            exact k κ3 G3 σ _ ((l1.trans l2).trans l3) (S3.put ex ha (q4.set ((Rv.mono l2.ex r1).mono l3.ex) j)) (((E.mono l1).mono l2).mono l3)
          · cases h
        · cases h
      · cases h
    · cases h
  · cases h⟩
theorem ss_expr {te : TE} {a : DE} (ha : SimE K te a) : SimS K (tDrop te) (dExpr a) := ⟨fun {F κ G σ ρ M H D o} S E h k => by
  unfold dExpr at h
  split at h
  · rename_i v M1 e
    cases h
    exact ha.run S E e fun κ1 G1 u H1 l1 S1 r1 => k κ1 G1 σ H1 l1 S1 (E.mono l1)
  · cases h⟩
theorem ss_ret {te : TE} {a : DE} (ha : SimE K te a) : SimS K (tRet te) (dRet a) := ⟨fun {F κ G σ ρ M H D o} S E h k => by
  unfold dRet at h
  split at h
  · rename_i v M1 e
    cases h
    exact ha.run S E e k
  · cases h⟩
theorem ss_retN : SimS K tRetN dRetN := ⟨fun {F κ G σ ρ M H D o} S E h k => by
  cases h
  exact k κ G _ H (Le.refl _ _) S Rv.non⟩
theorem ss_if {tc : TT} {c : DT} {t u : TS} {a b : DS} (hc : SimT K tc c) (ha : SimS K t a) (hb : SimS K u b) : SimS K (tIfS tc t u) (dIf c a b) := ⟨fun {F κ G σ ρ M H D o} S E h k => by
  unfold dIf at h
  split at h
  · rename_i M1 e
    refine hc.run S E e fun κ1 G1 H1 l1 S1 => ?_
    show (if true = true then _ else _)
    rw [if_pos rfl]
    exact ha.run S1 (E.mono l1) h (k.weak l1)
  · rename_i M1 e
    refine hc.run S E e fun κ1 G1 H1 l1 S1 => ?_
    show (if false = true then _ else _)
    rw [if_neg Bool.false_ne_true]
    exact hb.run S1 (E.mono l1) h (k.weak l1)
  · cases h⟩
theorem ss_break : SimS K tBreak dBreak := ⟨fun {F κ G σ ρ M H D o} S E h k => by
  cases h
  exact k κ G σ H (Le.refl _ _) S E⟩
theorem ss_cont : SimS K tCont dCont := ⟨fun {F κ G σ ρ M H D o} S E h k => by
  cases h
  exact k κ G σ H (Le.refl _ _) S E⟩
theorem ss_never : SimS K tNever dNever := ⟨fun {F κ G σ ρ M H D o} S E h k => by cases h⟩
/-- slots forgotten -/
theorem ss_wipe {t : TS} {a : DS} (vs : List Nat) (ha : SimS K t a) : SimS K t (dWipe vs a) := ⟨fun {F κ G σ ρ M H D o} S E h k => by
  unfold dWipe at h
  split at h
  · rename_i q e
    cases h
    refine ha.run S E e ?_
    cases q with
    | nx ρ1 M1 => exact fun κ' G' σ' H' l S' E' => k κ' G' σ' H' l S' (E'.wipe vs)
    | bk ρ1 M1 => exact fun κ' G' σ' H' l S' E' => k κ' G' σ' H' l S' (E'.wipe vs)
    | ct ρ1 M1 => exact fun κ' G' σ' H' l S' E' => k κ' G' σ' H' l S' (E'.wipe vs)
    | rt v M1 => exact k
  · cases h⟩
theorem ss_for {wi : TI} {it : DI} {tg : Tgt} {tb : TS} {s : DS} (hi : SimI K wi it) (hs : SimS K tb s) : SimS K (tFor wi (tg.tg K) tb) (dFor it tg s) := ⟨fun {F κ G σ ρ M H D o} S E h k => by
  unfold dFor at h
  split at h
  · rename_i xs src M' e
    refine hi.run S E e fun κ1 G1 H1 J Gd Y l1 S1 W hG hY => ?_
    refine for_it W (fun i σ H => ∃ κ2 G2 ρ2 M3, Le κ1 G1 κ2 G2 ∧ Sm K F κ2 G2 M3 H ∧ Se K κ2 G2 σ ρ2 ∧ i ≤ xs.length ∧ forL (stand src M') (forStep tg s) (xs.drop i) ρ2 M3 = some o) ?_ ?_ ?_ ?_
    · exact ⟨κ1, G1, ρ, M', Le.refl _ _, S1, E.mono l1, Nat.zero_le _, h⟩
    · rintro i σ H hi ⟨κ2, G2, ρ2, M3, l2, S2, E2, _, h2⟩
      refine hG F κ2 G2 M3 H l2 S2 ?_
      cases hx : xs.drop i with
      | nil => rw [hx] at h2; unfold forL at h2; exact (grd_some h2).1
      | cons y r => rw [hx] at h2; unfold forL at h2; exact (grd_some h2).1
    · rintro i x σ H H' hi ⟨κ2, G2, ρ2, M3, l2, S2, E2, _, h2⟩ hy
      have hx : xs.drop i = xs[i] :: xs.drop (i + 1) := List.drop_eq_getElem_cons hi
      rw [hx] at h2
      unfold forL at h2
      obtain ⟨st, h2⟩ := grd_some h2
      obtain ⟨G3, d, x3, S3, ed, rd⟩ := hY i F κ2 G2 M3 H x H' hi l2 S2 st hy
      have ed2 : xs[i] = d := by
        rw [List.getElem?_eq_getElem hi] at ed
        exact Option.some.inj ed
      rw [ed2] at h2
      have l3 : Le κ1 G1 κ2 G3 := l2.trans ⟨List.prefix_refl _, x3⟩
      cases es : forStep tg s d ρ2 M3 with
      | none => simp only [es] at h2; cases h2
      | some q =>
        simp only [es] at h2
        unfold forStep at es
        cases ep : tg.put (.d d) ρ2 with
        | none => simp only [ep] at es; cases es
        | some ρ1 =>
          simp only [ep] at es
          refine put_ok S3 tg (x := .d d) rd (E2.mono ⟨List.prefix_refl _, x3⟩) ep fun σ2 E3 _ => hs.run S3 E3 es ?_
          cases q with
          | nx ρ4 M4 => exact fun κ' G' σ' H' l S' E' => ⟨κ', G', ρ4, M4, l3.trans l, S', E', by omega, h2⟩
          | ct ρ4 M4 => exact fun κ' G' σ' H' l S' E' => ⟨κ', G', ρ4, M4, l3.trans l, S', E', by omega, h2⟩
          | bk ρ4 M4 =>
            cases h2
            exact fun κ' G' σ' H' l S' E' => k κ' G' σ' H' ((l1.trans l3).trans l) S' E'
          | rt v M4 =>
            cases h2
            exact fun κ' G' u H' l S' r => k κ' G' u H' ((l1.trans l3).trans l) S' r
    · rintro σ H ⟨κ2, G2, ρ2, M3, l2, S2, E2, _, h2⟩
      rw [List.drop_length] at h2
      unfold forL at h2
      obtain ⟨st, h2⟩ := grd_some h2
      cases h2
      exact k κ2 G2 σ H (l1.trans l2) S2 E2
  · cases h⟩
theorem ss_while {tc : TT} {c : DT} {tb : TS} {s : DS} (hc : SimT K tc c) (hs : SimS K tb s) : SimS K (tWhile tc tb) (dWhile c s) := ⟨fun {F κ G σ ρ M H D o} S E h k => by
  obtain ⟨n, hn⟩ := dWhile_some h
  refine ⟨fun m σ H => ∃ κ2 G2 ρ2 M2, Le κ G κ2 G2 ∧ Sm K F κ2 G2 M2 H ∧ Se K κ2 G2 σ ρ2 ∧ whileL c s m ρ2 M2 = some o, ⟨n, κ, G, ρ, M, Le.refl _ _, S, E, hn⟩, ?_⟩
  rintro m σ H ⟨κ2, G2, ρ2, M2, l2, S2, E2, h2⟩
  cases m with
  | zero => cases h2
  | succ m =>
    unfold whileL at h2
    cases ec : c ρ2 M2 with
    | none => simp only [ec] at h2; cases h2
    | some p =>
      obtain ⟨b, M3⟩ := p
      simp only [ec] at h2
      refine hc.run S2 E2 ec fun κ3 G3 H3 l3 S3 => ?_
      cases b with
      | false =>
        rw [if_neg Bool.false_ne_true]
        simp only at h2
        cases h2
        exact k κ3 G3 σ H3 (l2.trans l3) S3 (E2.mono l3)
      | true =>
        rw [if_pos rfl]
        simp only at h2
        cases es : s ρ2 M3 with
        | none => simp only [es] at h2; cases h2
        | some q =>
          simp only [es] at h2
          refine ⟨fun σ' H' => ∃ κ4 G4 ρ4 M4, Le κ G κ4 G4 ∧ Sm K F κ4 G4 M4 H' ∧ Se K κ4 G4 σ' ρ4 ∧ whileL c s m ρ4 M4 = some o, fun σ' H' w => ⟨m, Nat.lt_succ_self _, w⟩, hs.run S3 (E2.mono l3) es ?_⟩
          cases q with
          | nx ρ4 M4 => exact fun κ' G' σ' H' l S' E' => ⟨κ', G', ρ4, M4, (l2.trans l3).trans l, S', E', h2⟩
          | ct ρ4 M4 => exact fun κ' G' σ' H' l S' E' => ⟨κ', G', ρ4, M4, (l2.trans l3).trans l, S', E', h2⟩
          | bk ρ4 M4 =>
            cases h2
            exact fun κ' G' σ' H' l S' E' => k κ' G' σ' H' ((l2.trans l3).trans l) S' E'
          | rt v M4 =>
            cases h2
            exact fun κ' G' u H' l S' r => k κ' G' u H' ((l2.trans l3).trans l) S' r⟩

/-! ### defs -/
/-- a def's promise: it does as f -/
def spD (K : PySem.W.Frag) (f : DF) (n : Nat) : Sp := fun vs H Q _ => ∃ F κ G M as v M', Sm K F κ G M H ∧ Rxs K κ G vs as ∧ as.length = n ∧ f as M = some (v, M') ∧ PV K F κ G Q v M'
theorem sim_call {f : DF} {n : Nat} {t : TA} {as : DA} {E : XK} (ha : SimA K t as) (hn : ∀ ρ M vs M', as ρ M = some (vs, M') → vs.length = n) : SimE K (tCall (spD K f n) [] E t) (eCall f as) := ⟨fun {F κ G σ ρ M H Q z M'} S E h k => by
  unfold eCall eA at h
  split at h
  · rename_i xs M1 e
    refine ha.run S E e fun κ1 G1 us H1 l1 S1 r1 => ?_
    rw [List.append_nil]
    exact ⟨F, κ1, G1, M1, xs, z, M', S1, r1, hn _ _ _ _ e, h, k.weak l1⟩
  · cases h⟩
theorem al_nil : ∀ ρ M vs M', aNil ρ M = some (vs, M') → vs.length = 0 := fun ρ M vs M' h => by cases h; rfl
theorem al_cons {a : DE} {as : DA} {n : Nat} (h : ∀ ρ M vs M', as ρ M = some (vs, M') → vs.length = n) : ∀ ρ M vs M', aCons a as ρ M = some (vs, M') → vs.length = n + 1 := fun ρ M vs M' e => by
  unfold aCons at e
  split at e
  · split at e
    · rename_i xs M2 e2
      cases e
      simp [h _ _ _ _ e2]
    · cases e
  · cases e
theorem start_se {κ : List Addr} {G : Hp} {N : List Str} : ∀ {vs : List V} {as : List Dv}, Rxs K κ G vs as → Se K κ G (start N vs) (startD N.length as) := fun {vs as} r => by
  refine ⟨by simp [L2.start, startD, r.length], fun i x e => ?_⟩
  unfold startD at e
  by_cases hi : i < as.length
  · rw [List.getElem?_append_left (by simpa using hi)] at e
    rw [List.getElem?_map] at e
    cases ea : as[i]? with
    | none => rw [ea] at e; cases e
    | some y =>
      rw [ea] at e
      cases e
      have : ∀ {vs : List V} {as : List Dv} {i : Nat} {y : Dv}, Rxs K κ G vs as → as[i]? = some y → ∃ v, vs[i]? = some v ∧ Rx K κ G v y := by
        intro vs as i y r h
        induction r generalizing i with
        | nil => simp at h
        | cons a r ih =>
          cases i with
          | zero => simp at h; subst h; exact ⟨_, rfl, a⟩
          | succ i =>
            obtain ⟨v, h1, h2⟩ := ih (i := i) (by simpa using h)
            exact ⟨v, by simpa using h1, h2⟩
      obtain ⟨v, hv, rv⟩ := this r ea
      refine ⟨v, ?_, rv⟩
      unfold L2.start
      rw [List.getElem?_append_left (by simpa [r.length] using hi), List.getElem?_map, hv]
      rfl
  · rw [List.getElem?_append_right (by simpa using hi), List.getElem?_replicate] at e
    split at e <;> cases e
/-- behind a def -/
theorem fin_ok {F : Hp} {κ κ' : List Addr} {G G' : Hp} {M M1 M' : DSt} {H' : Hp} {Q : VK} {v z : Dv} {u : V} (hl : κ.length = M.length) (l : Le κ G κ' G') (S : Sm K F κ' G' M1 H') (r : Rx K κ' G' u v) (h : fin M.length v M1 = some (z, M')) (k : PV K F κ G Q z M') : Q u H' := by
  have e4 : κ'.take M.length = κ := by
    obtain ⟨t, rfl⟩ := l.pre
    rw [← hl, List.take_left]
  have S2 := S.take M.length
  rw [e4] at S2
  have l2 : Le κ G κ G' := ⟨List.prefix_refl _, l.ex⟩
  unfold fin at h
  split at h
  · rename_i n
    obtain ⟨a, rfl, ha⟩ := r
    split at h
    · rename_i hn
      cases h
      refine k κ G' _ H' l2 S2 ⟨a, rfl, ?_⟩
      rw [← e4, List.getElem?_take, if_pos hn]
      exact ha
    · rename_i hn
      split at h
      · rename_i xs ex
        cases h
        obtain ⟨us, q1, q2, q3, q4⟩ := cell_at S ex ha
        have na : a ∉ κ := fun hm => by
          obtain ⟨j, hj, ej⟩ := List.getElem_of_mem hm
          obtain ⟨l1, g1⟩ := List.getElem?_eq_some_iff.mp ha
          have h2 : κ'[j]? = some a := l.at_ (by rw [List.getElem?_eq_getElem hj, ej])
          obtain ⟨l3, g3⟩ := List.getElem?_eq_some_iff.mp h2
          have := (List.getElem_inj S.nd).mp (g1.trans g3.symm)
          omega
        refine k (κ ++ [a]) G' _ H' ⟨List.prefix_append _ _, l.ex⟩ ⟨S2.ex, S2.fx, S2.dj, fun b hb => ?_, by simp [S2.len], ?_, fun b hb => ?_, fun m es e => ?_⟩ ⟨a, rfl, ?_⟩
        · rcases List.mem_append.mp hb with hb | hb
          · exact S2.fk b hb
          · simp at hb
            subst hb
            exact q2
        · rw [List.nodup_append]
          exact ⟨S2.nd, by simp, fun b hb c hc e => by simp at hc; subst hc; subst e; exact na hb⟩
        · rcases List.mem_append.mp hb with hb | hb
          · exact S2.th b hb
          · simp at hb
            subst hb
            exact ⟨_, q3⟩
        · have hlen := S2.len
          by_cases hm : m < (M1.take M.length).length
          · rw [List.getElem?_append_left hm] at e
            obtain ⟨b, ys, e1, e2⟩ := S2.cel m es e
            exact ⟨b, ys, by rw [List.getElem?_append_left (by rw [hlen]; exact hm)]; exact e1, e2⟩
          · rw [List.getElem?_append_right (by omega)] at e
            have hn2 : m - (M1.take M.length).length = 0 := by
              cases q : m - (M1.take M.length).length with
              | zero => rfl
              | succ k => rw [q] at e; simp at e
            rw [hn2] at e
            simp only [List.getElem?_cons_zero] at e
            cases e
            refine ⟨a, us, ?_, q1, q3, q4⟩
            rw [List.getElem?_append_right (by rw [hlen]; omega), hlen, hn2]
            rfl
        · rw [List.getElem?_append_right (by rw [hl]; exact Nat.le_refl _), hl, Nat.sub_self]
          rfl
      · cases h
  · rename_i hnc
    cases h
    refine k κ G' u H' l2 S2 ?_
    cases v with
    | d x => exact r
    | c n => exact absurd rfl (hnc n)
    | r xs => exact r

/-! ### the judgements over syntax -/
structure PD (X : Cx) (e : Expr) (d : DE) : Prop where
  ex : ∃ t, PE X e t ∧ SimE X.K t d
structure PDT (X : Cx) (e : Expr) (d : DT) : Prop where
  ex : ∃ t, PT X e t ∧ SimT X.K t d
structure PDW (X : Cx) (e : Expr) (d : DT) : Prop where
  ex : ∃ t, PW X e t ∧ SimT X.K t d
structure PDA (X : Cx) (es : List Expr) (d : DA) (n : Nat) : Prop where
  ex : ∃ t, PA X es t ∧ SimA X.K t d
  len : ∀ ρ M vs M', d ρ M = some (vs, M') → vs.length = n
structure PDI (X : Cx) (tg it : Expr) (d : DI) : Prop where
  ex : ∃ t, PI X tg it t ∧ SimI X.K t d
structure PDS (X : Cx) (s : Stmt) (d : DS) : Prop where
  ex : ∃ t, PS X s t ∧ SimS X.K t d
structure PDB (X : Cx) (s : List Stmt) (d : DS) : Prop where
  ex : ∃ t, PSs X s t ∧ SimS X.K t d
structure PDG (X : Cx) (e : Expr) (t : Tgt) : Prop where
  ex : PG X e (t.tg X.K)
structure PDGs (X : Cx) (es : List Expr) (ts : List Tgt) : Prop where
  ex : PGs X es (Tgt.tgs X.K ts)
structure PDO (X : Cx) (e : Option Expr) (d : DO) : Prop where
  ex : ∃ t, PO X e t ∧ SimO X.K t d
end
/-- THE RULE for a def that raises nothing -/
theorem fn_ok {P : Program} {w : World} {K : PySem.W.Frag} {mg : Str → Option Value} {base : Heap} {x qual : Str} {st : Stmt} {f : Addr} {fd : FuncData} {N ps : List Str} {k : Nat} {ds : DS} (F : Fun K x qual st f fd) (S : FnScope N ps (defScope st))
    (hb : ∀ (cdv : Value) (A : Around) (outer : List Env) (s : Shared) (H : Hp) (E : XK), Room k (A.deeper (envOfC qual (defScope st) s.heap.objs.size f cdv)) → PDB (cxOf CX0 P w K mg base N qual (defScope st) f cdv A outer s H E).nox (defBody st) ds) :
    FnOk P w K mg base CX0 (k + 1) f fd ps (spD K (fnD N.length ds) ps.length) := by
  refine F.ok S (fun vs H Q E h => ?_) (fun cdv A outer s H vs Q E hr h => ?_)
  · obtain ⟨F', κ, G, M, as, v, M', _, r, hl, _⟩ := h
    rw [r.length, hl]
  · obtain ⟨F', κ, G, M, as, v, M', S0, r, hl, hf, k0⟩ := h
    obtain ⟨t, ht, hs⟩ := (hb cdv A outer s H E hr).ex
    refine ⟨t, ht, ?_⟩
    unfold fnD at hf
    split at hf
    · rename_i v1 M1 e
      exact hs.run S0 (start_se r) e fun κ' G' u H' l S' r' => fin_ok S0.len l S' r' hf k0
    · rename_i ρ1 M1 e
      exact hs.run S0 (start_se r) e fun κ' G' σ' H' l S' E' => fin_ok S0.len l S' (show Rx K κ' G' V.non (.d .non) from Rv.non) hf k0
    · cases hf
end Rw
end PRwSimD
section PRwRules
set_option Elab.async false
set_option linter.all false
set_option maxRecDepth 100000
set_option maxHeartbeats 2000000
/-! RwRules: one rule a construct: syntax to the pure reading. -/
namespace Rw
open PySem L2 PySem.Spec PyProof.Rows
section
variable {X : Cx} {a b c e : Expr} {pos : Pos} {da db dc de : DE} {ta tb : DT}
/-! ### expressions -/
theorem d_var (i : Nat) {x : Str} (hN : X.N[i]? = some x := by rfl) (hv : Vis X.env.scope x := by first | exact Or.inl rfl | exact Or.inr (Or.inl rfl) | exact Or.inr (Or.inr rfl)) (hd : (x == ("__debug__" : Str)) = false := by decide)
    (hcd : (x == ("__classdict__" : Str)) = false := by decide) : PD X (.Name x pos) (eVar i) := ⟨_, pe_var hN hv hd hcd, sim_var i⟩
theorem d_int {i : Int} {j} : PD X (.Constant (.int i) j pos) (eC (.int i)) := ⟨_, pe_int, sim_c fun _ => .int i⟩
theorem d_bl {b : Bool} {j} : PD X (.Constant (.bool b) j pos) (eC (.bl b)) := ⟨_, pe_bl, sim_c fun _ => .bl b⟩
theorem d_non {j} : PD X (.Constant .none j pos) (eC .non) := ⟨_, pe_non, sim_c fun _ => .non⟩
theorem d_str {x : Str} {j} : PD X (.Constant (.str x) j pos) (eC (.str x)) := ⟨_, pe_str, sim_c fun _ => .str x⟩
/-- a module's constant -/
theorem d_glob {x : Str} {v : V} {d : D} {u : Value} (hg : Gl X x) (hm : X.mg x = some u) (r : RelV v u) (hd : ∀ G, Rv X.K G v d) (hx : (x == ("__debug__" : Str)) = false := by decide) : PD X (.Name x pos) (eC d) := ⟨_, pe_glob hg hm r hx, sim_c hd⟩
/-- a built-in class as a value -/
theorem d_ty {x : Str} {n : String} (hg : Gl X x) (hm : X.mg x = none) (hv : bootBuiltins x = some (.type n)) (hn : x ≠ "__name__" := by decide) (hd : (x == ("__debug__" : Str)) = false := by decide) : PD X (.Name x pos) (eC (.ty n)) := ⟨_, pe_bltn (v := .ty n) hg hm hv rfl hn hd, sim_c fun _ => .ty n⟩
theorem d_op {op : Operator} {r : R2} {f : O2} (ho : OpR X (binaryOp op) r) (hs : SimR2 X.K r f) (ha : PD X a da) (hb : PD X b db) : PD X (.BinOp a op b pos) (e2 f da db) := by
  obtain ⟨t, h1, h2⟩ := ha.ex
  obtain ⟨u, h3, h4⟩ := hb.ex
  exact ⟨_, pe_op ho h1 h3, sim_op hs h2 h4⟩
theorem d_add (c : Bool) (ha : PD X a da) (hb : PD X b db) : PD X (.BinOp a .Add b pos) (e2 (oAdd c) da db) := d_op op_add3 (sr_add c) ha hb
theorem d_sub (ha : PD X a da) (hb : PD X b db) : PD X (.BinOp a .Sub b pos) (e2 oSub da db) := d_op op_sub sr_sub ha hb
theorem d_mul (ha : PD X a da) (hb : PD X b db) : PD X (.BinOp a .Mult b pos) (e2 oMul da db) := d_op op_mulR sr_mul ha hb
theorem d_rep (c : Bool) (ha : PD X a da) (hb : PD X b db) : PD X (.BinOp a .Mult b pos) (e2 (oRep c) da db) := d_op op_rep (sr_rep c) ha hb
theorem d_div (ha : PD X a da) (hb : PD X b db) : PD X (.BinOp a .FloorDiv b pos) (e2 oDiv da db) := d_op op_fdivR sr_div ha hb
theorem d_mod (ha : PD X a da) (hb : PD X b db) : PD X (.BinOp a .Mod b pos) (e2 oMod da db) := d_op op_modN sr_mod ha hb
theorem d_pow (ha : PD X a da) (hb : PD X b db) : PD X (.BinOp a .Pow b pos) (e2 oPow da db) := d_op op_pow sr_pow ha hb
theorem d_neg (ha : PD X a da) : PD X (.UnaryOp .USub a pos) (e1 oNeg da) := by
  obtain ⟨t, h1, h2⟩ := ha.ex
  exact ⟨_, pe_un un_neg h1, sim_un sr_neg h2⟩
/-! comparisons -/
structure CmpR (X : Cx) (op : CmpOp) (f : O2) : Prop where
  ex : ∃ r, OpR X (compareOp op) r ∧ SimR2 X.K r f
theorem k_lt : CmpR X .Lt oLt := ⟨_, op_lt, sr_lt⟩
theorem k_le : CmpR X .LtE oLe := ⟨_, op_le, sr_le⟩
theorem k_gt : CmpR X .Gt oGt := ⟨_, op_gt, sr_gt⟩
theorem k_ge : CmpR X .GtE oGe := ⟨_, op_ge, sr_ge⟩
theorem k_eq {k : Nat} (hr : Room k X.A) : CmpR X .Eq oEq := ⟨_, op_eqD hr.units, sr_eq⟩
theorem k_ne {k : Nat} (hr : Room k X.A) : CmpR X .NotEq oNe := ⟨_, op_neD hr.units, sr_ne⟩
theorem k_in : CmpR X .In (oIn false) := ⟨_, op_in_seq, sr_in false⟩
theorem k_notin : CmpR X .NotIn (oIn true) := ⟨_, op_notIn_seq, sr_in true⟩
theorem d_cmp {op : CmpOp} {f : O2} (hc : CmpR X op f) (ha : PD X a da) (hb : PD X b db) (hm : behindInMarks op b = false := by first | exact nomark _ (by decide) (by decide) | rfl) : PD X (.Compare a [op] [b] pos) (e2 f da db) := by
  obtain ⟨r, h0, h9⟩ := hc.ex
  obtain ⟨t, h1, h2⟩ := ha.ex
  obtain ⟨u, h3, h4⟩ := hb.ex
  exact ⟨_, pe_cmpR h0 h1 h3 hm, sim_op h9 h2 h4⟩
theorem t_cmp {op : CmpOp} {f : O2} (hc : CmpR X op f) (ha : PD X a da) (hb : PD X b db) (hm : behindInMarks op b = false := by first | exact nomark _ (by decide) (by decide) | rfl) : PDT X (.Compare a [op] [b] pos) (tVal (e2 f da db)) := by
  obtain ⟨r, h0, h9⟩ := hc.ex
  obtain ⟨t, h1, h2⟩ := ha.ex
  obtain ⟨u, h3, h4⟩ := hb.ex
  exact ⟨_, pt_cmpR h0 h1 h3 hm, sim_tTest (sim_op h9 h2 h4)⟩
theorem d_isN {j pos'} (ha : PD X a da) : PD X (.Compare a [.Is] [.Constant .none j pos'] pos) (e1 oIsN da) := by
  obtain ⟨t, h1, h2⟩ := ha.ex
  exact ⟨_, pe_cmpR op_isN h1 pe_non (nomark _), sim_isN h2⟩
theorem d_notN {j pos'} (ha : PD X a da) : PD X (.Compare a [.IsNot] [.Constant .none j pos'] pos) (e1 oNotN da) := by
  obtain ⟨t, h1, h2⟩ := ha.ex
  exact ⟨_, pe_cmpR op_notN h1 pe_non (nomark _), sim_notN h2⟩
theorem t_isN {j pos'} (ha : PD X a da) : PDT X (.Compare a [.Is] [.Constant .none j pos'] pos) (tVal (e1 oIsN da)) := by
  obtain ⟨t, h1, h2⟩ := ha.ex
  exact ⟨_, pt_cmpR op_isN h1 pe_non (nomark _), sim_tTest (sim_isN h2)⟩
theorem t_notN {j pos'} (ha : PD X a da) : PDT X (.Compare a [.IsNot] [.Constant .none j pos'] pos) (tVal (e1 oNotN da)) := by
  obtain ⟨t, h1, h2⟩ := ha.ex
  exact ⟨_, pt_cmpR op_notN h1 pe_non (nomark _), sim_tTest (sim_notN h2)⟩
theorem d_chain {op op' : CmpOp} {f g : O2} (hc : CmpR X op f) (hc' : CmpR X op' g) (ha : PD X a da) (hb : PD X b db) (hd : PD X c dc) (hm : lastMarks [op, op'] [b, c] = false := by rfl) :
    PD X (.Compare a [op, op'] [b, c] pos) (eChain f g da db dc) := by
  obtain ⟨r, h0, h9⟩ := hc.ex
  obtain ⟨r', h0', h9'⟩ := hc'.ex
  obtain ⟨t, h1, h2⟩ := ha.ex
  obtain ⟨u, h3, h4⟩ := hb.ex
  obtain ⟨v, h5, h6⟩ := hd.ex
  exact ⟨_, pe_chain h0 h0' h1 h3 h5 hm, sim_chain h9 h9' h2 h4 h6⟩
theorem t_chain {op op' : CmpOp} {f g : O2} (hc : CmpR X op f) (hc' : CmpR X op' g) (ha : PD X a da) (hb : PD X b db) (hd : PD X c dc) (hm : lastMarks [op, op'] [b, c] = false := by rfl) :
    PDT X (.Compare a [op, op'] [b, c] pos) (tVal (eChain f g da db dc)) := by
  obtain ⟨r, h0, h9⟩ := hc.ex
  obtain ⟨r', h0', h9'⟩ := hc'.ex
  obtain ⟨t, h1, h2⟩ := ha.ex
  obtain ⟨u, h3, h4⟩ := hb.ex
  obtain ⟨v, h5, h6⟩ := hd.ex
  exact ⟨_, pt_chain h0 h0' h1 h3 h5 hm, sim_tTest (sim_chain h9 h9' h2 h4 h6)⟩
/-! tests -/
theorem t_val (he : PD X e de) (h : ∀ whole, isTrue e X.env whole = (do let v ← whole; standAt e.pos; holding [v] (truthy v)) := by intro _; rfl) : PDT X e (tVal de) := by
  obtain ⟨t, h1, h2⟩ := he.ex
  exact ⟨_, pt_val h1 h, sim_tB h2⟩
theorem t_not (ha : PDT X a ta) : PDT X (.UnaryOp .Not a pos) (Rw.tNot ta) := by
  obtain ⟨t, h1, h2⟩ := ha.ex
  exact ⟨_, pt_not h1, sim_not h2⟩
variable {rest : List Expr}
theorem w_and1 (ha : PDT X a ta) : PDW X (.BoolOp .And [a] pos) ta := by
  obtain ⟨t, h1, h2⟩ := ha.ex
  exact ⟨_, pw_and1 h1, h2⟩
theorem w_or1 (ha : PDT X a ta) : PDW X (.BoolOp .Or [a] pos) ta := by
  obtain ⟨t, h1, h2⟩ := ha.ex
  exact ⟨_, pw_or1 h1, h2⟩
theorem w_and (ha : PDT X a ta) (hb : PDW X (.BoolOp .And (b :: rest) pos) tb) : PDW X (.BoolOp .And (a :: b :: rest) pos) (Rw.tAnd ta tb) := by
  obtain ⟨t, h1, h2⟩ := ha.ex
  obtain ⟨u, h3, h4⟩ := hb.ex
  exact ⟨_, pw_and h1 h3, sim_and h2 h4⟩
theorem w_or (ha : PDT X a ta) (hb : PDW X (.BoolOp .Or (b :: rest) pos) tb) : PDW X (.BoolOp .Or (a :: b :: rest) pos) (Rw.tOr ta tb) := by
  obtain ⟨t, h1, h2⟩ := ha.ex
  obtain ⟨u, h3, h4⟩ := hb.ex
  exact ⟨_, pw_or h1 h3, sim_or h2 h4⟩
theorem t_w (ha : PDW X a ta) : PDT X a ta := by
  obtain ⟨t, h1, h2⟩ := ha.ex
  exact ⟨_, h1.pt, h2⟩
theorem d_one {op} (ha : PD X a da) : PD X (.BoolOp op [a] pos) da := by
  obtain ⟨t, h1, h2⟩ := ha.ex
  exact ⟨_, pe_one h1, h2⟩
theorem d_and (ha : PD X a da) (hb : PD X (.BoolOp .And (b :: rest) pos) db) : PD X (.BoolOp .And (a :: b :: rest) pos) (eAnd da db) := by
  obtain ⟨t, h1, h2⟩ := ha.ex
  obtain ⟨u, h3, h4⟩ := hb.ex
  exact ⟨_, pe_and h1 h3, sim_andV h2 h4⟩
theorem d_or (ha : PD X a da) (hb : PD X (.BoolOp .Or (b :: rest) pos) db) : PD X (.BoolOp .Or (a :: b :: rest) pos) (eOr da db) := by
  obtain ⟨t, h1, h2⟩ := ha.ex
  obtain ⟨u, h3, h4⟩ := hb.ex
  exact ⟨_, pe_or h1 h3, sim_orV h2 h4⟩
theorem d_not (ha : PD X a da) : PD X (.UnaryOp .Not a pos) (eNot da) := by
  obtain ⟨t, h1, h2⟩ := ha.ex
  exact ⟨_, pe_not h1, sim_notV h2⟩
theorem d_ifE {tc : DT} (hc : PDT X c tc) (ha : PD X a da) (hb : PD X b db) : PD X (.IfExp c a b pos) (eIf tc da db) := by
  obtain ⟨t, h1, h2⟩ := hc.ex
  obtain ⟨u, h3, h4⟩ := ha.ex
  obtain ⟨v, h5, h6⟩ := hb.ex
  exact ⟨_, pe_ifExp h1 h3 h5, sim_ifE h2 h4 h6⟩
/-! arguments, displays, calls -/
variable {es : List Expr} {das : DA} {n : Nat}
theorem a_nil : PDA X [] aNil 0 := ⟨⟨_, pa_nil, sim_nil⟩, al_nil⟩
theorem a_cons (ha : PD X e de) (hr : PDA X es das n) (hs : starEach (e :: es) X.env = (false, eval e X.env) :: starEach es X.env := by rfl) : PDA X (e :: es) (aCons de das) (n + 1) := by
  obtain ⟨t, h1, h2⟩ := ha.ex
  obtain ⟨u, h3, h4⟩ := hr.ex
  exact ⟨⟨_, pa_cons h1 h3 hs, sim_cons h2 h4⟩, al_cons hr.len⟩
theorem d_tup {x1} (h : PDA X es das n) : PD X (.Tuple es x1 pos) (eTup das) := by
  obtain ⟨t, h1, h2⟩ := h.ex
  exact ⟨_, pe_tup h1, sim_tup h2⟩
theorem d_lst (c : Bool) (h : PDA X es das n) : PD X (.List es pos) (eLst c das) := by
  obtain ⟨t, h1, h2⟩ := h.ex
  exact ⟨_, pe_lst h1, sim_lst c h2⟩
theorem d_frz (h : PD X e de) : PD X e (eFrz de) := by
  obtain ⟨t, h1, h2⟩ := h.ex
  exact ⟨_, h1, sim_frz h2⟩
theorem d_frzC (h : PD X e de) : PD X e (eFrzC de) := by
  obtain ⟨t, h1, h2⟩ := h.ex
  exact ⟨_, h1, sim_frzC h2⟩
theorem d_ix (ha : PD X a da) (hb : PD X b db) (hs : PlainIx b := by exact fun _ _ => rfl) : PD X (.Subscript a b pos) (e2 oIx da db) := by
  obtain ⟨t, h1, h2⟩ := ha.ex
  obtain ⟨u, h3, h4⟩ := hb.ex
  exact ⟨_, pe_ix ix_seq h1 h3 hs, sim_op sr_ix h2 h4⟩
theorem o_none : PDO X none pNone := ⟨_, po_none, sim_pn⟩
theorem o_some (h : PD X e de) : PDO X (some e) (pSome de) := by
  obtain ⟨t, h1, h2⟩ := h.ex
  exact ⟨_, po_some h1, sim_ps h2⟩
variable {lo hi : Option Expr} {dl dh : DO} {p2 : Pos}
theorem d_slL (c : Bool) (he : PD X e de) (hl : PDO X lo dl) (hh : PDO X hi dh) : PD X (.Subscript e (.Slice lo hi none p2) pos) (eSl (slL c) de dl dh) := by
  obtain ⟨t, h1, h2⟩ := he.ex
  obtain ⟨u, h3, h4⟩ := hl.ex
  obtain ⟨v, h5, h6⟩ := hh.ex
  exact ⟨_, pe_slice sl_list h1 h3 h5, sim_sl (ss_list c) h2 h4 h6⟩
theorem d_slT (he : PD X e de) (hl : PDO X lo dl) (hh : PDO X hi dh) : PD X (.Subscript e (.Slice lo hi none p2) pos) (eSl slT de dl dh) := by
  obtain ⟨t, h1, h2⟩ := he.ex
  obtain ⟨u, h3, h4⟩ := hl.ex
  obtain ⟨v, h5, h6⟩ := hh.ex
  exact ⟨_, pe_slice sl_tupA h1 h3 h5, sim_sl ss_tup h2 h4 h6⟩
theorem d_rev (c : Bool) {k : Nat} {p1 p3 p4 : Pos} (he : PD X e de) : PD X (.Subscript e (.Slice none none (some (.UnaryOp .USub (.Constant (.int 1) k p1) p4)) p3) pos) (e1 (oRev c) de) := by
  obtain ⟨t, h1, h2⟩ := he.ex
  exact ⟨_, pe_revL h1, sim_rev c h2⟩
variable {p : Pos} {x : Str}
theorem d_call {k : Nat} {f : Addr} {fd : FuncData} {ps : List Str} {df : DF} (F : FnOk X.prog X.w X.K X.mg X.base CX0 k f fd ps (spD X.K df n)) (hr : Room k X.A) (hg : Gl X x) (hm : X.mg x = some (.ref f)) (hk : PySem.W.keepIn X.K (.ref f) = true) (hb : Binds X.K fd ps [])
    (ha : PDA X (e :: es) das n) (hdb : (x == ("__debug__" : Str)) = false := by decide) (he : starEach (e :: es) X.env = (false, eval e X.env) :: starEach es X.env := by rfl) (hpl : (backTo pos (starEach es X.env)).any (·.1) = false := by rfl) :
    PD X (.Call (.Name x p) (e :: es) [] pos) (eCall df das) := by
  obtain ⟨t, h1, h2⟩ := ha.ex
  exact ⟨_, pe_call F hr hg hm hk hb .nil pass0 h1 hdb he hpl, sim_call h2 ha.len⟩
theorem d_call0 {k : Nat} {f : Addr} {fd : FuncData} {ps : List Str} {df : DF} (F : FnOk X.prog X.w X.K X.mg X.base CX0 k f fd ps (spD X.K df 0)) (hr : Room k X.A) (hg : Gl X x) (hm : X.mg x = some (.ref f)) (hk : PySem.W.keepIn X.K (.ref f) = true) (hb : Binds X.K fd ps [])
    (hdb : (x == ("__debug__" : Str)) = false := by decide) : PD X (.Call (.Name x p) [] [] pos) (eCall df aNil) :=
  ⟨_, pe_call0 F hr hg hm hk hb .nil pass0 hdb, sim_call sim_nil al_nil⟩
/-- a built-in function -/
theorem d_bi {id : String} {r : List V → Hp → VK → Prop} {f : OA} (hc : CallR X (.builtin id) r) (hs : SimRA X.K r f) (hg : Gl X x) (hm : X.mg x = none) (hv : bootBuiltins x = some (.builtin id)) (ha : PDA X (e :: es) das n) (hn : x ≠ "__name__" := by decide) (hdb : (x == ("__debug__" : Str)) = false := by decide)
    (he : starEach (e :: es) X.env = (false, eval e X.env) :: starEach es X.env := by rfl) (hpl : (backTo pos (starEach es X.env)).any (·.1) = false := by rfl) : PD X (.Call (.Name x p) (e :: es) [] pos) (eA f das) := by
  obtain ⟨t, h1, h2⟩ := ha.ex
  exact ⟨_, pe_callB hc hg hm hv h1 hn hdb he hpl, sim_cb hs h2⟩
theorem d_bt {T : String} {r : List V → Hp → VK → Prop} {f : OA} (hc : CallR X (.type T) r) (hs : SimRA X.K r f) (hg : Gl X x) (hm : X.mg x = none) (hv : bootBuiltins x = some (.type T)) (ha : PDA X (e :: es) das n) (hn : x ≠ "__name__" := by decide) (hdb : (x == ("__debug__" : Str)) = false := by decide)
    (he : starEach (e :: es) X.env = (false, eval e X.env) :: starEach es X.env := by rfl) (hpl : (backTo pos (starEach es X.env)).any (·.1) = false := by rfl) : PD X (.Call (.Name x p) (e :: es) [] pos) (eA f das) := by
  obtain ⟨t, h1, h2⟩ := ha.ex
  exact ⟨_, pe_callTy hc hg hm hv h1 hn hdb he hpl, sim_cb hs h2⟩
theorem d_abs (hm : X.mg "abs" = none) (ha : PDA X (e :: es) das n) (hg : Gl X "abs" := by rfl) (he : starEach (e :: es) X.env = (false, eval e X.env) :: starEach es X.env := by rfl) (hpl : (backTo pos (starEach es X.env)).any (·.1) = false := by rfl) : PD X (.Call (.Name "abs" p) (e :: es) [] pos) (eA oAbs das) := d_bi (x := "abs") call_abs sa_abs hg hm (by decide +kernel) ha (he := he) (hpl := hpl)
theorem d_len (hm : X.mg "len" = none) (ha : PDA X (e :: es) das n) (hg : Gl X "len" := by rfl) (he : starEach (e :: es) X.env = (false, eval e X.env) :: starEach es X.env := by rfl) (hpl : (backTo pos (starEach es X.env)).any (·.1) = false := by rfl) : PD X (.Call (.Name "len" p) (e :: es) [] pos) (eA oLen das) := d_bi (x := "len") call_len sa_len hg hm (by decide +kernel) ha (he := he) (hpl := hpl)
theorem d_max2 (hm : X.mg "max" = none) (ha : PDA X (e :: es) das n) (hc : X.calm = true := by rfl) (hg : Gl X "max" := by rfl) (he : starEach (e :: es) X.env = (false, eval e X.env) :: starEach es X.env := by rfl) (hpl : (backTo pos (starEach es X.env)).any (·.1) = false := by rfl) : PD X (.Call (.Name "max" p) (e :: es) [] pos) (eA oMax2 das) := d_bi (x := "max") (call_max2 hc) sa_max2 hg hm (by decide +kernel) ha (he := he) (hpl := hpl)
theorem d_min2 (hm : X.mg "min" = none) (ha : PDA X (e :: es) das n) (hc : X.calm = true := by rfl) (hg : Gl X "min" := by rfl) (he : starEach (e :: es) X.env = (false, eval e X.env) :: starEach es X.env := by rfl) (hpl : (backTo pos (starEach es X.env)).any (·.1) = false := by rfl) : PD X (.Call (.Name "min" p) (e :: es) [] pos) (eA oMin2 das) := d_bi (x := "min") (call_min2 hc) sa_min2 hg hm (by decide +kernel) ha (he := he) (hpl := hpl)
theorem d_sum (hm : X.mg "sum" = none) (ha : PDA X (e :: es) das n) (hc : X.calm = true := by rfl) (hg : Gl X "sum" := by rfl) (he : starEach (e :: es) X.env = (false, eval e X.env) :: starEach es X.env := by rfl) (hpl : (backTo pos (starEach es X.env)).any (·.1) = false := by rfl) : PD X (.Call (.Name "sum" p) (e :: es) [] pos) (eA oSum das) := d_bi (x := "sum") (cr_sum hc) sa_sum hg hm (by decide +kernel) ha (he := he) (hpl := hpl)
theorem d_all (hm : X.mg "all" = none) (ha : PDA X (e :: es) das n) (hc : X.calm = true := by rfl) (hg : Gl X "all" := by rfl) (he : starEach (e :: es) X.env = (false, eval e X.env) :: starEach es X.env := by rfl) (hpl : (backTo pos (starEach es X.env)).any (·.1) = false := by rfl) : PD X (.Call (.Name "all" p) (e :: es) [] pos) (eA oAll das) := d_bi (x := "all") (cr_all hc) sa_all hg hm (by decide +kernel) ha (he := he) (hpl := hpl)
theorem d_any (hm : X.mg "any" = none) (ha : PDA X (e :: es) das n) (hc : X.calm = true := by rfl) (hg : Gl X "any" := by rfl) (he : starEach (e :: es) X.env = (false, eval e X.env) :: starEach es X.env := by rfl) (hpl : (backTo pos (starEach es X.env)).any (·.1) = false := by rfl) : PD X (.Call (.Name "any" p) (e :: es) [] pos) (eA oAny das) := d_bi (x := "any") (cr_any hc) sa_any hg hm (by decide +kernel) ha (he := he) (hpl := hpl)
theorem d_sorted (c : Bool) (hm : X.mg "sorted" = none) (ha : PDA X (e :: es) das n) (hg : Gl X "sorted" := by rfl) (he : starEach (e :: es) X.env = (false, eval e X.env) :: starEach es X.env := by rfl) (hpl : (backTo pos (starEach es X.env)).any (·.1) = false := by rfl) : PD X (.Call (.Name "sorted" p) (e :: es) [] pos) (eA (oSorted c) das) := d_bi (x := "sorted") cr_sortedI (sa_sorted c) hg hm (by decide +kernel) ha (he := he) (hpl := hpl)
theorem d_intf (hm : X.mg "int" = none) (ha : PDA X (e :: es) das n) (hg : Gl X "int" := by rfl) (he : starEach (e :: es) X.env = (false, eval e X.env) :: starEach es X.env := by rfl) (hpl : (backTo pos (starEach es X.env)).any (·.1) = false := by rfl) : PD X (.Call (.Name "int" p) (e :: es) [] pos) (eA oInt das) := d_bt (x := "int") call_int1 sa_int hg hm (by decide +kernel) ha (he := he) (hpl := hpl)
theorem d_list (c : Bool) (hm : X.mg "list" = none) (ha : PDA X (e :: es) das n) (hg : Gl X "list" := by rfl) (he : starEach (e :: es) X.env = (false, eval e X.env) :: starEach es X.env := by rfl) (hpl : (backTo pos (starEach es X.env)).any (·.1) = false := by rfl) : PD X (.Call (.Name "list" p) (e :: es) [] pos) (eA (oList c) das) := d_bt (x := "list") call_list_of (sa_list c) hg hm (by decide +kernel) ha (he := he) (hpl := hpl)
theorem d_isi (T : String) (hm : X.mg "isinstance" = none) (ha : PDA X (e :: es) das n) (hT : T ∈ ["bool", "int", "str", "list", "tuple"] := by decide) (hg : Gl X "isinstance" := by rfl) (he : starEach (e :: es) X.env = (false, eval e X.env) :: starEach es X.env := by rfl) (hpl : (backTo pos (starEach es X.env)).any (·.1) = false := by rfl) : PD X (.Call (.Name "isinstance" p) (e :: es) [] pos) (eA (oIsi T) das) := d_bi (x := "isinstance") call_isi (sa_isi T hT) hg hm (by decide +kernel) ha (he := he) (hpl := hpl)
theorem d_listR1 (c : Bool) {p' pos' : Pos} (hm : X.mg "list" = none) (hm' : X.mg "range" = none) (ha : PD X a da) (hc : X.calm = true := by rfl) (hg : Gl X "list" := by rfl) (hg' : Gl X "range" := by rfl) (na : starEach [a] X.env = (false, eval a X.env) :: starEach [] X.env := by rfl) (nb : starEach [.Call (.Name "range" p') [a] [] pos'] X.env = (false, eval (.Call (.Name "range" p') [a] [] pos') X.env) :: starEach [] X.env := by rfl) :
    PD X (.Call (.Name "list" p) [.Call (.Name "range" p') [a] [] pos'] [] pos) (eA (oListR1 c) (aCons da aNil)) := by
  obtain ⟨t, h1, h2⟩ := ha.ex
  exact ⟨_, pe_listRg hc hg hm (prg_1 hg' hm' h1 na) nb, sim_listR1 c h2⟩
theorem d_listR2 (c : Bool) {p' pos' : Pos} (hm : X.mg "list" = none) (hm' : X.mg "range" = none) (ha : PD X a da) (hb : PD X b db) (hc : X.calm = true := by rfl) (hg : Gl X "list" := by rfl) (hg' : Gl X "range" := by rfl) (na : starEach [a, b] X.env = (false, eval a X.env) :: starEach [b] X.env := by rfl) (nb : starEach [b] X.env = (false, eval b X.env) :: starEach [] X.env := by rfl) (np : (backTo pos' (starEach [b] X.env)).any (·.1) = false := by rfl)
    (nc : starEach [.Call (.Name "range" p') [a, b] [] pos'] X.env = (false, eval (.Call (.Name "range" p') [a, b] [] pos') X.env) :: starEach [] X.env := by rfl) :
    PD X (.Call (.Name "list" p) [.Call (.Name "range" p') [a, b] [] pos'] [] pos) (eA (oListR2 c) (aCons da (aCons db aNil))) := by
  obtain ⟨t, h1, h2⟩ := ha.ex
  obtain ⟨u, h3, h4⟩ := hb.ex
  exact ⟨_, pe_listRg hc hg hm (prg_2 hg' hm' h1 h3 na nb np) nc, sim_listR2 c h2 h4⟩
end
end Rw
end PRwRules
section PRwRules2
set_option Elab.async false
set_option linter.all false
set_option maxRecDepth 100000
set_option maxHeartbeats 2000000
namespace Rw
open PySem L2 PySem.Spec PyProof.Rows
section
variable {X : Cx} {a b c e : Expr} {pos : Pos} {da db dc de : DE} {ta tb : DT} {es : List Expr} {das : DA} {n : Nat} {p : Pos} {x : Str} {tg : Expr}
/-! ### targets -/
theorem g_name (i : Nat) {x : Str} (hN : X.N.Nodup) (hi : X.N[i]? = some x := by rfl) (hx : Loc X.env.scope x := by first | exact Or.inl rfl | exact Or.inr rfl) (hf : X.fn x = true ∨ X.env.scope.names.lookup x = some .local := by first | exact .inl rfl | exact .inr rfl) : PDG X (.Name x pos) (.name i) := ⟨by
  simp only [Tgt.tg]
  exact pg_name hN hi hx hf⟩
theorem g_nil : PDGs X [] [] := ⟨by simp only [Tgt.tgs]; exact pgs_nil⟩
theorem g_cons {t : Tgt} {ts : List Tgt} (h : PDG X e t) (hr : PDGs X es ts) (hs : (assignEach (e :: es) X.env).map (·.2) = assign e X.env :: (assignEach es X.env).map (·.2) := by rfl) : PDGs X (e :: es) (t :: ts) := ⟨by
  simp only [Tgt.tgs]
  exact pgs_cons h.ex hr.ex hs⟩
theorem g_tup {k : Nat} {ts : List Tgt} (h : PDGs X es ts) (hc : X.calm = true := by rfl) (hn : (assignEach es X.env).length = ts.length := by rfl) (hst : (assignEach es X.env).findIdx? (·.1) = none := by rfl) : PDG X (.Tuple es k pos) (.tup ts) := ⟨by
  simp only [Tgt.tg]
  exact ⟨fun pins s σ H v u Q I r hw => hw.elim (fun q => (pg_tup hc h.ex hn hst).run pins s σ H v u Q I r q) fun q => (pg_unl hc h.ex hn hst).run pins s σ H v u Q I r q⟩⟩
/-! ### ints or lists, lists or tuples -/
theorem sr_mulU {K : PySem.W.Frag} (c : Bool) : SimR2 K (fun x y H Q => rI CMulR (fun i j => .int (i * j)) x y H Q ∨ rRep x y H Q) (oMulU c) := fun {F κ G M H Q x y z M' u v} S rx ry h k => by
  unfold oMulU at h
  split at h
  · obtain ⟨hp, h⟩ := grd_some h
    cases h
    exact .inl ⟨_, _, rx_int rx, rx_int ry, mulOk_ok hp, k.here S (Rv.int _)⟩
  · exact .inr (sr_rep c S rx ry h k)
theorem d_mulU (c : Bool) (ha : PD X a da) (hb : PD X b db) : PD X (.BinOp a .Mult b pos) (e2 (oMulU c) da db) := d_op (op_mulR.or op_rep) (sr_mulU c) ha hb
theorem ss_slU {K : PySem.W.Frag} (c : Bool) : SimSl K (fun x lo hi H Q => rSlL K x lo hi H Q ∨ rSlA K x lo hi H Q) (slU c) := fun {F κ G M H Q x lo hi z M' u} S rx h k => by
  unfold slU at h
  split at h
  · exact .inr (ss_tup S rx (by unfold slT; exact h) k)
  · exact .inl (ss_list c S rx h k)
variable {lo hi : Option Expr} {dl dh : DO} {p2 : Pos}
theorem d_slU (c : Bool) (he : PD X e de) (hl : PDO X lo dl) (hh : PDO X hi dh) : PD X (.Subscript e (.Slice lo hi none p2) pos) (eSl (slU c) de dl dh) := by
  obtain ⟨t, h1, h2⟩ := he.ex
  obtain ⟨u, h3, h4⟩ := hl.ex
  obtain ⟨v, h5, h6⟩ := hh.ex
  exact ⟨_, pe_slice (sl_list.or sl_tupA) h1 h3 h5, sim_sl (ss_slU c) h2 h4 h6⟩
/-! ### what is walked -/
theorem i_seq (he : PD X e de) : PDI X tg e (iS de) := by
  obtain ⟨t, h1, h2⟩ := he.ex
  refine ⟨fun σ H R => iList X.K t σ H R ∨ iTup X.K t σ H R, ⟨fun pins s σ H R I h => ?_⟩, ⟨fun {F κ G σ ρ M H xs src M' R} S E h k => ?_⟩⟩
  · rcases h with h | h
    · exact (pi_list h1).run pins s σ H R I h
    · exact (pi_tup h1).run pins s σ H R I h
  · unfold iS at h
    split at h
    · rename_i ys M1 e1
      cases h
      exact .inr ((sim_iT h2).run S E (by unfold iT; rw [e1]) k)
    · rename_i y M1 _ e1
      exact .inl ((sim_iL h2).run S E (by unfold iL; rw [e1]; exact h) k)
    · cases h
theorem i_list (he : PD X e de) : PDI X tg e (iL de) := by
  obtain ⟨t, h1, h2⟩ := he.ex
  exact ⟨_, pi_list h1, sim_iL h2⟩
theorem i_tup (he : PD X e de) : PDI X tg e (iT de) := by
  obtain ⟨t, h1, h2⟩ := he.ex
  exact ⟨_, pi_tup h1, sim_iT h2⟩
theorem i_r1 (hm : X.mg "range" = none) (ha : PDA X [a] das n) (hg : Gl X "range" := by rfl) (hs : starEach [a] X.env = [(false, eval a X.env)] := by rfl) : PDI X tg (.Call (.Name "range" p) [a] [] pos) (iR1 das) := by
  obtain ⟨t, h1, h2⟩ := ha.ex
  exact ⟨_, pi_range1 hg hm h1 hs, sim_iR1 h2⟩
theorem i_r2 (hm : X.mg "range" = none) (ha : PDA X [a, b] das n) (hg : Gl X "range" := by rfl) (hs : starEach [a, b] X.env = [(false, eval a X.env), (false, eval b X.env)] := by rfl) (hs2 : starEach [b] X.env = [(false, eval b X.env)] := by rfl) : PDI X tg (.Call (.Name "range" p) [a, b] [] pos) (iR2 das) := by
  obtain ⟨t, h1, h2⟩ := ha.ex
  exact ⟨_, pi_range2 hg hm h1 hs hs2, sim_iR2 h2⟩
theorem i_en {elts : List Expr} {kk : Nat} {tpos : Pos} (hm : X.mg "enumerate" = none) (ha : PDA X [a] das n) (hg : Gl X "enumerate" := by rfl) (hs : starEach [a] X.env = [(false, eval a X.env)] := by rfl) : PDI X (.Tuple elts kk tpos) (.Call (.Name "enumerate" p) [a] [] pos) (iEn das) := by
  obtain ⟨t, h1, h2⟩ := ha.ex
  exact ⟨_, pi_enum hg hm h1 hs, sim_iEn h2⟩
theorem i_zip {elts : List Expr} {kk : Nat} {tpos : Pos} (hm : X.mg "zip" = none) (ha : PDA X [a, b] das n) (hg : Gl X "zip" := by rfl) (hs : starEach [a, b] X.env = (false, eval a X.env) :: starEach [b] X.env := by rfl) (hpl : (backTo pos (starEach [b] X.env)).any (·.1) = false := by rfl) : PDI X (.Tuple elts kk tpos) (.Call (.Name "zip" p) [a, b] [] pos) (iZ das) := by
  obtain ⟨t, h1, h2⟩ := ha.ex
  exact ⟨_, pi_zip hg hm h1 hs hpl, sim_iZ h2⟩
/-! ### comprehensions -/
theorem ts_nil : PTs X [] L2.tYes := pts_nil
theorem sim_yes {K : PySem.W.Frag} : SimT K L2.tYes Rw.tYes := ⟨fun {F κ G σ ρ M H b M' Q} S E h k => by
  cases h
  exact k κ G H (Le.refl _ _) S⟩
structure PDTs (X : Cx) (es : List Expr) (d : DT) : Prop where
  ex : ∃ t, PTs X es t ∧ SimT X.K t d
theorem c_nil : PDTs X [] Rw.tYes := ⟨_, pts_nil, sim_yes⟩
theorem c_one (h : PDT X e ta) : PDTs X [e] ta := by
  obtain ⟨t, h1, h2⟩ := h.ex
  exact ⟨_, pts_one h1, h2⟩
/-- the reading that a pure reading makes -/
def tOf (K : PySem.W.Frag) (d : DE) : TE := fun σ H Q => ∃ F κ G ρ M v M', Sm K F κ G M H ∧ Se K κ G σ ρ ∧ d ρ M = some (v, M') ∧ PV K F κ G Q v M'
def tOfT (K : PySem.W.Frag) (d : DT) : TT := fun σ H Q => ∃ F κ G ρ M b M', Sm K F κ G M H ∧ Se K κ G σ ρ ∧ d ρ M = some (b, M') ∧ ∀ κ' G' H', Le κ G κ' G' → Sm K F κ' G' M' H' → Q b H'
theorem simOf {K : PySem.W.Frag} {d : DE} : SimE K (tOf K d) d := ⟨fun {F κ G σ ρ M H Q v M'} S E h k => ⟨F, κ, G, ρ, M, v, M', S, E, h, k⟩⟩
theorem simOfT {K : PySem.W.Frag} {d : DT} : SimT K (tOfT K d) d := ⟨fun {F κ G σ ρ M H b M' Q} S E h k => ⟨F, κ, G, ρ, M, b, M', S, E, h, k⟩⟩
theorem PD.can {X : Cx} {e : Expr} {d : DE} (h : PD X e d) : PE X e (tOf X.K d) := by
  obtain ⟨t, h1, h2⟩ := h.ex
  exact ⟨fun pins s σ H Q I ⟨F, κ, G, ρ, M, v, M', S, E, hd, k⟩ => h1.run pins s σ H Q I (h2.run S E hd k)⟩
theorem PDTs.can {X : Cx} {es : List Expr} {d : DT} (h : PDTs X es d) : PTs X es (tOfT X.K d) := by
  obtain ⟨t, h1, h2⟩ := h.ex
  exact ⟨fun pins s σ H Q I ⟨F, κ, G, ρ, M, v, M', S, E, hd, k⟩ => h1.run pins s σ H Q I (h2.run S E hd k)⟩
theorem d_lc (c : Bool) {elt iter : Expr} {ifs : List Expr} {scope : Scope} (own : List (Str × Nat)) {it : DI} {tgt : Tgt} {tt : DT} {el : DE} (hN : X.N.Nodup) (hi : PDI X tg iter it) (ok : blkC X.N X.env.scope scope own = true)
    (hg : ∀ (s : Shared) (H : Hp) (C : Addr) (cl : List (Str × Addr)) (fp : List Addr), PDG (X.blk s H scope (compEnvC scope cl C X.env) fp) tg tgt) (ht : ∀ (s : Shared) (H : Hp) (C : Addr) (cl : List (Str × Addr)) (fp : List Addr), PDTs (X.blk s H scope (compEnvC scope cl C X.env) fp) ifs tt)
    (he : ∀ (s : Shared) (H : Hp) (C : Addr) (cl : List (Str × Addr)) (fp : List Addr), PD (X.blk s H scope (compEnvC scope cl C X.env) fp) elt el) (hown : ∀ i ∈ tgt.slots, i ∈ own.map (·.2) := by decide) (hc : X.calm = true := by rfl) (hs : ∀ x, foldedSetIterable iter X.env x = pure x := by intro _; rfl) :
    PD X (.ListComp elt [⟨tg, iter, ifs, 0⟩] scope pos) (eComp c it tgt tt el (own.map (·.2))) := by
  obtain ⟨t, h1, h2⟩ := hi.ex
  exact ⟨_, pe_lc hc hN h1 (blkOk_by ok) (fun s H C cl fp => (hg s H C cl fp).ex) (fun s H C cl fp => (ht s H C cl fp).can) (fun s H C cl fp => (he s H C cl fp).can) hs, sim_lc h2 simOfT simOf hown⟩
/-! ### methods of lists -/
theorem lm_pop : ∀ v as M z, mPop v as M = some z → ∃ n, v = .c n := fun v as M z h => by
  unfold mPop at h
  split at h
  · exact ⟨_, rfl⟩
  · exact ⟨_, rfl⟩
  · cases h
theorem lm_insert : ∀ v as M z, mInsert v as M = some z → ∃ n, v = .c n := fun v as M z h => by
  unfold mInsert at h
  split at h
  · exact ⟨_, rfl⟩
  · cases h
def rInsert : V → List V → Hp → VK → Prop := fun x vs H Q => ∃ (l : Addr) (xs : List V) (i : Int) (y : V), x = .ref l ∧ vs = [.int i, y] ∧ H l = some (.lst xs) ∧ xs.length < sizeLine ∧ 0 ≤ i ∧ i < 2 ^ 63 ∧
    Q .non (upd H l (.lst (xs.take i.toNat ++ [y] ++ xs.drop i.toNat)))
theorem sm_insert {K : PySem.W.Frag} : SimRM K "list" rInsert mInsert := fun {F κ G M H Q x xs z M' u us} S r rs h k => by
  unfold mInsert at h
  split at h
  · rename_i n i y
    split at h
    · rename_i ys e
      obtain ⟨hp, h⟩ := grd_some h
      cases h
      obtain ⟨a, rfl, ha⟩ := r
      obtain ⟨v, w, rfl, rv, rw'⟩ := rxs2 rs
      obtain rfl := rx_int rv
      obtain ⟨vs, _, _, e3, e4⟩ := cell_at S e ha
      refine ⟨a, vs, i, w, rfl, rfl, e3, sz_big1 (by rw [e4.length]; exact hp.1), hp.2.1, by omega, ?_⟩
      exact k κ G _ _ (Le.refl _ _) (S.put e ha (((e4.take _).append (.cons rw' .nil)).append (e4.drop _))) Rv.non
    · cases h
  · cases h
theorem d_append {apos : Pos} (ho : PD X a da) (hb : PDA X (e :: es) das n) (hbase : attributeBase a "append" X.env (eval a X.env) = eval a X.env := by rfl)
    (hfew : ((backTo pos (starEach (e :: es) X.env)).all (fun x => !x.1) && (backToKw pos (keywordEach [] X.env)).all (fun x => x.1.isSome)
      && decide ((e :: es).length + ([] : List Keyword).length + (if ([] : List Keyword).isEmpty then 0 else 1) < 30)) = true := by rfl)
    (hline : (apos.endLine == pos.line) = true := by rfl) (hs : starEach (e :: es) X.env = (false, eval e X.env) :: starEach es X.env := by rfl) (hplain : (backTo pos (starEach es X.env)).any (·.1) = false := by rfl) : PD X (.Call (.Attribute a "append" apos) (e :: es) [] pos) (eM mAppend da das) := by
  obtain ⟨t, h1, h2⟩ := ho.ex
  obtain ⟨u, h3, h4⟩ := hb.ex
  exact ⟨_, pe_bm PySem.F.plainAttrs_list PySem.F.slot_list_append PySem.F.type_list_append mt_append h1 h3 hbase hfew hline hs hplain, sim_bm sm_append lm_append h2 h4⟩
theorem d_pop {apos : Pos} (ho : PD X a da) (hb : PDA X (e :: es) das n) (hbase : attributeBase a "pop" X.env (eval a X.env) = eval a X.env := by rfl)
    (hfew : ((backTo pos (starEach (e :: es) X.env)).all (fun x => !x.1) && (backToKw pos (keywordEach [] X.env)).all (fun x => x.1.isSome)
      && decide ((e :: es).length + ([] : List Keyword).length + (if ([] : List Keyword).isEmpty then 0 else 1) < 30)) = true := by rfl)
    (hline : (apos.endLine == pos.line) = true := by rfl) (hs : starEach (e :: es) X.env = (false, eval e X.env) :: starEach es X.env := by rfl) (hplain : (backTo pos (starEach es X.env)).any (·.1) = false := by rfl) : PD X (.Call (.Attribute a "pop" apos) (e :: es) [] pos) (eM mPop da das) := by
  obtain ⟨t, h1, h2⟩ := ho.ex
  obtain ⟨u, h3, h4⟩ := hb.ex
  exact ⟨_, pe_bm PySem.F.plainAttrs_list PySem.F.slot_list_pop PySem.F.type_list_pop mt_pops h1 h3 hbase hfew hline hs hplain, sim_bm sm_pop lm_pop h2 h4⟩
theorem d_insert {apos : Pos} (ho : PD X a da) (hb : PDA X (e :: es) das n) (hbase : attributeBase a "insert" X.env (eval a X.env) = eval a X.env := by rfl)
    (hfew : ((backTo pos (starEach (e :: es) X.env)).all (fun x => !x.1) && (backToKw pos (keywordEach [] X.env)).all (fun x => x.1.isSome)
      && decide ((e :: es).length + ([] : List Keyword).length + (if ([] : List Keyword).isEmpty then 0 else 1) < 30)) = true := by rfl)
    (hline : (apos.endLine == pos.line) = true := by rfl) (hs : starEach (e :: es) X.env = (false, eval e X.env) :: starEach es X.env := by rfl) (hplain : (backTo pos (starEach es X.env)).any (·.1) = false := by rfl) : PD X (.Call (.Attribute a "insert" apos) (e :: es) [] pos) (eM mInsert da das) := by
  obtain ⟨t, h1, h2⟩ := ho.ex
  obtain ⟨u, h3, h4⟩ := hb.ex
  exact ⟨_, pe_bm PySem.F.plainAttrs_list PySem.F.slot_list_insert PySem.F.type_list_insert mt_insert h1 h3 hbase hfew hline hs hplain, sim_bm sm_insert lm_insert h2 h4⟩
theorem d_pop0 {apos : Pos} (ho : PD X a da) (hbase : attributeBase a "pop" X.env (eval a X.env) = eval a X.env := by rfl) (hline : (apos.endLine == pos.line) = true := by rfl) : PD X (.Call (.Attribute a "pop" apos) [] [] pos) (eM mPop da aNil) := by
  obtain ⟨t, h1, h2⟩ := ho.ex
  exact ⟨_, pe_bm0 PySem.F.plainAttrs_list PySem.F.slot_list_pop PySem.F.type_list_pop mt_pops h1 hbase hline, sim_bm0 sm_pop lm_pop h2⟩
theorem d_clear {apos : Pos} (ho : PD X a da) (hbase : attributeBase a "clear" X.env (eval a X.env) = eval a X.env := by rfl) (hline : (apos.endLine == pos.line) = true := by rfl) : PD X (.Call (.Attribute a "clear" apos) [] [] pos) (eM mClear da aNil) := by
  obtain ⟨t, h1, h2⟩ := ho.ex
  exact ⟨_, pe_bm0 PySem.F.plainAttrs_list PySem.F.slot_list_clear PySem.F.type_list_clear mt_clear h1 hbase hline, sim_bm0 sm_clear lm_clear h2⟩

/-! ### statements -/
variable {st : Stmt} {rest : List Stmt} {s t u : DS}
theorem b_nil : PDB X [] dPass := ⟨_, pss_nil, ss_pass⟩
theorem b_cons (h1 : PDS X st s) (h2 : PDB X rest t) : PDB X (st :: rest) (dSeq s t) := by
  obtain ⟨t1, a1, a2⟩ := h1.ex
  obtain ⟨t2, b1, b2⟩ := h2.ex
  exact ⟨_, pss_cons a1 b1, ss_seq a2 b2⟩
theorem b_one (h1 : PDS X st s) : PDB X [st] s := by
  obtain ⟨t1, a1, a2⟩ := h1.ex
  exact ⟨_, pss_one a1, a2⟩
theorem b_wipe (vs : List Nat) (h : PDB X rest s) : PDB X rest (dWipe vs s) := by
  obtain ⟨t1, a1, a2⟩ := h.ex
  exact ⟨_, a1, ss_wipe vs a2⟩
theorem b_pre (vs : List Nat) (h : PDB X rest s) : PDB X rest (dPre vs s) := by
  obtain ⟨t1, a1, a2⟩ := h.ex
  exact ⟨_, a1, ⟨fun {F κ G σ ρ M H D o} S E h k => a2.run S (E.wipe vs) h k⟩⟩
theorem s_wipe (vs : List Nat) (h : PDS X st s) : PDS X st (dWipe vs s) := by
  obtain ⟨t1, a1, a2⟩ := h.ex
  exact ⟨_, a1, ss_wipe vs a2⟩
theorem s_pass : PDS X (.Pass pos) dPass := ⟨_, ps_pass, ss_pass⟩
theorem s_break : PDS X (.Break pos) dBreak := ⟨_, ps_break, ss_break⟩
theorem s_cont : PDS X (.Continue pos) dCont := ⟨_, ps_continue, ss_cont⟩
theorem s_never : PDS X st dNever := ⟨_, ps_never, ss_never⟩
theorem s_set (i : Nat) {y : Str} {pos' : Pos} (hN : X.N.Nodup) (he : PD X e de) (hi : X.N[i]? = some y := by rfl) (hx : Loc X.env.scope y := by first | exact Or.inl rfl | exact Or.inr rfl) (hs : swapsWith e (some (.Name y pos')) pos.line X.env = pure false := by rfl) (hf : X.fn y = true ∨ X.env.scope.names.lookup y = some .local := by first | exact .inl rfl | exact .inr rfl) :
    PDS X (.Assign [.Name y pos'] e pos) (dAsg (.name i) de) := by
  obtain ⟨t1, a1, a2⟩ := he.ex
  have h := ss_asg (tg := .name i) a2
  simp only [Tgt.tg] at h
  exact ⟨_, ps_set hN hi hx a1 hs hf, h⟩
theorem s_asg {tgt : Tgt} (he : PD X e de) (hg : PDG X tg tgt) (hs : swapsWithSole [tg] e pos.line X.env = pure false := by rfl) (hw : swappedStores [tg] e X.env = pure none := by rfl)
    (h1 : (assignEach [tg] X.env).map (·.2) = [assign tg X.env] := by rfl) : PDS X (.Assign [tg] e pos) (dAsg tgt de) := by
  obtain ⟨t1, a1, a2⟩ := he.ex
  exact ⟨_, ps_asg a1 hg.ex hs hw h1, ss_asg a2⟩
/-- name = [..] -/
theorem s_setLc (i : Nat) (c : Bool) {y : Str} {py spos : Pos} {elt iter : Expr} {ifs : List Expr} {scope : Scope} (own : List (Str × Nat)) {it : DI} {tgt : Tgt} {tt : DT} {el : DE} (hN : X.N.Nodup) (hi : PDI X tg iter it) (ok : blkC X.N X.env.scope scope own = true)
    (hg : ∀ (s : Shared) (H : Hp) (C : Addr) (cl : List (Str × Addr)) (fp : List Addr), PDG (X.blk s H scope (compEnvC scope cl C X.env) fp) tg tgt) (ht : ∀ (s : Shared) (H : Hp) (C : Addr) (cl : List (Str × Addr)) (fp : List Addr), PDTs (X.blk s H scope (compEnvC scope cl C X.env) fp) ifs tt)
    (he : ∀ (s : Shared) (H : Hp) (C : Addr) (cl : List (Str × Addr)) (fp : List Addr), PD (X.blk s H scope (compEnvC scope cl C X.env) fp) elt el)
    (hsw : swapsWith (.ListComp elt [⟨tg, iter, ifs, 0⟩] scope pos) (some (.Name y py)) spos.line X.env = pure true) (hy : X.N[i]? = some y := by rfl) (hyl : X.env.scope.names.lookup y = some .local := by rfl) (hown : ∀ i ∈ tgt.slots, i ∈ own.map (·.2) := by decide) (hc : X.calm = true := by rfl) (hs : ∀ x, foldedSetIterable iter X.env x = pure x := by intro _; rfl) :
    PDS X (.Assign [.Name y py] (.ListComp elt [⟨tg, iter, ifs, 0⟩] scope pos) spos) (dAsg (.name i) (eComp c it tgt tt el (own.map (·.2)))) := by
  obtain ⟨t1, a1, a2⟩ := hi.ex
  have h := ss_asg (tg := .name i) (sim_lc (c := c) (tg := tgt) a2 simOfT simOf hown (K := X.K) (t := tt) (el := el))
  simp only [Tgt.tg] at h
  exact ⟨_, ps_setLc hc hN hy hyl hsw a1 (blkOk_by ok) (fun s H C cl fp => (hg s H C cl fp).ex) (fun s H C cl fp => (ht s H C cl fp).can) (fun s H C cl fp => (he s H C cl fp).can) hs, h⟩
theorem s_par (i j : Nat) {y z : Str} {px py pt : Pos} {kt k2 : Nat} {pt2 : Pos} (hN : X.N.Nodup) (ha : PD X a da) (hb : PD X b db) (hi : X.N[i]? = some y := by rfl) (hj : X.N[j]? = some z := by rfl) (hij : i ≠ j := by decide)
    (hx : X.env.scope.names.lookup y = some .local := by rfl) (hy : X.env.scope.names.lookup z = some .local := by rfl) (hc : X.calm = true := by rfl)
    (hst : starEach [a, b] X.env = (false, eval a X.env) :: starEach [b] X.env := by rfl) (hst2 : starEach [b] X.env = (false, eval b X.env) :: starEach [] X.env := by rfl)
    (hw : swappedStores [.Tuple [.Name y px, .Name z py] kt pt] (.Tuple [a, b] k2 pt2) X.env = pure (some [y, z]) := by rfl)
    (hs : swapsWithSole [.Tuple [.Name y px, .Name z py] kt pt] (.Tuple [a, b] k2 pt2) pos.line X.env = pure false := by rfl) :
    PDS X (.Assign [.Tuple [.Name y px, .Name z py] kt pt] (.Tuple [a, b] k2 pt2) pos) (dPar i j da db) := by
  obtain ⟨t1, a1, a2⟩ := ha.ex
  obtain ⟨t2, b1, b2⟩ := hb.ex
  exact ⟨_, ps_par hc hN hi hj hij hx hy (pa_cons a1 (pa_cons b1 pa_nil hst2) hst) hw hs, ss_par a2 b2⟩
structure AugR (X : Cx) (op : Operator) (f : O2) : Prop where
  ex : ∃ r, PIp X op r ∧ SimIp X.K r f
theorem u_add : AugR X .Add (oI fun i j => .int (i + j)) := ⟨_, ip_add, ip_addI⟩
theorem u_sub : AugR X .Sub (oI fun i j => .int (i - j)) := ⟨_, ip_sub, ip_subI⟩
theorem s_aug (i : Nat) {y : Str} {op : Operator} {f : O2} {pos' : Pos} (hN : X.N.Nodup) (hr : AugR X op f) (he : PD X e de) (hi : X.N[i]? = some y := by rfl) (hx : Loc X.env.scope y := by first | exact Or.inl rfl | exact Or.inr rfl) (hf : X.fn y = true ∨ X.env.scope.names.lookup y = some .local := by first | exact .inl rfl | exact .inr rfl) :
    PDS X (.AugAssign (.Name y pos') op e pos) (dAug i f de) := by
  obtain ⟨t1, a1, a2⟩ := he.ex
  obtain ⟨r, h1, h2⟩ := hr.ex
  exact ⟨_, ps_aug hN hi hx a1 h1 hf, ss_aug h2 a2⟩
theorem s_put {o i : Expr} {do_ di : DE} {pos' : Pos} (ho : PD X o do_) (hi : PD X i di) (he : PD X e de)
    (ha : ∀ v, assign (.Subscript o i pos') X.env v = (do
      let ov ← holding [v] (eval o X.env)
      let iv ← holding [v, ov] (eval i X.env)
      standAt pos'
      holding [v, ov, iv] (setItem ov iv v)
      release [v, ov, iv] []) := by intro _; rfl)
    (hs : swapsWithSole [.Subscript o i pos'] e pos.line X.env = pure false := by rfl) (hw : swappedStores [.Subscript o i pos'] e X.env = pure none := by rfl)
    (h1 : (assignEach [.Subscript o i pos'] X.env).map (·.2) = [assign (.Subscript o i pos') X.env] := by rfl) : PDS X (.Assign [.Subscript o i pos'] e pos) (dPut do_ di de) := by
  obtain ⟨t1, a1, a2⟩ := ho.ex
  obtain ⟨t2, b1, b2⟩ := hi.ex
  obtain ⟨t3, c1, c2⟩ := he.ex
  exact ⟨_, ps_asg c1 (pg_sub a1 b1 set_list ha) hs hw h1, ss_put a2 b2 c2⟩
theorem s_expr (he : PD X e de) (hs : swapsWith e none pos.line X.env = pure false := by rfl) : PDS X (.Expr e pos) (dExpr de) := by
  obtain ⟨t1, a1, a2⟩ := he.ex
  exact ⟨_, ps_expr a1 hs, ss_expr a2⟩
theorem s_ret (he : PD X e de) : PDS X (.Return (some e) pos) (dRet de) := by
  obtain ⟨t1, a1, a2⟩ := he.ex
  exact ⟨_, ps_ret a1, ss_ret a2⟩
theorem s_retN : PDS X (.Return none pos) dRetN := ⟨_, ps_retN, ss_retN⟩
theorem s_if {x y : List Stmt} {tc : DT} (hc : PDT X c tc) (ha : PDB X x s) (hb : PDB X y t) : PDS X (.If c x y pos) (dIf tc s t) := by
  obtain ⟨t1, a1, a2⟩ := hc.ex
  obtain ⟨t2, b1, b2⟩ := ha.ex
  obtain ⟨t3, c1, c2⟩ := hb.ex
  exact ⟨_, ps_if a1 b1 c1, ss_if a2 b2 c2⟩
theorem s_for {iter : Expr} {body : List Stmt} {it : DI} {tgt : Tgt} (hi : PDI X tg iter it) (hg : PDG X tg tgt) (hb : PDB X body s) (hp : PassesOwn (model X.prog X.w) X.A X.env X.xe := by exact PassesOwn.never) (hc : X.calm = true := by rfl) (hs : ∀ x, foldedSetIterable iter X.env x = pure x := by intro _; rfl) : PDS X (.For tg iter body [] pos) (dFor it tgt s) := by
  obtain ⟨t1, a1, a2⟩ := hi.ex
  obtain ⟨t3, c1, c2⟩ := hb.ex
  exact ⟨_, ps_for hp hc a1 hg.ex c1 hs, ss_for a2 c2⟩
theorem s_while {body : List Stmt} {tc : DT} (hc : PDT X c tc) (hb : PDB X body s) (hp : PassesOwn (model X.prog X.w) X.A X.env X.xe := by exact PassesOwn.never) : PDS X (.While c body [] pos) (dWhile tc s) := by
  obtain ⟨t1, a1, a2⟩ := hc.ex
  obtain ⟨t3, c1, c2⟩ := hb.ex
  exact ⟨_, ps_while hp a1 c1, ss_while a2 c2⟩
end
/-- a def by its name -/
structure Has (P : Program) (w : World) (K : PySem.W.Frag) (mg : Str → Option Value) (base : Heap) (x : Str) (k n : Nat) (df : DF) : Prop where
  ex : ∃ (f : Addr) (fd : FuncData) (ps : List Str), FnOk P w K mg base CX0 k f fd ps (spD K df n) ∧ mg x = some (.ref f) ∧ PySem.W.keepIn K (.ref f) = true ∧ Binds K fd ps []
section
variable {X : Cx} {e : Expr} {es : List Expr} {das : DA} {p pos : Pos} {x : Str} {k n : Nat} {df : DF}
theorem d_def (Hs : Has X.prog X.w X.K X.mg X.base x k n df) (hr : Room k X.A) (ha : PDA X (e :: es) das n) (hg : Gl X x := by rfl) (hdb : (x == ("__debug__" : Str)) = false := by decide) (he : starEach (e :: es) X.env = (false, eval e X.env) :: starEach es X.env := by rfl) (hpl : (backTo pos (starEach es X.env)).any (·.1) = false := by rfl) :
    PD X (.Call (.Name x p) (e :: es) [] pos) (eCall df das) := by
  obtain ⟨f, fd, ps, F, hm, hk, hb⟩ := Hs.ex
  exact d_call F hr hg hm hk hb ha hdb he hpl
theorem d_def0 (Hs : Has X.prog X.w X.K X.mg X.base x k 0 df) (hr : Room k X.A) (hg : Gl X x := by rfl) (hdb : (x == ("__debug__" : Str)) = false := by decide) : PD X (.Call (.Name x p) [] [] pos) (eCall df aNil) := by
  obtain ⟨f, fd, ps, F, hm, hk, hb⟩ := Hs.ex
  exact d_call0 F hr hg hm hk hb hdb
end
theorem bits_log {ns : List Int} (h : ∀ z ∈ ns, Builtin.Int.intBits z ≤ 1048576) : ∀ z ∈ ns, z.natAbs.log2 < 1048577 := fun z hz => by
  have q := h z hz
  unfold Builtin.Int.intBits at q
  split at q
  · rename_i e
    have e2 : z = 0 := by simpa using e
    subst e2
    decide
  · omega
/-- the law's own promise, from what it does -/
theorem law_sp {K : PySem.W.Frag} {H : Hp} {a : Addr} {ns : List Int} {f : DF} {M' : DSt} (hS : SqL K H a (ns.map V.int)) (h : f [.r (ns.map D.int)] [] = some (.d (.bl true), M')) : spD K f 1 [.ref a] H (fun v _ => v = .bl true) fun _ _ _ => False :=
  ⟨fun _ => none, [], H, [], [.r (ns.map D.int)], .d (.bl true), M', ⟨Evl.Ex.refl _, fun _ _ e => (nomatch e), fun _ _ e => (nomatch e), fun _ h => (nomatch h), rfl, List.Pairwise.nil, fun _ h => (nomatch h), fun n ds e => by simp at e⟩,
    .cons ⟨a, _, rfl, hS, Rvs.of_ints ns⟩ .nil, rfl, h, fun _ _ _ _ _ _ r => by cases r; rfl⟩
end Rw
end PRwRules2
section PRwOk
set_option autoImplicit false
set_option linter.all false
set_option maxRecDepth 100000
/-! RwOk: what a pure reading comes to, pushed through its parts by simp. -/
namespace Rw
open PySem (Str)
/-- it comes to something of which P holds -/
def Ok {α : Type} (o : Option α) (P : α → Prop) : Prop := ∃ x, o = some x ∧ P x
section
variable {α β : Type} {P : α → Prop} {ρ : DEnv} {M : DSt}
@[simp ↓] theorem ok_some {x : α} : Ok (some x) P ↔ P x := ⟨fun ⟨y, e, h⟩ => by cases e; exact h, fun h => ⟨x, rfl, h⟩⟩
@[simp ↓] theorem ok_none : Ok (none : Option α) P ↔ False := ⟨fun ⟨y, e, h⟩ => (nomatch e), fun h => h.elim⟩
@[simp ↓] theorem ok_grd {p : Prop} {o : Option α} : Ok (grd p o) P ↔ p ∧ Ok o P := by
  constructor
  · rintro ⟨x, e, h⟩
    obtain ⟨a, b⟩ := grd_some e
    exact ⟨a, x, b, h⟩
  · rintro ⟨a, x, b, h⟩
    exact ⟨x, by rw [grd_ok a]; exact b, h⟩
theorem Ok.mono {o : Option α} {Q : α → Prop} (h : Ok o P) (k : ∀ x, P x → Q x) : Ok o Q := let ⟨x, e, p⟩ := h; ⟨x, e, k x p⟩
theorem Ok.of {o : Option α} {x : α} (e : o = some x) (h : P x) : Ok o P := ⟨x, e, h⟩
theorem ok_eq {o : Option α} {x : α} (h : Ok o fun y => y = x) : o = some x := let ⟨_, e, p⟩ := h; p ▸ e
end
/-- the value of a slot; a value of a kind -/
def getV : DEnv → Nat → Option Dv
  | [], _ => none
  | x :: _, 0 => x
  | _ :: r, i + 1 => getV r i
theorem getV_eq : ∀ (ρ : DEnv) (i : Nat), getV ρ i = (ρ[i]?).join
  | [], _ => by simp [getV]
  | x :: r, 0 => by simp [getV]
  | x :: r, i + 1 => by simp [getV, getV_eq r i]
def asB : Dv → Option Bool
  | .d (.bl b) => some b
  | _ => none
def asI : Dv → Option Int
  | .d (.int b) => some b
  | _ => none
def asD : Dv → Option D
  | .d x => some x
  | _ => none
def asC : Dv → Option Nat
  | .c n => some n
  | _ => none
/-- the cell n of the store -/
def cel (M : DSt) (n : Nat) : Option (List D) := (M[n]?).join
/-- the item at a place -/
def atD (xs : List D) (i : Int) : Option D := match ixD xs.length i with
  | some k => xs[k]?
  | none => none
section
variable {α : Type} {x : Dv} {y : Option Dv} {r : DEnv} {i : Nat} {P : Dv → Prop}
@[simp ↓] theorem ok_getV0 : Ok (getV (some x :: r) 0) P ↔ P x := by simp [getV]
@[simp ↓] theorem ok_getV0n : Ok (getV (none :: r) 0) P ↔ False := by simp [getV]
@[simp ↓] theorem ok_getVs : Ok (getV (y :: r) (i + 1)) P ↔ Ok (getV r i) P := by simp [getV]
@[simp ↓] theorem ok_asB {b : Bool} {P : Bool → Prop} : Ok (asB (.d (.bl b))) P ↔ P b := by simp [asB]
@[simp ↓] theorem ok_asI {b : Int} {P : Int → Prop} : Ok (asI (.d (.int b))) P ↔ P b := by simp [asI]
@[simp ↓] theorem ok_asD {b : D} {P : D → Prop} : Ok (asD (.d b)) P ↔ P b := by simp [asD]
@[simp ↓] theorem ok_asC {b : Nat} {P : Nat → Prop} : Ok (asC (.c b)) P ↔ P b := by simp [asC]
theorem celOk {M : DSt} {n : Nat} {xs : List D} (h : M[n]? = some (some xs)) (P : List D → Prop) : Ok (cel M n) P ↔ P xs := by simp [cel, h]
end
section
variable {ρ : DEnv} {M : DSt} {P : Dv × DSt → Prop}
@[simp ↓] theorem ok_var {i : Nat} : Ok (eVar i ρ M) P ↔ Ok (getV ρ i) fun x => P (x, M) := by
  unfold eVar
  rw [getV_eq]
  cases e : ρ[i]? with
  | none => simp
  | some o => cases o <;> simp
@[simp ↓] theorem ok_c {d : D} : Ok (eC d ρ M) P ↔ P (.d d, M) := by simp [eC]
@[simp ↓] theorem ok_e1 {f : O1} {a : DE} : Ok (e1 f a ρ M) P ↔ Ok (a ρ M) fun p => Ok (f p.1 p.2) P := by
  unfold e1
  cases a ρ M <;> simp
@[simp ↓] theorem ok_e2 {f : O2} {a b : DE} : Ok (e2 f a b ρ M) P ↔ Ok (a ρ M) fun p => Ok (b ρ p.2) fun q => Ok (f p.1 q.1 q.2) P := by
  unfold e2
  cases a ρ M with
  | none => simp
  | some p =>
    obtain ⟨x, M1⟩ := p
    simp only [ok_some]
    cases b ρ M1 <;> simp
@[simp ↓] theorem ok_aNil {P : List Dv × DSt → Prop} : Ok (aNil ρ M) P ↔ P ([], M) := by simp [aNil]
@[simp ↓] theorem ok_aCons {a : DE} {as : DA} {P : List Dv × DSt → Prop} : Ok (aCons a as ρ M) P ↔ Ok (a ρ M) fun p => Ok (as ρ p.2) fun q => P (p.1 :: q.1, q.2) := by
  unfold aCons
  cases a ρ M with
  | none => simp
  | some p =>
    obtain ⟨x, M1⟩ := p
    simp only [ok_some]
    cases as ρ M1 <;> simp
@[simp ↓] theorem ok_eA {f : OA} {as : DA} : Ok (eA f as ρ M) P ↔ Ok (as ρ M) fun p => Ok (f p.1 p.2) P := by
  unfold eA
  cases as ρ M <;> simp
@[simp ↓] theorem ok_call {f : DF} {as : DA} : Ok (eCall f as ρ M) P ↔ Ok (as ρ M) fun p => Ok (f p.1 p.2) P := by
  unfold eCall
  exact ok_eA
@[simp ↓] theorem ok_eM {f : Dv → List Dv → DSt → Option (Dv × DSt)} {a : DE} {as : DA} : Ok (eM f a as ρ M) P ↔ Ok (a ρ M) fun p => Ok (as ρ p.2) fun q => Ok (f p.1 q.1 q.2) P := by
  unfold eM
  cases a ρ M with
  | none => simp
  | some p =>
    obtain ⟨x, M1⟩ := p
    simp only [ok_some]
    cases as ρ M1 <;> simp
@[simp ↓] theorem ok_eTup {as : DA} : Ok (eTup as ρ M) P ↔ Ok (as ρ M) fun p => Ok (allD p.1) fun xs => xs.length ≤ big ∧ P (.d (.tup xs), p.2) := by
  unfold eTup
  rw [ok_eA]
  constructor <;> (intro h; refine h.mono fun p hp => ?_) <;> (cases e : allD p.1 <;> simp [e] at hp ⊢ <;> exact hp)
@[simp ↓] theorem ok_eLst {c : Bool} {as : DA} : Ok (eLst c as ρ M) P ↔ Ok (as ρ M) fun p => Ok (allD p.1) fun xs => xs.length ≤ big ∧ Ok (mkL c xs p.2) P := by
  unfold eLst
  rw [ok_eA]
  constructor <;> (intro h; refine h.mono fun p hp => ?_) <;> (cases e : allD p.1 <;> simp [e] at hp ⊢ <;> exact hp)
@[simp ↓] theorem ok_chain {f g : O2} {a b c : DE} : Ok (eChain f g a b c ρ M) P ↔ Ok (a ρ M) fun p => Ok (b ρ p.2) fun q => Ok (f p.1 q.1 q.2) fun r => Ok (asB r.1) fun k => if k = true then Ok (c ρ r.2) fun s => Ok (g q.1 s.1 s.2) P else P (.d (.bl false), r.2) := by
  unfold eChain
  cases a ρ M with
  | none => simp
  | some p =>
    obtain ⟨x, M1⟩ := p
    simp only [ok_some]
    cases b ρ M1 with
    | none => simp
    | some q =>
      obtain ⟨y, M2⟩ := q
      simp only [ok_some]
      cases f x y M2 with
      | none => simp
      | some r =>
        obtain ⟨z, M3⟩ := r
        simp only [ok_some]
        cases z with
        | c n => simp [asB]
        | r n => simp [asB]
        | d z =>
          cases z with
          | bl k =>
            cases k
            · simp
            · simp only [ok_asB, if_true]
              cases c ρ M3 <;> simp
          | _ => simp [asB]
@[simp ↓] theorem ok_eAnd {a b : DE} : Ok (eAnd a b ρ M) P ↔ Ok (a ρ M) fun p => Ok (asB p.1) fun k => if k = true then Ok (b ρ p.2) P else P (.d (.bl false), p.2) := by
  unfold eAnd
  cases a ρ M with
  | none => simp
  | some p =>
    obtain ⟨z, M3⟩ := p
    cases z with
    | c n => simp [asB]
    | r n => simp [asB]
    | d z =>
      cases z with
      | bl k => cases k <;> simp
      | _ => simp [asB]
@[simp ↓] theorem ok_eOr {a b : DE} : Ok (eOr a b ρ M) P ↔ Ok (a ρ M) fun p => Ok (asB p.1) fun k => if k = true then P (.d (.bl true), p.2) else Ok (b ρ p.2) P := by
  unfold eOr
  cases a ρ M with
  | none => simp
  | some p =>
    obtain ⟨z, M3⟩ := p
    cases z with
    | c n => simp [asB]
    | r n => simp [asB]
    | d z =>
      cases z with
      | bl k => cases k <;> simp
      | _ => simp [asB]
@[simp ↓] theorem ok_eNot {a : DE} : Ok (eNot a ρ M) P ↔ Ok (a ρ M) fun p => Ok (asB p.1) fun k => P (.d (.bl (!k)), p.2) := by
  unfold eNot
  cases a ρ M with
  | none => simp
  | some p =>
    obtain ⟨z, M3⟩ := p
    cases z with
    | c n => simp [asB]
    | r n => simp [asB]
    | d z =>
      cases z with
      | bl k => cases k <;> simp
      | _ => simp [asB]
@[simp ↓] theorem ok_eIf {t : DT} {a b : DE} : Ok (eIf t a b ρ M) P ↔ Ok (t ρ M) fun p => if p.1 = true then Ok (a ρ p.2) P else Ok (b ρ p.2) P := by
  unfold eIf
  cases t ρ M with
  | none => simp
  | some p =>
    obtain ⟨k, M3⟩ := p
    cases k <;> simp
@[simp ↓] theorem ok_eFrz {a : DE} : Ok (eFrz a ρ M) P ↔ Ok (a ρ M) fun p => Ok (frz M.length p) P := by
  unfold eFrz
  cases a ρ M <;> simp
@[simp ↓] theorem ok_eFrzC {a : DE} : Ok (eFrzC a ρ M) P ↔ Ok (a ρ M) fun p => Ok (asC p.1) fun n => Ok (cel p.2 n) fun xs => P (.d (.lst xs), p.2.set n none) := by
  unfold eFrzC
  cases a ρ M with
  | none => simp
  | some p =>
    obtain ⟨z, M3⟩ := p
    cases z with
    | d z => simp [asC]
    | r n => simp [asC]
    | c n =>
      simp only [ok_some, ok_asC]
      unfold cel
      cases e : (M3[n]?).join with
      | none => simp
      | some xs => simp
@[simp ↓] theorem ok_eSl {f : Dv → Option Int → Option Int → DSt → Option (Dv × DSt)} {a : DE} {lo hi : DO} : Ok (eSl f a lo hi ρ M) P ↔ Ok (a ρ M) fun p => Ok (lo ρ p.2) fun q => Ok (hi ρ q.2) fun r => Ok (f p.1 q.1 r.1 r.2) P := by
  unfold eSl
  cases a ρ M with
  | none => simp
  | some p =>
    obtain ⟨x, M1⟩ := p
    simp only [ok_some]
    cases lo ρ M1 with
    | none => simp
    | some q =>
      obtain ⟨y, M2⟩ := q
      simp only [ok_some]
      cases hi ρ M2 <;> simp
@[simp ↓] theorem ok_pNone {P : Option Int × DSt → Prop} : Ok (pNone ρ M) P ↔ P (none, M) := by simp [pNone]
@[simp ↓] theorem ok_pSome {a : DE} {P : Option Int × DSt → Prop} : Ok (pSome a ρ M) P ↔ Ok (a ρ M) fun p => Ok (asI p.1) fun i => P (some i, p.2) := by
  unfold pSome
  cases a ρ M with
  | none => simp
  | some p =>
    obtain ⟨z, M3⟩ := p
    cases z with
    | c n => simp [asI]
    | r n => simp [asI]
    | d z => cases z <;> simp [asI]
end
section
variable {ρ : DEnv} {M : DSt} {P : Bool × DSt → Prop}
@[simp ↓] theorem ok_tVal {a : DE} : Ok (tVal a ρ M) P ↔ Ok (a ρ M) fun p => Ok (asB p.1) fun b => P (b, p.2) := by
  unfold tVal
  cases a ρ M with
  | none => simp
  | some p =>
    obtain ⟨z, M3⟩ := p
    cases z with
    | c n => simp [asB]
    | r n => simp [asB]
    | d z => cases z <;> simp [asB]
@[simp ↓] theorem ok_tAnd {a b : DT} : Ok (Rw.tAnd a b ρ M) P ↔ Ok (a ρ M) fun p => if p.1 = true then Ok (b ρ p.2) P else P (false, p.2) := by
  unfold tAnd
  cases a ρ M with
  | none => simp
  | some p =>
    obtain ⟨k, M3⟩ := p
    cases k <;> simp
@[simp ↓] theorem ok_tOr {a b : DT} : Ok (Rw.tOr a b ρ M) P ↔ Ok (a ρ M) fun p => if p.1 = true then P (true, p.2) else Ok (b ρ p.2) P := by
  unfold tOr
  cases a ρ M with
  | none => simp
  | some p =>
    obtain ⟨k, M3⟩ := p
    cases k <;> simp
@[simp ↓] theorem ok_tNot {a : DT} : Ok (Rw.tNot a ρ M) P ↔ Ok (a ρ M) fun p => P (!p.1, p.2) := by
  unfold tNot
  cases a ρ M <;> simp
@[simp ↓] theorem ok_tYes : Ok (tYes ρ M) P ↔ P (true, M) := by simp [tYes]
end
section
variable {ρ : DEnv} {M : DSt} {P : Out → Prop}
/-- what follows a statement -/
def seqP (t : DS) (P : Out → Prop) : Out → Prop
  | .nx ρ M => Ok (t ρ M) P
  | .rt v M => P (.rt v M)
  | .bk ρ M => P (.bk ρ M)
  | .ct ρ M => P (.ct ρ M)
@[simp ↓] theorem seqP_nx {t : DS} : seqP t P (.nx ρ M) ↔ Ok (t ρ M) P := Iff.rfl
@[simp ↓] theorem seqP_rt {t : DS} {v : Dv} : seqP t P (.rt v M) ↔ P (.rt v M) := Iff.rfl
@[simp ↓] theorem seqP_bk {t : DS} : seqP t P (.bk ρ M) ↔ P (.bk ρ M) := Iff.rfl
@[simp ↓] theorem seqP_ct {t : DS} : seqP t P (.ct ρ M) ↔ P (.ct ρ M) := Iff.rfl
@[simp ↓] theorem ok_seq {s t : DS} : Ok (dSeq s t ρ M) P ↔ Ok (s ρ M) (seqP t P) := by
  unfold dSeq
  cases s ρ M with
  | none => simp
  | some o => cases o <;> simp
@[simp ↓] theorem ok_pass : Ok (dPass ρ M) P ↔ P (.nx ρ M) := by simp [dPass]
@[simp ↓] theorem ok_break : Ok (dBreak ρ M) P ↔ P (.bk ρ M) := by simp [dBreak]
@[simp ↓] theorem ok_cont : Ok (dCont ρ M) P ↔ P (.ct ρ M) := by simp [dCont]
@[simp ↓] theorem ok_never : Ok (dNever ρ M) P ↔ False := by simp [dNever]
@[simp ↓] theorem ok_asg {tg : Tgt} {a : DE} : Ok (dAsg tg a ρ M) P ↔ Ok (a ρ M) fun p => Ok (tg.put p.1 ρ) fun ρ1 => P (.nx ρ1 p.2) := by
  unfold dAsg
  cases a ρ M with
  | none => simp
  | some p =>
    obtain ⟨x, M1⟩ := p
    simp only [ok_some]
    cases tg.put x ρ <;> simp
@[simp] theorem put_name {i : Nat} {v : Dv} : Tgt.put (.name i) v ρ = some (ρ.set i (some v)) := by simp [Tgt.put]
@[simp ↓] theorem ok_putN {i : Nat} {v : Dv} {P : DEnv → Prop} : Ok (Tgt.put (.name i) v ρ) P ↔ P (ρ.set i (some v)) := by simp
@[simp] theorem put_tup {ts : List Tgt} {xs : List D} : Tgt.put (.tup ts) (.d (.tup xs)) ρ = if xs.length = ts.length then Tgt.puts ts xs ρ else none := by simp [Tgt.put]
@[simp] theorem put_lst {ts : List Tgt} {xs : List D} : Tgt.put (.tup ts) (.d (.lst xs)) ρ = if xs.length = ts.length then Tgt.puts ts xs ρ else none := by simp [Tgt.put]
@[simp ↓] theorem ok_putT {ts : List Tgt} {xs : List D} {P : DEnv → Prop} : Ok (Tgt.put (.tup ts) (.d (.tup xs)) ρ) P ↔ xs.length = ts.length ∧ Ok (Tgt.puts ts xs ρ) P := by
  simp only [put_tup]
  split <;> simp_all
@[simp ↓] theorem ok_putL {ts : List Tgt} {xs : List D} {P : DEnv → Prop} : Ok (Tgt.put (.tup ts) (.d (.lst xs)) ρ) P ↔ xs.length = ts.length ∧ Ok (Tgt.puts ts xs ρ) P := by
  simp only [put_lst]
  split <;> simp_all
@[simp] theorem puts_nil : Tgt.puts [] [] ρ = some ρ := by simp [Tgt.puts]
@[simp] theorem puts_cons {t : Tgt} {ts : List Tgt} {x : D} {xs : List D} : Tgt.puts (t :: ts) (x :: xs) ρ = (t.put (.d x) ρ).bind (Tgt.puts ts xs) := by
  simp only [Tgt.puts]
  cases t.put (.d x) ρ <;> rfl
@[simp ↓] theorem ok_puts0 {P : DEnv → Prop} : Ok (Tgt.puts [] [] ρ) P ↔ P ρ := by simp
@[simp ↓] theorem ok_putsC {t : Tgt} {ts : List Tgt} {x : D} {xs : List D} {P : DEnv → Prop} : Ok (Tgt.puts (t :: ts) (x :: xs) ρ) P ↔ Ok (t.put (.d x) ρ) fun ρ1 => Ok (Tgt.puts ts xs ρ1) P := by
  rw [puts_cons]
  cases t.put (.d x) ρ <;> simp
@[simp ↓] theorem ok_par {i j : Nat} {a b : DE} : Ok (dPar i j a b ρ M) P ↔ Ok (a ρ M) fun p => Ok (b ρ p.2) fun q => P (.nx ((ρ.set i (some p.1)).set j (some q.1)) q.2) := by
  unfold dPar
  cases a ρ M with
  | none => simp
  | some p =>
    obtain ⟨x, M1⟩ := p
    simp only [ok_some]
    cases b ρ M1 <;> simp
@[simp ↓] theorem ok_aug {i : Nat} {f : O2} {a : DE} : Ok (dAug i f a ρ M) P ↔ Ok (getV ρ i) fun x => Ok (a ρ M) fun p => Ok (f x p.1 p.2) fun q => P (.nx (ρ.set i (some q.1)) q.2) := by
  unfold dAug
  rw [getV_eq]
  cases e : ρ[i]? with
  | none => simp
  | some o =>
    cases o with
    | none => simp
    | some x =>
      simp only [Option.join_some, ok_some]
      cases a ρ M with
      | none => simp
      | some p =>
        obtain ⟨y, M1⟩ := p
        simp only [ok_some]
        cases f x y M1 <;> simp
@[simp ↓] theorem ok_put {o i e : DE} : Ok (dPut o i e ρ M) P ↔ Ok (e ρ M) fun p => Ok (asD p.1) fun x => Ok (o ρ p.2) fun q => Ok (asC q.1) fun n => Ok (i ρ q.2) fun r => Ok (asI r.1) fun k => Ok (cel r.2 n) fun xs => Ok (ixD xs.length k) fun j => P (.nx ρ (setC r.2 n (xs.set j x))) := by
  unfold dPut
  cases e ρ M with
  | none => simp
  | some p =>
    obtain ⟨x, M1⟩ := p
    simp only [ok_some]
    cases x with
    | c n => simp [asD]
    | r n => simp [asD]
    | d x =>
      simp only [ok_asD]
      cases o ρ M1 with
      | none => simp
      | some q =>
        obtain ⟨y, M2⟩ := q
        simp only [ok_some]
        cases y with
        | d n => simp [asC]
        | r n => simp [asC]
        | c n =>
          simp only [ok_asC]
          cases i ρ M2 with
          | none => simp
          | some r =>
            obtain ⟨z, M3⟩ := r
            simp only [ok_some]
            cases z with
            | c n => simp [asI]
            | r n => simp [asI]
            | d z =>
              cases z with
              | int k =>
                simp only [ok_asI]
                unfold cel
                cases e1 : (M3[n]?).join with
                | none => simp
                | some xs =>
                  simp only [ok_some]
                  cases e2 : ixD xs.length k with
                  | none => simp
                  | some j => simp
              | _ => simp [asI]
@[simp ↓] theorem ok_expr {a : DE} : Ok (dExpr a ρ M) P ↔ Ok (a ρ M) fun p => P (.nx ρ p.2) := by
  unfold dExpr
  cases a ρ M <;> simp
@[simp ↓] theorem ok_ret {a : DE} : Ok (dRet a ρ M) P ↔ Ok (a ρ M) fun p => P (.rt p.1 p.2) := by
  unfold dRet
  cases a ρ M <;> simp
@[simp ↓] theorem ok_retN : Ok (dRetN ρ M) P ↔ P (.rt (.d .non) M) := by simp [dRetN]
@[simp ↓] theorem ok_if {t : DT} {a b : DS} : Ok (dIf t a b ρ M) P ↔ Ok (t ρ M) fun p => if p.1 = true then Ok (a ρ p.2) P else Ok (b ρ p.2) P := by
  unfold dIf
  cases t ρ M with
  | none => simp
  | some p =>
    obtain ⟨k, M3⟩ := p
    cases k <;> simp
@[simp ↓] theorem ok_wipe {vs : List Nat} {s : DS} : Ok (dWipe vs s ρ M) P ↔ Ok (s ρ M) fun o => P (wipeO vs o) := by
  unfold dWipe
  cases s ρ M <;> simp
@[simp ↓] theorem ok_pre {vs : List Nat} {s : DS} : Ok (dPre vs s ρ M) P ↔ Ok (s (wipeD ρ vs) M) P := Iff.rfl
@[simp] theorem wipeO_nx {vs : List Nat} : wipeO vs (.nx ρ M) = .nx (wipeD ρ vs) M := rfl
@[simp] theorem wipeO_bk {vs : List Nat} : wipeO vs (.bk ρ M) = .bk (wipeD ρ vs) M := rfl
@[simp] theorem wipeO_ct {vs : List Nat} : wipeO vs (.ct ρ M) = .ct (wipeD ρ vs) M := rfl
@[simp] theorem wipeO_rt {vs : List Nat} {v : Dv} : wipeO vs (.rt v M) = .rt v M := rfl
@[simp] theorem wipeD_nil : wipeD ρ [] = ρ := rfl
@[simp] theorem wipeD_cons {v : Nat} {vs : List Nat} : wipeD ρ (v :: vs) = (wipeD ρ vs).set v none := rfl
@[simp ↓] theorem ok_for {it : DI} {tg : Tgt} {s : DS} : Ok (dFor it tg s ρ M) P ↔ Ok (it ρ M) fun p => Ok (forL (stand p.2.1 p.2.2) (forStep tg s) p.1 ρ p.2.2) P := by
  unfold dFor
  cases it ρ M <;> simp
@[simp ↓] theorem ok_forStep {tg : Tgt} {s : DS} {x : D} : Ok (forStep tg s x ρ M) P ↔ Ok (tg.put (.d x) ρ) fun ρ1 => Ok (s ρ1 M) P := by
  unfold forStep
  cases tg.put (.d x) ρ <;> simp
/-- what a turn is to reach -/
def turnP (Nx : DEnv → DSt → Prop) (P : Out → Prop) : Out → Prop
  | .nx ρ M => Nx ρ M
  | .ct ρ M => Nx ρ M
  | .bk ρ M => P (.nx ρ M)
  | .rt v M => P (.rt v M)
@[simp ↓] theorem turnP_nx {Nx : DEnv → DSt → Prop} : turnP Nx P (.nx ρ M) ↔ Nx ρ M := Iff.rfl
@[simp ↓] theorem turnP_ct {Nx : DEnv → DSt → Prop} : turnP Nx P (.ct ρ M) ↔ Nx ρ M := Iff.rfl
@[simp ↓] theorem turnP_bk {Nx : DEnv → DSt → Prop} : turnP Nx P (.bk ρ M) ↔ P (.nx ρ M) := Iff.rfl
@[simp ↓] theorem turnP_rt {Nx : DEnv → DSt → Prop} {v : Dv} : turnP Nx P (.rt v M) ↔ P (.rt v M) := Iff.rfl
/-- a for by its invariant -/
theorem forL_by {α : Type} {chk : DSt → Prop} {step : α → DEnv → DSt → Option Out} : ∀ (xs : List α) {ρ : DEnv} {M : DSt} (I : Nat → DEnv → DSt → Prop), I 0 ρ M →
    (∀ i x ρ M, xs[i]? = some x → I i ρ M → chk M ∧ Ok (step x ρ M) (turnP (I (i + 1)) P)) → (∀ ρ M, I xs.length ρ M → chk M ∧ P (.nx ρ M)) → Ok (forL chk step xs ρ M) P
  | [], ρ, M, I, h0, _, hd => by
    unfold forL
    rw [ok_grd]
    obtain ⟨a, b⟩ := hd ρ M h0
    exact ⟨a, by simpa using b⟩
  | x :: xs, ρ, M, I, h0, hs, hd => by
    unfold forL
    rw [ok_grd]
    obtain ⟨a, o, e, b⟩ := hs 0 x ρ M rfl h0
    refine ⟨a, ?_⟩
    rw [e]
    cases o with
    | nx ρ1 M1 => exact forL_by xs (fun i => I (i + 1)) b (fun i y ρ M hy hI => hs (i + 1) y ρ M (by simpa using hy) hI) (fun ρ M hI => hd ρ M hI)
    | ct ρ1 M1 => exact forL_by xs (fun i => I (i + 1)) b (fun i y ρ M hy hI => hs (i + 1) y ρ M (by simpa using hy) hI) (fun ρ M hI => hd ρ M hI)
    | bk ρ1 M1 => simpa using b
    | rt v M1 => simpa using b
/-- a while by its invariant and a measure -/
theorem while_by {t : DT} {s : DS} (I : Nat → DEnv → DSt → Prop) : ∀ (n : Nat) {ρ : DEnv} {M : DSt}, I n ρ M →
    (∀ n ρ M, I n ρ M → Ok (t ρ M) fun p => if p.1 = true then Ok (s ρ p.2) (turnP (fun ρ' M' => ∃ m, m < n ∧ I m ρ' M') P) else P (.nx ρ p.2)) → Ok (dWhile t s ρ M) P := by
  intro n
  induction n using Nat.strongRecOn with
  | _ n ih =>
    intro ρ M h0 hs
    obtain ⟨p, e, h⟩ := hs n ρ M h0
    obtain ⟨b, M1⟩ := p
    rw [dWhile_eq, e]
    cases b with
    | false => simpa using h
    | true =>
      simp only [if_true] at h
      obtain ⟨o, e2, h⟩ := h
      simp only [e2]
      cases o with
      | nx ρ1 M2 =>
        obtain ⟨m, hm, hI⟩ := h
        exact ih m hm hI hs
      | ct ρ1 M2 =>
        obtain ⟨m, hm, hI⟩ := h
        exact ih m hm hI hs
      | bk ρ1 M2 => simpa using h
      | rt v M2 => simpa using h
/-- behind a def's body -/
def finP (b : Nat) (P : Dv × DSt → Prop) : Out → Prop
  | .rt v M => Ok (fin b v M) P
  | .nx _ M => Ok (fin b (.d .non) M) P
  | _ => False
@[simp ↓] theorem finP_rt {b : Nat} {P : Dv × DSt → Prop} {v : Dv} : finP b P (.rt v M) ↔ Ok (fin b v M) P := Iff.rfl
@[simp ↓] theorem finP_nx {b : Nat} {P : Dv × DSt → Prop} : finP b P (.nx ρ M) ↔ Ok (fin b (.d .non) M) P := Iff.rfl
theorem ok_fn {n : Nat} {s : DS} {as : List Dv} {P : Dv × DSt → Prop} : Ok (fnD n s as M) P ↔ Ok (s (startD n as) M) (finP M.length P) := by
  unfold fnD
  cases s (startD n as) M with
  | none => simp
  | some o => cases o <;> simp [finP]
@[simp] theorem fin_d {b : Nat} {x : D} : fin b (.d x) M = some (.d x, M.take b) := rfl
@[simp] theorem fin_r {b : Nat} {x : List D} : fin b (.r x) M = some (.r x, M.take b) := rfl
end
/-! ### what is walked -/
section
variable {ρ : DEnv} {M : DSt} {P : List D × List Nat × DSt → Prop}
@[simp ↓] theorem ok_iS {a : DE} : Ok (iS a ρ M) P ↔ Ok (a ρ M) fun p => Ok (sv p.2 p.1) fun xs => P (xs, cellsOf p.1, p.2) := by
  unfold iS
  cases a ρ M with
  | none => simp
  | some p =>
    obtain ⟨x, M1⟩ := p
    simp only [ok_some]
    cases x with
    | c n => simp only [sv]; cases lv M1 (.c n) <;> simp
    | r n => simp [sv, lv]
    | d x => cases x <;> simp [sv, lv, cellsOf]
/-- ranges, pairs, of known arguments -/
noncomputable def wR1 (vs : List Dv) (M : DSt) : Option (List D × List Nat × DSt) := match vs with
  | [.d (.int j)] => grd (-(2 ^ 62) ≤ j ∧ j < 2 ^ 62) (some (rng 0 j.toNat, [], M))
  | _ => none
noncomputable def wR2 (vs : List Dv) (M : DSt) : Option (List D × List Nat × DSt) := match vs with
  | [.d (.int i), .d (.int j)] => grd (-(2 ^ 62) ≤ i ∧ i < 2 ^ 62 ∧ -(2 ^ 62) ≤ j ∧ j < 2 ^ 62) (some (rng i (j - i).toNat, [], M))
  | _ => none
@[simp ↓] theorem ok_iR1 {a : DA} : Ok (iR1 a ρ M) P ↔ Ok (a ρ M) fun p => Ok (wR1 p.1 p.2) P := by
  unfold iR1 wR1
  cases a ρ M with
  | none => simp
  | some p =>
    obtain ⟨x, M1⟩ := p
    simp only [ok_some]
    split
    · rename_i j M2 e
      cases e
      exact Iff.rfl
    · rename_i h
      split
      · rename_i j
        exact absurd rfl (h j M1)
      · exact Iff.rfl
@[simp ↓] theorem ok_iR2 {a : DA} : Ok (iR2 a ρ M) P ↔ Ok (a ρ M) fun p => Ok (wR2 p.1 p.2) P := by
  unfold iR2 wR2
  cases a ρ M with
  | none => simp
  | some p =>
    obtain ⟨x, M1⟩ := p
    simp only [ok_some]
    split
    · rename_i i j M2 e
      cases e
      exact Iff.rfl
    · rename_i h
      split
      · rename_i i j
        exact absurd rfl (h i j M1)
      · exact Iff.rfl
@[simp ↓] theorem ok_wR1 {j : Int} : Ok (wR1 [.d (.int j)] M) P ↔ (-(2 ^ 62) ≤ j ∧ j < 2 ^ 62) ∧ P (rng 0 j.toNat, [], M) := by simp only [wR1, ok_grd, ok_some]
@[simp ↓] theorem ok_wR2 {i j : Int} : Ok (wR2 [.d (.int i), .d (.int j)] M) P ↔ (-(2 ^ 62) ≤ i ∧ i < 2 ^ 62 ∧ -(2 ^ 62) ≤ j ∧ j < 2 ^ 62) ∧ P (rng i (j - i).toNat, [], M) := by simp only [wR2, ok_grd, ok_some]
def wEn (vs : List Dv) (M : DSt) : Option (List D × List Nat × DSt) := match vs with
  | [x] => match lv M x with
    | some xs => some (enumD 0 xs, cellsOf x, M)
    | none => none
  | _ => none
def wZ (vs : List Dv) (M : DSt) : Option (List D × List Nat × DSt) := match vs with
  | [x, y] => match lv M x, lv M y with
    | some xs, some ys => some (zipD xs ys, cellsOf x ++ cellsOf y, M)
    | _, _ => none
  | _ => none
@[simp ↓] theorem ok_iEn {a : DA} : Ok (iEn a ρ M) P ↔ Ok (a ρ M) fun p => Ok (wEn p.1 p.2) P := by
  unfold iEn wEn
  cases a ρ M with
  | none => simp
  | some p =>
    obtain ⟨x, M1⟩ := p
    simp only [ok_some]
    split
    · rename_i y M2 e
      cases e
      exact Iff.rfl
    · rename_i h
      split
      · rename_i y
        exact absurd rfl (h y M1)
      · exact Iff.rfl
@[simp ↓] theorem ok_iZ {a : DA} : Ok (iZ a ρ M) P ↔ Ok (a ρ M) fun p => Ok (wZ p.1 p.2) P := by
  unfold iZ wZ
  cases a ρ M with
  | none => simp
  | some p =>
    obtain ⟨x, M1⟩ := p
    simp only [ok_some]
    split
    · rename_i y z M2 e
      cases e
      exact Iff.rfl
    · rename_i h
      split
      · rename_i y z
        exact absurd rfl (h y z M1)
      · exact Iff.rfl
@[simp ↓] theorem ok_wEn {x : Dv} : Ok (wEn [x] M) P ↔ Ok (lv M x) fun xs => P (enumD 0 xs, cellsOf x, M) := by
  unfold wEn
  cases e : lv M x <;> simp [e]
@[simp ↓] theorem ok_wZ {x y : Dv} : Ok (wZ [x, y] M) P ↔ Ok (lv M x) fun xs => Ok (lv M y) fun ys => P (zipD xs ys, cellsOf x ++ cellsOf y, M) := by
  unfold wZ
  cases e : lv M x <;> cases e' : lv M y <;> simp [e, e']
end
/-! ### operators on known values -/
section
variable {M : DSt} {i j : Int} {c : Bool}
@[simp] theorem oAdd_i : oAdd c (.d (.int i)) (.d (.int j)) M = some (.d (.int (i + j)), M) := rfl
@[simp] theorem oSub_i : oSub (.d (.int i)) (.d (.int j)) M = some (.d (.int (i - j)), M) := rfl
@[simp] theorem oI_i {f : Int → Int → D} : oI f (.d (.int i)) (.d (.int j)) M = some (.d (f i j), M) := rfl
@[simp] theorem oMulU_i : oMulU c (.d (.int i)) (.d (.int j)) M = grd (mulOk i j) (some (.d (.int (i * j)), M)) := rfl
@[simp] theorem oDiv_i : oDiv (.d (.int i)) (.d (.int j)) M = grd (divOk j) (some (.d (.int (i.fdiv j)), M)) := rfl
@[simp] theorem oMod_i : oMod (.d (.int i)) (.d (.int j)) M = grd (j ≠ 0) (some (.d (.int (i.fmod j)), M)) := rfl
@[simp] theorem oPow_i : oPow (.d (.int i)) (.d (.int j)) M = grd (powOk i j) (some (.d (.int (i ^ j.toNat)), M)) := rfl
@[simp] theorem oLt_i : oLt (.d (.int i)) (.d (.int j)) M = some (.d (.bl (decide (i < j))), M) := rfl
@[simp] theorem oLe_i : oLe (.d (.int i)) (.d (.int j)) M = some (.d (.bl (decide (i ≤ j))), M) := rfl
@[simp] theorem oGt_i : oGt (.d (.int i)) (.d (.int j)) M = some (.d (.bl (decide (j < i))), M) := rfl
@[simp] theorem oGe_i : oGe (.d (.int i)) (.d (.int j)) M = some (.d (.bl (decide (j ≤ i))), M) := rfl
@[simp] theorem oNeg_i : oNeg (.d (.int i)) M = some (.d (.int (-i)), M) := rfl
@[simp] theorem oAbs_i : oAbs [.d (.int i)] M = some (.d (.int (if i < 0 then -i else i)), M) := rfl
@[simp] theorem oMax2_i : oMax2 [.d (.int i), .d (.int j)] M = some (.d (.int (if j > i then j else i)), M) := rfl
@[simp] theorem oMin2_i : oMin2 [.d (.int i), .d (.int j)] M = some (.d (.int (if j < i then j else i)), M) := rfl
@[simp] theorem oInt_i : oInt [.d (.int i)] M = some (.d (.int i), M) := rfl
@[simp] theorem oInt_b {b : Bool} : oInt [.d (.bl b)] M = some (.d (.int (if b then 1 else 0)), M) := rfl
@[simp] theorem oEq_i : oEq (.d (.int i)) (.d (.int j)) M = some (.d (.bl (i == j)), M) := by simp [oEq, dv, D.shp, D.eqv, grd_ok]
@[simp] theorem oNe_i : oNe (.d (.int i)) (.d (.int j)) M = some (.d (.bl (!(i == j))), M) := by simp [oNe, dv, D.shp, D.eqv, grd_ok]
@[simp] theorem oIsN_d {x : D} : oIsN (.d x) M = some (.d (.bl (isNon (.d x))), M) := rfl
@[simp] theorem oNotN_d {x : D} : oNotN (.d x) M = some (.d (.bl (!isNon (.d x))), M) := rfl
@[simp] theorem isNon_non : isNon (.d .non) = true := rfl
@[simp] theorem isNon_int : isNon (.d (.int i)) = false := rfl
@[simp] theorem isNon_tup {xs : List D} : isNon (.d (.tup xs)) = false := rfl
@[simp] theorem isNon_lst {xs : List D} : isNon (.d (.lst xs)) = false := rfl
@[simp] theorem lv_lst {xs : List D} : lv M (.d (.lst xs)) = some xs := rfl
@[simp] theorem lv_r {xs : List D} : lv M (.r xs) = some xs := rfl
@[simp] theorem lv_c {n : Nat} : lv M (.c n) = (M[n]?).join := rfl
@[simp] theorem lw_lst {xs : List D} : lw M (.d (.lst xs)) = some xs := rfl
@[simp] theorem lw_c {n : Nat} : lw M (.c n) = (M[n]?).join := rfl
@[simp] theorem sv_lst {xs : List D} : sv M (.d (.lst xs)) = some xs := rfl
@[simp] theorem sv_tup {xs : List D} : sv M (.d (.tup xs)) = some xs := rfl
@[simp] theorem sv_r {xs : List D} : sv M (.r xs) = some xs := rfl
@[simp] theorem sv_c {n : Nat} : sv M (.c n) = (M[n]?).join := rfl
@[simp] theorem cellsOf_d {x : D} : cellsOf (.d x) = [] := rfl
@[simp] theorem cellsOf_r {x : List D} : cellsOf (.r x) = [] := rfl
@[simp] theorem cellsOf_c {n : Nat} : cellsOf (.c n) = [n] := rfl
@[simp] theorem stand_nil {M' : DSt} : stand [] M M' ↔ True := by simp [stand]
@[simp] theorem allD_nil : allD [] = some [] := rfl
@[simp] theorem allD_cons {x : D} {r : List Dv} : allD (.d x :: r) = (allD r).map (x :: ·) := rfl
@[simp] theorem mkL_f {xs : List D} : mkL false xs M = some (.d (.lst xs), M) := rfl
@[simp] theorem mkL_t {xs : List D} : mkL true xs M = some (.c M.length, M ++ [some xs]) := rfl
@[simp] theorem setC_eq {n : Nat} {xs : List D} : setC M n xs = M.set n (some xs) := rfl
@[simp] theorem take_set_len {n : Nat} {x : Option (List D)} : (List.set M n x).take (List.length M) = M.set n x := by rw [List.take_of_length_le]; simp
@[simp ↓] theorem ok_allD0 {P : List D → Prop} : Ok (allD []) P ↔ P [] := by simp
@[simp ↓] theorem ok_allDC {x : D} {r : List Dv} {P : List D → Prop} : Ok (allD (.d x :: r)) P ↔ Ok (allD r) fun xs => P (x :: xs) := by
  rw [allD_cons]
  cases allD r <;> simp
@[simp] theorem fin_new {xs : List D} : fin (List.length M) (.c (List.length M)) (M ++ [some xs]) = some (.c (List.length M), M ++ [some xs]) := by simp [fin]
theorem rng_at {a : Int} {n i : Nat} {x : D} : (rng a n)[i]? = some x ↔ i < n ∧ x = .int (a + (i : Int)) := by
  unfold rng
  rw [List.getElem?_map]
  by_cases h : i < n
  · rw [List.getElem?_range h]
    simp [h, eq_comm]
  · rw [List.getElem?_eq_none (by simpa using h)]
    simp [h]
@[simp] theorem rng_len {a : Int} {n : Nat} : (rng a n).length = n := by simp [rng]
@[simp] theorem big_eq : big = 1000000 := rfl
@[simp] theorem oAdd_l {xs ys : List D} : oAdd c (.d (.lst xs)) (.d (.lst ys)) M = grd (xs.length + ys.length ≤ big) (mkL c (xs ++ ys) M) := rfl
@[simp] theorem slU_l {xs : List D} {l h : Option Int} : slU c (.d (.lst xs)) l h M = mkL c (cutD xs l h) M := rfl
@[simp] theorem slU_r {xs : List D} {l h : Option Int} : slU c (.r xs) l h M = mkL c (cutD xs l h) M := rfl
@[simp] theorem slU_t {xs : List D} {l h : Option Int} : slU c (.d (.tup xs)) l h M = some (.d (.tup (cutD xs l h)), M) := rfl
theorem cutD_mem {xs : List D} {l h : Option Int} {x : D} (hx : x ∈ cutD xs l h) : x ∈ xs := List.mem_of_mem_drop (List.mem_of_mem_take hx)
theorem cutD_len {xs : List D} {l h : Option Int} : (cutD xs l h).length ≤ xs.length := by
  unfold cutD
  rw [List.length_take, List.length_drop]
  exact Nat.le_trans (Nat.min_le_right _ _) (Nat.sub_le _ _)
theorem oIsi_d {T : String} {x : D} (h : ∀ n, x ≠ .ty n) : oIsi T [.d x, .d (.ty T)] M = some (.d (.bl (subTy x.tyN T)), M) := by
  unfold oIsi
  cases x <;> first | (simp [dv]; done) | exact absurd rfl (h _)
@[simp] theorem oIsi_bl {T : String} {b : Bool} : oIsi T [.d (.bl b), .d (.ty T)] M = some (.d (.bl (subTy "bool" T)), M) := oIsi_d (fun _ h => nomatch h)
@[simp] theorem oIsi_int {T : String} {b : Int} : oIsi T [.d (.int b), .d (.ty T)] M = some (.d (.bl (subTy "int" T)), M) := oIsi_d (fun _ h => nomatch h)
@[simp] theorem oIsi_tup {T : String} {b : List D} : oIsi T [.d (.tup b), .d (.ty T)] M = some (.d (.bl (subTy "tuple" T)), M) := oIsi_d (fun _ h => nomatch h)
@[simp] theorem oIsi_lst {T : String} {b : List D} : oIsi T [.d (.lst b), .d (.ty T)] M = some (.d (.bl (subTy "list" T)), M) := oIsi_d (fun _ h => nomatch h)
@[simp ↓] theorem ok_fin_d {b : Nat} {x : D} {P : Dv × DSt → Prop} : Ok (fin b (.d x) M) P ↔ P (.d x, M.take b) := by rw [fin_d] <;> simp
@[simp ↓] theorem ok_fin_r {b : Nat} {x : List D} {P : Dv × DSt → Prop} : Ok (fin b (.r x) M) P ↔ P (.r x, M.take b) := by rw [fin_r] <;> simp
@[simp ↓] theorem ok_oAdd_i {P : Dv × DSt → Prop} : Ok (oAdd c (.d (.int i)) (.d (.int j)) M) P ↔ P (.d (.int (i + j)), M) := by rw [oAdd_i] <;> simp
@[simp ↓] theorem ok_oSub_i {P : Dv × DSt → Prop} : Ok (oSub (.d (.int i)) (.d (.int j)) M) P ↔ P (.d (.int (i - j)), M) := by rw [oSub_i] <;> simp
@[simp ↓] theorem ok_oI_i {f : Int → Int → D} {P : Dv × DSt → Prop} : Ok (oI f (.d (.int i)) (.d (.int j)) M) P ↔ P (.d (f i j), M) := by rw [oI_i] <;> simp
@[simp ↓] theorem ok_oMulU_i {P : Dv × DSt → Prop} : Ok (oMulU c (.d (.int i)) (.d (.int j)) M) P ↔ (mulOk i j) ∧ P (.d (.int (i * j)), M) := by rw [oMulU_i] <;> simp
@[simp ↓] theorem ok_oDiv_i {P : Dv × DSt → Prop} : Ok (oDiv (.d (.int i)) (.d (.int j)) M) P ↔ (divOk j) ∧ P (.d (.int (i.fdiv j)), M) := by rw [oDiv_i] <;> simp
@[simp ↓] theorem ok_oMod_i {P : Dv × DSt → Prop} : Ok (oMod (.d (.int i)) (.d (.int j)) M) P ↔ (j ≠ 0) ∧ P (.d (.int (i.fmod j)), M) := by rw [oMod_i] <;> simp
@[simp ↓] theorem ok_oPow_i {P : Dv × DSt → Prop} : Ok (oPow (.d (.int i)) (.d (.int j)) M) P ↔ (powOk i j) ∧ P (.d (.int (i ^ j.toNat)), M) := by rw [oPow_i] <;> simp
@[simp ↓] theorem ok_oLt_i {P : Dv × DSt → Prop} : Ok (oLt (.d (.int i)) (.d (.int j)) M) P ↔ P (.d (.bl (decide (i < j))), M) := by rw [oLt_i] <;> simp
@[simp ↓] theorem ok_oLe_i {P : Dv × DSt → Prop} : Ok (oLe (.d (.int i)) (.d (.int j)) M) P ↔ P (.d (.bl (decide (i ≤ j))), M) := by rw [oLe_i] <;> simp
@[simp ↓] theorem ok_oGt_i {P : Dv × DSt → Prop} : Ok (oGt (.d (.int i)) (.d (.int j)) M) P ↔ P (.d (.bl (decide (j < i))), M) := by rw [oGt_i] <;> simp
@[simp ↓] theorem ok_oGe_i {P : Dv × DSt → Prop} : Ok (oGe (.d (.int i)) (.d (.int j)) M) P ↔ P (.d (.bl (decide (j ≤ i))), M) := by rw [oGe_i] <;> simp
@[simp ↓] theorem ok_oNeg_i {P : Dv × DSt → Prop} : Ok (oNeg (.d (.int i)) M) P ↔ P (.d (.int (-i)), M) := by rw [oNeg_i] <;> simp
@[simp ↓] theorem ok_oAbs_i {P : Dv × DSt → Prop} : Ok (oAbs [.d (.int i)] M) P ↔ P (.d (.int (if i < 0 then -i else i)), M) := by rw [oAbs_i] <;> simp
@[simp ↓] theorem ok_oMax2_i {P : Dv × DSt → Prop} : Ok (oMax2 [.d (.int i), .d (.int j)] M) P ↔ P (.d (.int (if j > i then j else i)), M) := by rw [oMax2_i] <;> simp
@[simp ↓] theorem ok_oMin2_i {P : Dv × DSt → Prop} : Ok (oMin2 [.d (.int i), .d (.int j)] M) P ↔ P (.d (.int (if j < i then j else i)), M) := by rw [oMin2_i] <;> simp
@[simp ↓] theorem ok_oInt_i {P : Dv × DSt → Prop} : Ok (oInt [.d (.int i)] M) P ↔ P (.d (.int i), M) := by rw [oInt_i] <;> simp
@[simp ↓] theorem ok_oInt_b {b : Bool} {P : Dv × DSt → Prop} : Ok (oInt [.d (.bl b)] M) P ↔ P (.d (.int (if b then 1 else 0)), M) := by rw [oInt_b] <;> simp
@[simp ↓] theorem ok_oEq_i {P : Dv × DSt → Prop} : Ok (oEq (.d (.int i)) (.d (.int j)) M) P ↔ P (.d (.bl (i == j)), M) := by rw [oEq_i] <;> simp
@[simp ↓] theorem ok_oNe_i {P : Dv × DSt → Prop} : Ok (oNe (.d (.int i)) (.d (.int j)) M) P ↔ P (.d (.bl (!(i == j))), M) := by rw [oNe_i] <;> simp
@[simp ↓] theorem ok_oIsN_d {x : D} {P : Dv × DSt → Prop} : Ok (oIsN (.d x) M) P ↔ P (.d (.bl (isNon (.d x))), M) := by rw [oIsN_d] <;> simp
@[simp ↓] theorem ok_oNotN_d {x : D} {P : Dv × DSt → Prop} : Ok (oNotN (.d x) M) P ↔ P (.d (.bl (!isNon (.d x))), M) := by rw [oNotN_d] <;> simp
@[simp ↓] theorem ok_lv_lst {xs : List D} {P : List D → Prop} : Ok (lv M (.d (.lst xs))) P ↔ P xs := by rw [lv_lst] <;> simp
@[simp ↓] theorem ok_lv_r {xs : List D} {P : List D → Prop} : Ok (lv M (.r xs)) P ↔ P xs := by rw [lv_r] <;> simp
@[simp ↓] theorem ok_lw_lst {xs : List D} {P : List D → Prop} : Ok (lw M (.d (.lst xs))) P ↔ P xs := by rw [lw_lst] <;> simp
@[simp ↓] theorem ok_sv_lst {xs : List D} {P : List D → Prop} : Ok (sv M (.d (.lst xs))) P ↔ P xs := by rw [sv_lst] <;> simp
@[simp ↓] theorem ok_sv_tup {xs : List D} {P : List D → Prop} : Ok (sv M (.d (.tup xs))) P ↔ P xs := by rw [sv_tup] <;> simp
@[simp ↓] theorem ok_sv_r {xs : List D} {P : List D → Prop} : Ok (sv M (.r xs)) P ↔ P xs := by rw [sv_r] <;> simp
@[simp ↓] theorem ok_mkL_f {xs : List D} {P : Dv × DSt → Prop} : Ok (mkL false xs M) P ↔ P (.d (.lst xs), M) := by rw [mkL_f] <;> simp
@[simp ↓] theorem ok_mkL_t {xs : List D} {P : Dv × DSt → Prop} : Ok (mkL true xs M) P ↔ P (.c M.length, M ++ [some xs]) := by rw [mkL_t] <;> simp
@[simp ↓] theorem ok_fin_new {xs : List D} {P : Dv × DSt → Prop} : Ok (fin (List.length M) (.c (List.length M)) (M ++ [some xs])) P ↔ P (.c (List.length M), M ++ [some xs]) := by rw [fin_new] <;> simp
@[simp ↓] theorem ok_oAdd_l {xs ys : List D} {P : Dv × DSt → Prop} : Ok (oAdd c (.d (.lst xs)) (.d (.lst ys)) M) P ↔ (xs.length + ys.length ≤ big) ∧ Ok (mkL c (xs ++ ys) M) P := by rw [oAdd_l] <;> simp
@[simp ↓] theorem ok_slU_t {xs : List D} {l h : Option Int} {P : Dv × DSt → Prop} : Ok (slU c (.d (.tup xs)) l h M) P ↔ P (.d (.tup (cutD xs l h)), M) := by rw [slU_t] <;> simp
@[simp ↓] theorem ok_oIsi_bl {T : String} {b : Bool} {P : Dv × DSt → Prop} : Ok (oIsi T [.d (.bl b), .d (.ty T)] M) P ↔ P (.d (.bl (subTy "bool" T)), M) := by rw [oIsi_bl] <;> simp
@[simp ↓] theorem ok_oIsi_int {T : String} {b : Int} {P : Dv × DSt → Prop} : Ok (oIsi T [.d (.int b), .d (.ty T)] M) P ↔ P (.d (.bl (subTy "int" T)), M) := by rw [oIsi_int] <;> simp
@[simp ↓] theorem ok_oIsi_tup {T : String} {b : List D} {P : Dv × DSt → Prop} : Ok (oIsi T [.d (.tup b), .d (.ty T)] M) P ↔ P (.d (.bl (subTy "tuple" T)), M) := by rw [oIsi_tup] <;> simp
@[simp ↓] theorem ok_oIsi_lst {T : String} {b : List D} {P : Dv × DSt → Prop} : Ok (oIsi T [.d (.lst b), .d (.ty T)] M) P ↔ P (.d (.bl (subTy "list" T)), M) := by rw [oIsi_lst] <;> simp
@[simp ↓] theorem ok_map {α β : Type} {o : Option α} {f : α → β} {P : β → Prop} : Ok (o.map f) P ↔ Ok o fun x => P (f x) := by cases o <;> simp
@[simp ↓] theorem ok_bind {α β : Type} {o : Option α} {f : α → Option β} {P : β → Prop} : Ok (o.bind f) P ↔ Ok o fun x => Ok (f x) P := by cases o <;> simp
theorem ok_oIxS {x : Dv} {P : Dv × DSt → Prop} {xs : List D} (h : sv M x = some xs) : Ok (oIx x (.d (.int i)) M) P ↔ Ok (atD xs i) fun z => P (.d z, M) := by
  unfold oIx atD
  simp only [h]
  cases e : ixD xs.length i with
  | none => simp
  | some k =>
    simp only
    cases e2 : xs[k]? with
    | none => simp
    | some z => simp
@[simp ↓] theorem ok_oIx_lst {P : Dv × DSt → Prop} {xs : List D} : Ok (oIx (.d (.lst xs)) (.d (.int i)) M) P ↔ Ok (atD xs i) fun z => P (.d z, M) := ok_oIxS rfl
@[simp ↓] theorem ok_oIx_tup {P : Dv × DSt → Prop} {xs : List D} : Ok (oIx (.d (.tup xs)) (.d (.int i)) M) P ↔ Ok (atD xs i) fun z => P (.d z, M) := ok_oIxS rfl
@[simp ↓] theorem ok_oIx_r {P : Dv × DSt → Prop} {xs : List D} : Ok (oIx (.r xs) (.d (.int i)) M) P ↔ Ok (atD xs i) fun z => P (.d z, M) := ok_oIxS rfl
@[simp ↓] theorem ok_oIx_c {P : Dv × DSt → Prop} {n : Nat} : Ok (oIx (.c n) (.d (.int i)) M) P ↔ Ok (cel M n) fun xs => Ok (atD xs i) fun z => P (.d z, M) := by
  unfold cel
  cases e : (M[n]?).join with
  | none => simp [oIx, sv, lv, e]
  | some xs =>
    rw [ok_oIxS (xs := xs) (by simp [e])]
    simp
@[simp] theorem ixD_0 {n : Nat} : ixD (n + 1) 0 = some 0 := by unfold ixD; rw [if_pos (by omega), if_pos (by omega)]; rfl
@[simp] theorem ixD_1 {n : Nat} : ixD (n + 2) 1 = some 1 := by unfold ixD; rw [if_pos (by omega), if_pos (by omega)]; rfl
@[simp] theorem ixD_2 {n : Nat} : ixD (n + 3) 2 = some 2 := by unfold ixD; rw [if_pos (by omega), if_pos (by omega)]; rfl
@[simp] theorem ixD_3 {n : Nat} : ixD (n + 4) 3 = some 3 := by unfold ixD; rw [if_pos (by omega), if_pos (by omega)]; rfl
@[simp ↓] theorem ok_atD0 {x : D} {r : List D} {P : D → Prop} : Ok (atD (x :: r) 0) P ↔ P x := by simp [atD]
@[simp ↓] theorem ok_atD1 {x y : D} {r : List D} {P : D → Prop} : Ok (atD (x :: y :: r) 1) P ↔ P y := by simp [atD]
@[simp ↓] theorem ok_atD2 {x y z : D} {r : List D} {P : D → Prop} : Ok (atD (x :: y :: z :: r) 2) P ↔ P z := by simp [atD]
@[simp ↓] theorem ok_atD3 {x y z w : D} {r : List D} {P : D → Prop} : Ok (atD (x :: y :: z :: w :: r) 3) P ↔ P w := by simp [atD]
@[simp ↓] theorem ok_ixD0 {n : Nat} {P : Nat → Prop} : Ok (ixD (n + 1) 0) P ↔ P 0 := by simp
@[simp ↓] theorem ok_ixD1 {n : Nat} {P : Nat → Prop} : Ok (ixD (n + 2) 1) P ↔ P 1 := by simp
theorem ok_ixDL {xs : List D} {k : Int} {P : Nat → Prop} (h0 : 0 ≤ k) (h1 : k < xs.length) : Ok (ixD xs.length k) P ↔ P k.toNat := by
  have : ixD xs.length k = some k.toNat := by unfold ixD; rw [if_pos h0, if_pos h1]
  simp [this]
@[simp ↓] theorem ok_ixDL0 {x : D} {xs : List D} {P : Nat → Prop} : Ok (ixD (x :: xs).length 0) P ↔ P 0 := by simp
@[simp ↓] theorem ok_ixDL1 {x y : D} {xs : List D} {P : Nat → Prop} : Ok (ixD (x :: y :: xs).length 1) P ↔ P 1 := by simp
theorem ixD_of {n : Nat} {i : Int} (h0 : 0 ≤ i) (h1 : i < n) : ixD n i = some i.toNat := by unfold ixD; rw [if_pos h0, if_pos h1]
theorem ixD_nat {n k : Nat} (h1 : k < n) : ixD n (k : Int) = some k := by rw [ixD_of (by omega) (by omega)]; rfl
end
theorem ok_forN {α : Type} {chk : DSt → Prop} {step : α → DEnv → DSt → Option Out} {ρ : DEnv} {M : DSt} {P : Out → Prop} : Ok (forL chk step [] ρ M) P ↔ chk M ∧ P (.nx ρ M) := by simp [forL]
theorem ok_forC {α : Type} {chk : DSt → Prop} {step : α → DEnv → DSt → Option Out} {x : α} {xs : List α} {ρ : DEnv} {M : DSt} {P : Out → Prop} : Ok (forL chk step (x :: xs) ρ M) P ↔ chk M ∧ Ok (step x ρ M) (turnP (fun ρ M => Ok (forL chk step xs ρ M) P) P) := by
  simp only [forL, ok_grd]
  refine and_congr_right fun _ => ?_
  cases h : step x ρ M with
  | none => simp
  | some o => cases o <;> simp
/-- a step that passes: the rest goes on from the same state -/
theorem if_pass {s t : DS} {ρ : DEnv} {M : DSt} {P : Out → Prop} (h : Ok (s ρ M) fun o => o = .nx ρ M) (k : Ok (t ρ M) P) : Ok (dSeq s t ρ M) P := by
  rw [ok_seq]
  exact h.mono fun o e => by subst e; exact k
theorem if_last {s : DS} {ρ : DEnv} {M : DSt} {P : Out → Prop} (h : Ok (s ρ M) fun o => o = .nx ρ M) (k : P (.nx ρ M)) : Ok (s ρ M) P := h.mono fun o e => by subst e; exact k
/-- a step, then the rest -/
theorem seq_by {s t : DS} {ρ : DEnv} {M : DSt} {P : Out → Prop} (Q : Out → Prop) (h : Ok (s ρ M) Q) (k : ∀ o, Q o → seqP t P o) : Ok (dSeq s t ρ M) P := by
  rw [ok_seq]
  exact h.mono k
end Rw
end PRwOk
section PRwMath
set_option autoImplicit false
set_option linter.all false
set_option maxRecDepth 100000
/-! RwMath: bounds, sizes, the greatest divisor. -/
namespace Rw
/-- x lies within A -/
def bd (A x : Int) : Prop := -A ≤ x ∧ x ≤ A
theorem bd_mono {A B x : Int} (h : bd A x) (l : A ≤ B) : bd B x := ⟨by have := h.1; omega, by have := h.2; omega⟩
theorem bd_add {A B C x y : Int} (hx : bd A x) (hy : bd B y) (l : A + B ≤ C) : bd C (x + y) := ⟨by have := hx.1; have := hy.1; omega, by have := hx.2; have := hy.2; omega⟩
theorem bd_sub {A B C x y : Int} (hx : bd A x) (hy : bd B y) (l : A + B ≤ C) : bd C (x - y) := ⟨by have := hx.1; have := hy.2; omega, by have := hx.2; have := hy.1; omega⟩
theorem bd_neg {A x : Int} (hx : bd A x) : bd A (-x) := ⟨by have := hx.2; omega, by have := hx.1; omega⟩
theorem bd_natAbs {A x : Int} (h : bd A x) : (x.natAbs : Int) ≤ A := by have := h.1; have := h.2; omega
theorem bd_of_natAbs {A x : Int} (h : (x.natAbs : Int) ≤ A) : bd A x := ⟨by omega, by omega⟩
theorem bd_nonneg {A x : Int} (h : bd A x) : 0 ≤ A := by have := h.1; have := h.2; omega
theorem bd_mul {A B C x y : Int} (hx : bd A x) (hy : bd B y) (l : A * B ≤ C) : bd C (x * y) := by
  refine bd_of_natAbs (Int.le_trans ?_ l)
  rw [Int.natAbs_mul, Int.natCast_mul]
  exact Int.mul_le_mul (bd_natAbs hx) (bd_natAbs hy) (by omega) (bd_nonneg hx)
theorem bd_fdiv {A x y : Int} (hx : bd A x) : bd A (x.fdiv y) := by
  refine bd_of_natAbs (Int.le_trans ?_ (bd_natAbs hx))
  have := Int.natAbs_fdiv_le_natAbs x y
  omega
theorem log2_lt {n k : Nat} (h : n < 2 ^ k) (hk : 0 < k) : n.log2 < k := by
  by_cases h0 : n = 0
  · subst h0
    simp
    exact hk
  · exact (Nat.log2_lt h0).mpr h
theorem natAbs_lt {A x : Int} {k : Nat} (h : bd A x) (l : A < 2 ^ k) : x.natAbs < 2 ^ k := by
  have h1 := bd_natAbs h
  have h2 : (x.natAbs : Int) < 2 ^ k := by omega
  have h3 : ((2 : Int) ^ k) = ((2 ^ k : Nat) : Int) := by simp
  rw [h3] at h2
  exact_mod_cast h2
theorem iLn_of {A x : Int} (k : Nat) (h : bd A x) (l : A < 2 ^ k) (h0 : 0 < k) (hk : k ≤ 4000000) : iLn x := Nat.lt_of_lt_of_le (log2_lt (natAbs_lt h l) h0) hk
theorem mulOk_bd {A B x y : Int} (k : Nat) (hx : bd A x) (hy : bd B y) (la : A < 2 ^ k) (lb : B < 2 ^ k) (h0 : 0 < k) (hk : k ≤ 4000000) : mulOk x y := .inr (.inr ⟨iLn_of k hx la h0 hk, iLn_of k hy lb h0 hk⟩)
theorem mulOk_l {x y : Int} (h : -(2 ^ 64) < x) (h' : x < 2 ^ 64) : mulOk x y := .inl ⟨h, h'⟩
theorem mulOk_r {x y : Int} (h : -(2 ^ 64) < y) (h' : y < 2 ^ 64) : mulOk x y := .inr (.inl ⟨h, h'⟩)
theorem divOk_bd {A x : Int} (k : Nat) (h : bd A x) (hx : x ≠ 0) (l : A < 2 ^ k) (h0 : 0 < k) (hk : k ≤ 9000) : divOk x := ⟨hx, Nat.lt_of_lt_of_le (log2_lt (natAbs_lt h l) h0) hk⟩
theorem fmod_nn (x : Int) {m : Int} (h : 0 < m) : 0 ≤ x.fmod m := Int.fmod_nonneg_of_pos x h
theorem fmod_lt (x : Int) {m : Int} (h : 0 < m) : x.fmod m < m := Int.fmod_lt_of_pos x h
/-- an item at a drawn place: what all items have -/
theorem pick {xs : List D} {s : Int} {P : D → Prop} (h0 : 0 ≤ s) (h1 : s < xs.length) (h : ∀ z ∈ xs, P z) : Ok (atD xs s) P := by
  have hk : s.toNat < xs.length := by omega
  unfold atD
  rw [ixD_of h0 h1]
  simp only [List.getElem?_eq_getElem hk, ok_some]
  exact h _ (List.getElem_mem hk)
/-- a call whose answer is known -/
theorem okE {α : Type} {o : Option α} {x : α} (h : o = some x) (P : α → Prop) : Ok o P ↔ P x := by rw [h, ok_some]
/-! ### while b > 0: a, b = b, a % b -/
noncomputable def gcdLoop (i j : Nat) : DS := dWhile (tVal (e2 oGt (eVar j) (eC (.int 0)))) (dPar i j (eVar j) (e2 oMod (eVar i) (eVar j)))
theorem set_set2 {α : Type} (l : List α) {i j : Nat} (h : i ≠ j) (a b c d : α) : ((((l.set i a).set j b).set i c).set j d) = ((l.set i c).set j d) := by
  rw [List.set_comm a b h, List.set_set, List.set_comm b c (Ne.symm h), List.set_set]
theorem gcd_while {i j : Nat} (hij : i ≠ j) {M : DSt} : ∀ (n : Nat) {ρ : DEnv} {a b : Int}, b.toNat = n → 0 ≤ a → 0 ≤ b → i < ρ.length → j < ρ.length → ρ[i]? = some (some (.d (.int a))) → ρ[j]? = some (some (.d (.int b))) →
    gcdLoop i j ρ M = some (.nx ((ρ.set i (some (.d (.int (Int.gcd a b))))).set j (some (.d (.int 0)))) M) := by
  intro n
  induction n using Nat.strongRecOn with
  | _ n ih =>
    intro ρ a b hn ha hb hi hj ei ej
    unfold gcdLoop
    rw [dWhile_eq]
    by_cases h0 : 0 < b
    · have e1 : tVal (e2 oGt (eVar j) (eC (.int 0))) ρ M = some (true, M) := by simp [tVal, e2, eVar, eC, ej, h0]
      have e2 : dPar i j (eVar j) (Rw.e2 oMod (eVar i) (eVar j)) ρ M = some (.nx ((ρ.set i (some (.d (.int b)))).set j (some (.d (.int (a.fmod b))))) M) := by
        have hb0 : b ≠ 0 := by omega
        simp [dPar, Rw.e2, eVar, ej, ei, oMod_i, grd_ok hb0]
      simp only [e1, e2]
      have hlt : (a.fmod b).toNat < n := by
        have := fmod_lt a h0
        have := fmod_nn a h0
        omega
      have r := ih _ hlt (ρ := (ρ.set i (some (.d (.int b)))).set j (some (.d (.int (a.fmod b))))) (a := b) (b := a.fmod b) rfl hb (fmod_nn a h0) (by simpa using hi) (by simpa using hj)
        (by rw [List.getElem?_set_ne (Ne.symm hij), List.getElem?_set_self hi]) (by rw [List.getElem?_set_self (by simpa using hj)])
      unfold gcdLoop at r
      rw [r, set_set2 _ hij]
      have g : Int.gcd b (a.fmod b) = Int.gcd a b := by
        rw [Int.fmod_eq_emod_of_nonneg a hb]
        obtain ⟨x, rfl⟩ := Int.eq_ofNat_of_zero_le ha
        obtain ⟨y, rfl⟩ := Int.eq_ofNat_of_zero_le hb
        rw [← Int.natCast_emod, Int.gcd_natCast_natCast, Int.gcd_natCast_natCast, Nat.gcd_comm x y, Nat.gcd_rec y x, Nat.gcd_comm]
      rw [g]
    · have hb0 : b = 0 := by omega
      subst hb0
      have e1 : tVal (e2 oGt (eVar j) (eC (.int 0))) ρ M = some (false, M) := by simp [tVal, e2, eVar, eC, ej]
      simp only [e1]
      have g : ((Int.gcd a 0 : Nat) : Int) = a := by
        rw [Int.gcd_zero_right]
        omega
      rw [g]
      congr 2
      apply List.ext_getElem?
      intro k
      by_cases hk : j = k
      · subst hk
        rw [List.getElem?_set_self (by simpa using hj), ej]
      · rw [List.getElem?_set_ne hk]
        by_cases hk2 : i = k
        · subst hk2
          rw [List.getElem?_set_self hi, ei]
        · rw [List.getElem?_set_ne hk2]
theorem gcd_abs (t b : Int) : Int.gcd (if t < 0 then -t else t) (if b < 0 then -b else b) = Int.gcd t b := by
  split <;> split <;> simp [Int.gcd_neg, Int.neg_gcd]
theorem abs_nn (t : Int) : 0 ≤ (if t < 0 then -t else t) := by split <;> omega
theorem fdiv_ne {b g : Int} (h : b ≠ 0) (hd : g ∣ b) : b.fdiv g ≠ 0 := by
  obtain ⟨c, rfl⟩ := hd
  by_cases hg : g = 0
  · subst hg; simp at h
  · rw [Int.mul_fdiv_cancel_left _ hg]
    intro z
    subst z
    simp at h
theorem gcd_pos {t b : Int} (h : b ≠ 0) : (0 : Int) < (Int.gcd t b : Int) := by
  have := Int.gcd_pos_of_ne_zero_right t h
  omega
theorem gcd_bd {t b A : Int} (h : b ≠ 0) (hb : bd A b) : bd A (Int.gcd t b : Int) := by
  have h1 := Int.gcd_le_natAbs_right t h
  have h2 := bd_natAbs hb
  exact ⟨by omega, by omega⟩
theorem gcd_dvd_r (t b : Int) : (Int.gcd t b : Int) ∣ b := Int.gcd_dvd_right ..
theorem gcd_dvd_l (t b : Int) : (Int.gcd t b : Int) ∣ t := Int.gcd_dvd_left ..
/-! ### bounds by figures -/
def Bn (k : Nat) (x : Int) : Prop := bd (10 ^ k) x
theorem Bn.of {k : Nat} {x : Int} (h : bd (10 ^ k) x) : Bn k x := h
theorem Bn.mono {j k : Nat} {x : Int} (h : Bn j x) (l : j ≤ k) : Bn k x := bd_mono h (by
  have : (10 : Nat) ^ j ≤ 10 ^ k := Nat.pow_le_pow_right (by decide) l
  exact_mod_cast this)
theorem Bn.mul {j k : Nat} {x y : Int} (hx : Bn j x) (hy : Bn k y) : Bn (j + k) (x * y) := bd_mul hx hy (by rw [Int.pow_add]; exact Int.le_refl _)
theorem ten_succ (k : Nat) : (10 : Int) ^ (k + 1) = 10 ^ k * 10 := Int.pow_succ ..
theorem ten_pos (k : Nat) : (0 : Int) < 10 ^ k := Int.pow_pos (by decide)
theorem Bn.add {k : Nat} {x y : Int} (hx : Bn k x) (hy : Bn k y) : Bn (k + 1) (x + y) := bd_add hx hy (by rw [ten_succ]; have := ten_pos k; omega)
theorem Bn.sub {k : Nat} {x y : Int} (hx : Bn k x) (hy : Bn k y) : Bn (k + 1) (x - y) := bd_sub hx hy (by rw [ten_succ]; have := ten_pos k; omega)
theorem Bn.neg {k : Nat} {x : Int} (hx : Bn k x) : Bn k (-x) := bd_neg hx
theorem Bn.ok {j k : Nat} {x y : Int} (hx : Bn j x) (hy : Bn k y) (hj : j ≤ 100000) (hk : k ≤ 100000) : mulOk x y := by
  have up : ∀ {m : Nat} {z : Int}, Bn m z → m ≤ 100000 → iLn z := fun {m z} h hm => by
    unfold iLn
    have h1 : z.natAbs < 2 ^ (4 * m + 1) := by
      have a := bd_natAbs h
      have b : (10 : Nat) ^ m ≤ 2 ^ (4 * m) := by
        rw [Nat.pow_mul]
        exact Nat.pow_le_pow_left (by decide) m
      have c : (z.natAbs : Int) ≤ ((10 ^ m : Nat) : Int) := by simpa using a
      have d : z.natAbs ≤ 10 ^ m := by exact_mod_cast c
      have e : 2 ^ (4 * m + 1) = 2 ^ (4 * m) * 2 := Nat.pow_succ ..
      have f : 0 < 2 ^ (4 * m) := Nat.two_pow_pos _
      omega
    have := log2_lt h1 (by omega)
    omega
  exact .inr (.inr ⟨up hx hj, up hy hk⟩)
theorem Bn.div {k : Nat} {x : Int} (h : Bn k x) (h0 : x ≠ 0) (hk : k ≤ 2000) : divOk x := by
  refine ⟨h0, ?_⟩
  have h1 : x.natAbs < 2 ^ (4 * k + 1) := by
    have a := bd_natAbs h
    have b : (10 : Nat) ^ k ≤ 2 ^ (4 * k) := by
      rw [Nat.pow_mul]
      exact Nat.pow_le_pow_left (by decide) k
    have c : (x.natAbs : Int) ≤ ((10 ^ k : Nat) : Int) := by simpa using a
    have d : x.natAbs ≤ 10 ^ k := by exact_mod_cast c
    have e : 2 ^ (4 * k + 1) = 2 ^ (4 * k) * 2 := Nat.pow_succ ..
    have f : 0 < 2 ^ (4 * k) := Nat.two_pow_pos _
    omega
  have := log2_lt h1 (by omega)
  omega
end Rw
end PRwMath
section PDk35
set_option linter.all false
set_option maxRecDepth 100000
namespace Lk35
open Rw
open PySem (Str)
noncomputable section
/-- _law_purse(_law_cell): slots _law_cell 0, _law_number 1, _law_found 2, _law_k 3 -/
def b__law_purse : DS :=
    (dSeq (dAsg (.name 1) (e2 oMod (eVar 0) (eC (.int 2147483647))))
    (dSeq (dAsg (.name 2) (eC (.int 1)))
    (dSeq (dFor (iR1 (aCons (eC (.int 24)) aNil)) (.name 3) (dWipe [3] (dSeq (dAsg (.name 1) (e2 oMod (e2 (oAdd false) (e2 (oAdd false) (e2 (oAdd false) (e2 (oMulU false) (eVar 1) (eVar 1)) (e2 (oMulU false) (e2 (oMulU false) (eC (.int 48271)) (eVar 3)) (eVar 3))) (eVar 3)) (eC (.int 3))) (eC (.int 2147483629))))
      (dAsg (.name 2) (e2 (oAdd false) (e2 (oMulU false) (eVar 2) (eC (.int 2147483587))) (e2 oMod (e2 (oMulU false) (eVar 1) (eVar 1)) (eC (.int 2147483587))))))))
    (dSeq (dIf (tVal (e2 oGe (eVar 0) (e2 oPow (eC (.int 10)) (eC (.int 18))))) (dRet (eLst true (aCons (e2 oSub (eVar 0) (e2 oPow (eC (.int 10)) (eC (.int 18)))) (aCons (eVar 2) aNil)))) dPass)
    (dRet (eLst true (aCons (eC (.int 0)) (aCons (eVar 2) aNil))))))))
def f__law_purse : DF := fnD 4 b__law_purse
/-- _law_take(_law_purse_here, _law_many): slots _law_purse_here 0, _law_many 1, _law_at 2, _law_found 3; cells _law_purse_here -/
def b__law_take : DS :=
    (dSeq (dAsg (.name 2) (eA oInt (aCons (e2 oEq (e2 oIx (eVar 0) (eC (.int 0))) (eC (.int 0))) aNil)))
    (dSeq (dAsg (.name 3) (e2 oMod (e2 oIx (eVar 0) (eVar 2)) (eVar 1)))
    (dSeq (dPut (eVar 0) (eVar 2) (e2 oDiv (e2 oIx (eVar 0) (eVar 2)) (eVar 1)))
    (dRet (eVar 3)))))
def f__law_take : DF := fnD 4 b__law_take
/-- _law_lowest(_law_top, _law_bottom): slots _law_top 0, _law_bottom 1, _law_one 2, _law_other 3 -/
def b__law_lowest : DS :=
    (dSeq (dAsg (.name 2) (eA oAbs (aCons (eVar 0) aNil)))
    (dSeq (dAsg (.name 3) (eA oAbs (aCons (eVar 1) aNil)))
    (dSeq (dWhile (tVal (e2 oGt (eVar 3) (eC (.int 0)))) (dPar 2 3 (eVar 3) (e2 oMod (eVar 2) (eVar 3))))
    (dSeq (dIf (tVal (e2 oLt (eVar 1) (eC (.int 0)))) (dAsg (.name 2) (e1 oNeg (eVar 2))) dPass)
    (dRet (eTup (aCons (e2 oDiv (eVar 0) (eVar 2)) (aCons (e2 oDiv (eVar 1) (eVar 2)) aNil))))))))
def f__law_lowest : DF := fnD 4 b__law_lowest
/-- _law_fraction(_law_purse_here): slots _law_purse_here 0, _law_sort 1, _law_top 2; cells _law_purse_here -/
def b__law_fraction : DS :=
    (dSeq (dAsg (.name 1) (eCall f__law_take (aCons (eVar 0) (aCons (eC (.int 4)) aNil))))
    (dSeq (dAsg (.name 2) (eCall f__law_take (aCons (eVar 0) (aCons (e2 oIx (eLst false (aCons (eC (.int 5)) (aCons (eC (.int 40)) (aCons (e2 oPow (eC (.int 10)) (eC (.int 6))) (aCons (e2 oPow (eC (.int 10)) (eC (.int 20))) aNil))))) (eVar 1)) aNil))))
    (dRet (eCall f__law_lowest (aCons (eVar 2) (aCons (e2 (oAdd false) (eC (.int 1)) (eCall f__law_take (aCons (eVar 0) (aCons (e2 oIx (eLst false (aCons (eC (.int 3)) (aCons (eC (.int 12)) (aCons (e2 oPow (eC (.int 10)) (eC (.int 4))) (aCons (e2 oPow (eC (.int 10)) (eC (.int 12))) aNil))))) (eVar 1)) aNil)))) aNil))))))
def f__law_fraction : DF := fnD 3 b__law_fraction
/-- _law_square(_law_one, _law_other): slots _law_one 0, _law_other 1, _law_top 2, _law_bottom 3 -/
def b__law_square : DS :=
    (dSeq (dAsg (.name 2) (e2 oSub (e2 (oMulU false) (e2 oIx (eVar 0) (eC (.int 0))) (e2 oIx (eVar 1) (eC (.int 1)))) (e2 (oMulU false) (e2 oIx (eVar 1) (eC (.int 0))) (e2 oIx (eVar 0) (eC (.int 1))))))
    (dSeq (dAsg (.name 3) (e2 (oMulU false) (e2 oIx (eVar 0) (eC (.int 1))) (e2 oIx (eVar 1) (eC (.int 1)))))
    (dRet (eCall f__law_lowest (aCons (e2 (oMulU false) (eVar 2) (eVar 2)) (aCons (e2 (oMulU false) (eVar 3) (eVar 3)) aNil))))))
def f__law_square : DF := fnD 4 b__law_square
/-- _law_times(_law_one, _law_other): slots _law_one 0, _law_other 1 -/
def b__law_times : DS :=
    (dRet (eCall f__law_lowest (aCons (e2 (oMulU false) (e2 oIx (eVar 0) (eC (.int 0))) (e2 oIx (eVar 1) (eC (.int 0)))) (aCons (e2 (oMulU false) (e2 oIx (eVar 0) (eC (.int 1))) (e2 oIx (eVar 1) (eC (.int 1)))) aNil))))
def f__law_times : DF := fnD 2 b__law_times
/-- middle_of(one, other, fraction): slots one 0, other 1, fraction 2, top 3, bottom 4 -/
def b_middle_of : DS :=
    (dSeq (dAsg (.name 3) (e2 oSub (e2 (oAdd false) (e2 (oMulU false) (e2 (oMulU false) (e2 oIx (eVar 0) (eC (.int 0))) (e2 oIx (eVar 1) (eC (.int 1)))) (e2 oIx (eVar 2) (eC (.int 1)))) (e2 (oMulU false) (e2 (oMulU false) (e2 oIx (eVar 1) (eC (.int 0))) (e2 oIx (eVar 0) (eC (.int 1)))) (e2 oIx (eVar 2) (eC (.int 1))))) (e2 (oMulU false) (e2 (oMulU false) (e2 oIx (eVar 2) (eC (.int 0))) (e2 oIx (eVar 0) (eC (.int 1)))) (e2 oIx (eVar 1) (eC (.int 1))))))
    (dSeq (dAsg (.name 4) (e2 (oMulU false) (e2 (oMulU false) (e2 oIx (eVar 0) (eC (.int 1))) (e2 oIx (eVar 1) (eC (.int 1)))) (e2 oIx (eVar 2) (eC (.int 1)))))
    (dRet (eTup (aCons (eVar 3) (aCons (e2 (oMulU false) (e2 (oMulU false) (e2 (oMulU false) (e2 (oMulU false) (e2 (oMulU false) (e2 (oMulU false) (eC (.int 4)) (e2 oIx (eVar 0) (eC (.int 0)))) (e2 oIx (eVar 1) (eC (.int 0)))) (e2 oIx (eVar 2) (eC (.int 1)))) (e2 oIx (eVar 2) (eC (.int 1)))) (e2 oIx (eVar 0) (eC (.int 1)))) (e2 oIx (eVar 1) (eC (.int 1)))) (aCons (eVar 4) aNil)))))))
def f_middle_of : DF := fnD 5 b_middle_of
/-- is_shut(one, other, fraction): slots one 0, other 1, fraction 2, top 3, four 4, bottom 5 -/
def b_is_shut : DS :=
    (dSeq (dAsg (.tup [(.name 3), (.name 4), (.name 5)]) (eCall f_middle_of (aCons (eVar 0) (aCons (eVar 1) (aCons (eVar 2) aNil)))))
    (dRet (eAnd (e2 oGe (eVar 3) (eC (.int 0))) (e2 oGe (e2 (oMulU false) (eVar 3) (eVar 3)) (eVar 4)))))
def f_is_shut : DF := fnD 6 b_is_shut
/-- is_over(one, other, fraction): slots one 0, other 1, fraction 2, top 3, four 4, bottom 5 -/
def b_is_over : DS :=
    (dSeq (dAsg (.tup [(.name 3), (.name 4), (.name 5)]) (eCall f_middle_of (aCons (eVar 0) (aCons (eVar 1) (aCons (eVar 2) aNil)))))
    (dRet (eAnd (e2 oGe (eVar 3) (eC (.int 0))) (e2 oGt (e2 (oMulU false) (eVar 3) (eVar 3)) (eVar 4)))))
def f_is_over : DF := fnD 6 b_is_over
/-- _law_told(_law_one, _law_other, _law_third): slots _law_one 0, _law_other 1, _law_third 2, _law_found 3 -/
def b__law_told : DS :=
    (dSeq (dAsg (.name 3) (eLst false (aCons (eCall f_is_shut (aCons (eVar 0) (aCons (eVar 1) (aCons (eVar 2) aNil)))) (aCons (eCall f_is_over (aCons (eVar 0) (aCons (eVar 1) (aCons (eVar 2) aNil)))) aNil))))
    (dSeq (dIf (tVal (e2 oNe (eLst false (aCons (eCall f_is_shut (aCons (eVar 1) (aCons (eVar 0) (aCons (eVar 2) aNil)))) (aCons (eCall f_is_over (aCons (eVar 1) (aCons (eVar 0) (aCons (eVar 2) aNil)))) aNil))) (eVar 3))) (dRet (eLst false aNil)) dPass)
    (dRet (eVar 3))))
def f__law_told : DF := fnD 4 b__law_told
/-- law(_law_script): slots _law_script 0, _law_cell 1, _law_purse_here 2, _law_one 3, _law_other 4, _law_third 5, _law_square_here 6, _law_more 7, _law_part 8, _law_both 9, _law_by 10, _law_grown 11; cells _law_purse_here -/
def b_law : DS :=
    (dSeq (dFor (iS (e2 (oAdd false) (eLst false (aCons (eC (.int 0)) (aCons (eC (.int 1)) (aCons (eC (.int 2)) aNil)))) (eSl (slU false) (eVar 0) pNone (pSome (eC (.int 30)))))) (.name 1) (dWipe [1, 2, 3, 4, 5, 6, 7, 8, 9, 10, 11] (dSeq (dAsg (.name 2) (eCall f__law_purse (aCons (eVar 1) aNil)))
      (dSeq (dAsg (.name 3) (eCall f__law_fraction (aCons (eVar 2) aNil)))
      (dSeq (dAsg (.name 4) (eCall f__law_fraction (aCons (eVar 2) aNil)))
      (dSeq (dAsg (.name 5) (eCall f__law_fraction (aCons (eVar 2) aNil)))
      (dSeq (dAsg (.name 6) (eCall f__law_square (aCons (eVar 3) (aCons (eVar 4) aNil))))
      (dSeq (dAsg (.name 7) (eCall f__law_lowest (aCons (e2 (oAdd false) (e2 (oMulU false) (e2 oIx (eVar 6) (eC (.int 0))) (e2 oIx (eVar 5) (eC (.int 1)))) (e2 (oMulU false) (e2 oIx (eVar 5) (eC (.int 0))) (e2 oIx (eVar 6) (eC (.int 1))))) (aCons (e2 (oMulU false) (e2 oIx (eVar 6) (eC (.int 1))) (e2 oIx (eVar 5) (eC (.int 1)))) aNil))))
      (dSeq (dAsg (.name 8) (eCall f__law_lowest (aCons (e2 oIx (eVar 5) (eC (.int 0))) (aCons (e2 (oAdd false) (e2 oIx (eVar 5) (eC (.int 0))) (e2 oIx (eVar 5) (eC (.int 1)))) aNil))))
      (dSeq (dAsg (.name 9) (eLst false (aCons (eCall f__law_times (aCons (eVar 3) (aCons (eVar 3) aNil))) (aCons (eCall f__law_times (aCons (eVar 4) (aCons (eVar 4) aNil))) aNil))))
      (dSeq (dIf (tVal (e2 oNe (eCall f__law_told (aCons (e2 oIx (eVar 9) (eC (.int 0))) (aCons (e2 oIx (eVar 9) (eC (.int 1))) (aCons (eVar 6) aNil)))) (eLst false (aCons (eC (.bl true)) (aCons (eC (.bl false)) aNil))))) (dRet (eC (.bl false))) dPass)
      (dSeq (dIf (Rw.tAnd (tVal (e2 oGt (e2 oIx (eVar 5) (eC (.int 0))) (eC (.int 0)))) (tVal (e2 oNe (eCall f__law_told (aCons (e2 oIx (eVar 9) (eC (.int 0))) (aCons (e2 oIx (eVar 9) (eC (.int 1))) (aCons (eVar 7) aNil)))) (eLst false (aCons (eC (.bl false)) (aCons (eC (.bl false)) aNil)))))) (dRet (eC (.bl false))) dPass)
      (dSeq (dIf (Rw.tAnd (tVal (e2 oGt (e2 oIx (eVar 6) (eC (.int 0))) (eC (.int 0)))) (tVal (e2 oNe (eCall f__law_told (aCons (e2 oIx (eVar 9) (eC (.int 0))) (aCons (e2 oIx (eVar 9) (eC (.int 1))) (aCons (eCall f__law_times (aCons (eVar 6) (aCons (eVar 8) aNil))) aNil)))) (eLst false (aCons (eC (.bl true)) (aCons (eC (.bl true)) aNil)))))) (dRet (eC (.bl false))) dPass)
      (dSeq (dAsg (.name 10) (eCall f__law_times (aCons (eVar 5) (aCons (eVar 5) aNil))))
      (dSeq (dIf (tVal (e2 oGt (e2 oIx (eVar 5) (eC (.int 0))) (eC (.int 0)))) (dSeq (dAsg (.name 11) (eLst false (aCons (eCall f__law_times (aCons (eVar 10) (aCons (e2 oIx (eVar 9) (eC (.int 0))) aNil))) (aCons (eCall f__law_times (aCons (eVar 10) (aCons (e2 oIx (eVar 9) (eC (.int 1))) aNil))) aNil))))
        (dIf (tVal (e2 oNe (eCall f__law_told (aCons (e2 oIx (eVar 11) (eC (.int 0))) (aCons (e2 oIx (eVar 11) (eC (.int 1))) (aCons (eCall f__law_times (aCons (eVar 10) (aCons (eVar 6) aNil))) aNil)))) (eLst false (aCons (eC (.bl true)) (aCons (eC (.bl false)) aNil))))) (dRet (eC (.bl false))) dPass)) dPass)
      (dIf (tVal (e2 oNe (eCall f__law_told (aCons (e2 oIx (eVar 9) (eC (.int 0))) (aCons (e2 oIx (eVar 9) (eC (.int 1))) (aCons (eTup (aCons (eC (.int 0)) (aCons (eC (.int 1)) aNil))) aNil)))) (eLst false (aCons (eC (.bl true)) (aCons (e2 oNe (eVar 3) (eVar 4)) aNil))))) (dRet (eC (.bl false))) dPass))))))))))))))))
    (dRet (eC (.bl true))))
def f_law : DF := fnD 12 b_law
end
end Lk35
end PDk35
section PWk35
set_option Elab.async false
set_option linter.all false
set_option maxRecDepth 100000
set_option maxHeartbeats 4000000
namespace Lk35
open PySem PySem.Spec PyProof.Rows L2 Rw
def topS (i : Nat) : Stmt := PySem.Challenge.pw_rowecho_k35_whole_roots.main.body.getD i (.Pass ⟨0, 0, 0, 0⟩)
abbrev s__law_purse : Stmt := topS 5
abbrev s__law_take : Stmt := topS 6
abbrev s__law_lowest : Stmt := topS 7
abbrev s__law_fraction : Stmt := topS 10
abbrev s__law_square : Stmt := topS 9
abbrev s__law_times : Stmt := topS 11
abbrev s_middle_of : Stmt := topS 1
abbrev s_is_shut : Stmt := topS 2
abbrev s_is_over : Stmt := topS 3
abbrev s__law_told : Stmt := topS 12
abbrev s_law : Stmt := topS 13
theorem sc__law_purse : FnScope ["_law_cell", "_law_number", "_law_found", "_law_k"] ["_law_cell"] (defScope s__law_purse) := ⟨rfl, rfl, rfl, by decide +kernel, rfl, by decide +kernel, by decide +kernel⟩
theorem sc__law_take : FnScope ["_law_purse_here", "_law_many", "_law_at", "_law_found"] ["_law_purse_here", "_law_many"] (defScope s__law_take) := ⟨rfl, rfl, rfl, by decide +kernel, rfl, by decide +kernel, by decide +kernel⟩
theorem sc__law_lowest : FnScope ["_law_top", "_law_bottom", "_law_one", "_law_other"] ["_law_top", "_law_bottom"] (defScope s__law_lowest) := ⟨rfl, rfl, rfl, by decide +kernel, rfl, by decide +kernel, by decide +kernel⟩
theorem sc__law_fraction : FnScope ["_law_purse_here", "_law_sort", "_law_top"] ["_law_purse_here"] (defScope s__law_fraction) := ⟨rfl, rfl, rfl, by decide +kernel, rfl, by decide +kernel, by decide +kernel⟩
theorem sc__law_square : FnScope ["_law_one", "_law_other", "_law_top", "_law_bottom"] ["_law_one", "_law_other"] (defScope s__law_square) := ⟨rfl, rfl, rfl, by decide +kernel, rfl, by decide +kernel, by decide +kernel⟩
theorem sc__law_times : FnScope ["_law_one", "_law_other"] ["_law_one", "_law_other"] (defScope s__law_times) := ⟨rfl, rfl, rfl, by decide +kernel, rfl, by decide +kernel, by decide +kernel⟩
theorem sc_middle_of : FnScope ["one", "other", "fraction", "top", "bottom"] ["one", "other", "fraction"] (defScope s_middle_of) := ⟨rfl, rfl, rfl, by decide +kernel, rfl, by decide +kernel, by decide +kernel⟩
theorem sc_is_shut : FnScope ["one", "other", "fraction", "top", "four", "bottom"] ["one", "other", "fraction"] (defScope s_is_shut) := ⟨rfl, rfl, rfl, by decide +kernel, rfl, by decide +kernel, by decide +kernel⟩
theorem sc_is_over : FnScope ["one", "other", "fraction", "top", "four", "bottom"] ["one", "other", "fraction"] (defScope s_is_over) := ⟨rfl, rfl, rfl, by decide +kernel, rfl, by decide +kernel, by decide +kernel⟩
theorem sc__law_told : FnScope ["_law_one", "_law_other", "_law_third", "_law_found"] ["_law_one", "_law_other", "_law_third"] (defScope s__law_told) := ⟨rfl, rfl, rfl, by decide +kernel, rfl, by decide +kernel, by decide +kernel⟩
theorem sc_law : FnScope ["_law_script", "_law_cell", "_law_purse_here", "_law_one", "_law_other", "_law_third", "_law_square_here", "_law_more", "_law_part", "_law_both", "_law_by", "_law_grown"] ["_law_script"] (defScope s_law) := ⟨rfl, rfl, rfl, by decide +kernel, rfl, by decide +kernel, by decide +kernel⟩
section
variable {P : Program} {w : World} {K : PySem.W.Frag} {mg : Str → Option Value} {base : Heap}
theorem ok__law_purse {f : Addr} {fd : FuncData} (F : Fun K "_law_purse" "_law_purse" s__law_purse f fd) (z_range : mg "range" = none) :
    FnOk P w K mg base CX0 1 f fd ["_law_cell"] (spD K f__law_purse 1) := by
  refine fn_ok F sc__law_purse fun cdv A outer s H E hr => ?_
  have nd := sc__law_purse.nd
  exact (b_cons (s_set 1 nd (d_mod (d_var 0) d_int))
    (b_cons (s_set 2 nd d_int)
    (b_cons (s_for (i_r1 z_range (a_cons d_int a_nil)) (g_name 3 nd) (b_wipe [3] (b_cons (s_set 1 nd (d_mod (d_add false (d_add false (d_add false (d_mulU false (d_var 1) (d_var 1)) (d_mulU false (d_mulU false d_int (d_var 3)) (d_var 3))) (d_var 3)) d_int) d_int))
      (b_one (s_set 2 nd (d_add false (d_mulU false (d_var 2) d_int) (d_mod (d_mulU false (d_var 1) (d_var 1)) d_int)))))))
    (b_cons (s_if (t_cmp k_ge (d_var 0) (d_pow d_int d_int)) (b_one (s_ret (d_lst true (a_cons (d_sub (d_var 0) (d_pow d_int d_int)) (a_cons (d_var 2) a_nil))))) b_nil)
    (b_one (s_ret (d_lst true (a_cons d_int (a_cons (d_var 2) a_nil)))))))))
theorem ok__law_take {f : Addr} {fd : FuncData} (F : Fun K "_law_take" "_law_take" s__law_take f fd) (z_int : mg "int" = none) :
    FnOk P w K mg base CX0 1 f fd ["_law_purse_here", "_law_many"] (spD K f__law_take 2) := by
  refine fn_ok F sc__law_take fun cdv A outer s H E hr => ?_
  have nd := sc__law_take.nd
  exact (b_cons (s_set 2 nd (d_intf z_int (a_cons (d_cmp (k_eq hr) (d_ix (d_var 0) d_int) d_int) a_nil)))
    (b_cons (s_set 3 nd (d_mod (d_ix (d_var 0) (d_var 2)) (d_var 1)))
    (b_cons (s_put (d_var 0) (d_var 2) (d_div (d_ix (d_var 0) (d_var 2)) (d_var 1)))
    (b_one (s_ret (d_var 3))))))
theorem ok__law_lowest {f : Addr} {fd : FuncData} (F : Fun K "_law_lowest" "_law_lowest" s__law_lowest f fd) (z_abs : mg "abs" = none) :
    FnOk P w K mg base CX0 1 f fd ["_law_top", "_law_bottom"] (spD K f__law_lowest 2) := by
  refine fn_ok F sc__law_lowest fun cdv A outer s H E hr => ?_
  have nd := sc__law_lowest.nd
  exact (b_cons (s_set 2 nd (d_abs z_abs (a_cons (d_var 0) a_nil)))
    (b_cons (s_set 3 nd (d_abs z_abs (a_cons (d_var 1) a_nil)))
    (b_cons (s_while (t_cmp k_gt (d_var 3) d_int) (b_one (s_par 2 3 nd (d_var 3) (d_mod (d_var 2) (d_var 3)))))
    (b_cons (s_if (t_cmp k_lt (d_var 1) d_int) (b_one (s_set 2 nd (d_neg (d_var 2)))) b_nil)
    (b_one (s_ret (d_tup (a_cons (d_div (d_var 0) (d_var 2)) (a_cons (d_div (d_var 1) (d_var 2)) a_nil)))))))))
theorem ok__law_fraction {f : Addr} {fd : FuncData} (F : Fun K "_law_fraction" "_law_fraction" s__law_fraction f fd) (h__law_take : Has P w K mg base "_law_take" 1 2 f__law_take) (h__law_lowest : Has P w K mg base "_law_lowest" 1 2 f__law_lowest) :
    FnOk P w K mg base CX0 2 f fd ["_law_purse_here"] (spD K f__law_fraction 1) := by
  refine fn_ok F sc__law_fraction fun cdv A outer s H E hr => ?_
  have nd := sc__law_fraction.nd
  exact (b_cons (s_set 1 nd (d_def h__law_take hr (a_cons (d_var 0) (a_cons d_int a_nil))))
    (b_cons (s_set 2 nd (d_def h__law_take hr (a_cons (d_var 0) (a_cons (d_ix (d_lst false (a_cons d_int (a_cons d_int (a_cons (d_pow d_int d_int) (a_cons (d_pow d_int d_int) a_nil))))) (d_var 1)) a_nil))))
    (b_one (s_ret (d_def h__law_lowest hr (a_cons (d_var 2) (a_cons (d_add false d_int (d_def h__law_take hr (a_cons (d_var 0) (a_cons (d_ix (d_lst false (a_cons d_int (a_cons d_int (a_cons (d_pow d_int d_int) (a_cons (d_pow d_int d_int) a_nil))))) (d_var 1)) a_nil)))) a_nil)))))))
theorem ok__law_square {f : Addr} {fd : FuncData} (F : Fun K "_law_square" "_law_square" s__law_square f fd) (h__law_lowest : Has P w K mg base "_law_lowest" 1 2 f__law_lowest) :
    FnOk P w K mg base CX0 2 f fd ["_law_one", "_law_other"] (spD K f__law_square 2) := by
  refine fn_ok F sc__law_square fun cdv A outer s H E hr => ?_
  have nd := sc__law_square.nd
  exact (b_cons (s_set 2 nd (d_sub (d_mulU false (d_ix (d_var 0) d_int) (d_ix (d_var 1) d_int)) (d_mulU false (d_ix (d_var 1) d_int) (d_ix (d_var 0) d_int))))
    (b_cons (s_set 3 nd (d_mulU false (d_ix (d_var 0) d_int) (d_ix (d_var 1) d_int)))
    (b_one (s_ret (d_def h__law_lowest hr (a_cons (d_mulU false (d_var 2) (d_var 2)) (a_cons (d_mulU false (d_var 3) (d_var 3)) a_nil)))))))
theorem ok__law_times {f : Addr} {fd : FuncData} (F : Fun K "_law_times" "_law_times" s__law_times f fd) (h__law_lowest : Has P w K mg base "_law_lowest" 1 2 f__law_lowest) :
    FnOk P w K mg base CX0 2 f fd ["_law_one", "_law_other"] (spD K f__law_times 2) := by
  refine fn_ok F sc__law_times fun cdv A outer s H E hr => ?_
  have nd := sc__law_times.nd
  exact (b_one (s_ret (d_def h__law_lowest hr (a_cons (d_mulU false (d_ix (d_var 0) d_int) (d_ix (d_var 1) d_int)) (a_cons (d_mulU false (d_ix (d_var 0) d_int) (d_ix (d_var 1) d_int)) a_nil)))))
theorem ok_middle_of {f : Addr} {fd : FuncData} (F : Fun K "middle_of" "middle_of" s_middle_of f fd)  :
    FnOk P w K mg base CX0 1 f fd ["one", "other", "fraction"] (spD K f_middle_of 3) := by
  refine fn_ok F sc_middle_of fun cdv A outer s H E hr => ?_
  have nd := sc_middle_of.nd
  exact (b_cons (s_set 3 nd (d_sub (d_add false (d_mulU false (d_mulU false (d_ix (d_var 0) d_int) (d_ix (d_var 1) d_int)) (d_ix (d_var 2) d_int)) (d_mulU false (d_mulU false (d_ix (d_var 1) d_int) (d_ix (d_var 0) d_int)) (d_ix (d_var 2) d_int))) (d_mulU false (d_mulU false (d_ix (d_var 2) d_int) (d_ix (d_var 0) d_int)) (d_ix (d_var 1) d_int))))
    (b_cons (s_set 4 nd (d_mulU false (d_mulU false (d_ix (d_var 0) d_int) (d_ix (d_var 1) d_int)) (d_ix (d_var 2) d_int)))
    (b_one (s_ret (d_tup (a_cons (d_var 3) (a_cons (d_mulU false (d_mulU false (d_mulU false (d_mulU false (d_mulU false (d_mulU false d_int (d_ix (d_var 0) d_int)) (d_ix (d_var 1) d_int)) (d_ix (d_var 2) d_int)) (d_ix (d_var 2) d_int)) (d_ix (d_var 0) d_int)) (d_ix (d_var 1) d_int)) (a_cons (d_var 4) a_nil))))))))
theorem ok_is_shut {f : Addr} {fd : FuncData} (F : Fun K "is_shut" "is_shut" s_is_shut f fd) (h_middle_of : Has P w K mg base "middle_of" 1 3 f_middle_of) :
    FnOk P w K mg base CX0 2 f fd ["one", "other", "fraction"] (spD K f_is_shut 3) := by
  refine fn_ok F sc_is_shut fun cdv A outer s H E hr => ?_
  have nd := sc_is_shut.nd
  exact (b_cons (s_asg (d_def h_middle_of hr (a_cons (d_var 0) (a_cons (d_var 1) (a_cons (d_var 2) a_nil)))) (g_tup (g_cons (g_name 3 nd) (g_cons (g_name 4 nd) (g_cons (g_name 5 nd) g_nil)))))
    (b_one (s_ret (d_and (d_cmp k_ge (d_var 3) d_int) (d_one (d_cmp k_ge (d_mulU false (d_var 3) (d_var 3)) (d_var 4)))))))
theorem ok_is_over {f : Addr} {fd : FuncData} (F : Fun K "is_over" "is_over" s_is_over f fd) (h_middle_of : Has P w K mg base "middle_of" 1 3 f_middle_of) :
    FnOk P w K mg base CX0 2 f fd ["one", "other", "fraction"] (spD K f_is_over 3) := by
  refine fn_ok F sc_is_over fun cdv A outer s H E hr => ?_
  have nd := sc_is_over.nd
  exact (b_cons (s_asg (d_def h_middle_of hr (a_cons (d_var 0) (a_cons (d_var 1) (a_cons (d_var 2) a_nil)))) (g_tup (g_cons (g_name 3 nd) (g_cons (g_name 4 nd) (g_cons (g_name 5 nd) g_nil)))))
    (b_one (s_ret (d_and (d_cmp k_ge (d_var 3) d_int) (d_one (d_cmp k_gt (d_mulU false (d_var 3) (d_var 3)) (d_var 4)))))))
theorem ok__law_told {f : Addr} {fd : FuncData} (F : Fun K "_law_told" "_law_told" s__law_told f fd) (h_is_over : Has P w K mg base "is_over" 2 3 f_is_over) (h_is_shut : Has P w K mg base "is_shut" 2 3 f_is_shut) :
    FnOk P w K mg base CX0 3 f fd ["_law_one", "_law_other", "_law_third"] (spD K f__law_told 3) := by
  refine fn_ok F sc__law_told fun cdv A outer s H E hr => ?_
  have nd := sc__law_told.nd
  exact (b_cons (s_set 3 nd (d_lst false (a_cons (d_def h_is_shut hr (a_cons (d_var 0) (a_cons (d_var 1) (a_cons (d_var 2) a_nil)))) (a_cons (d_def h_is_over hr (a_cons (d_var 0) (a_cons (d_var 1) (a_cons (d_var 2) a_nil)))) a_nil))))
    (b_cons (s_if (t_cmp (k_ne hr) (d_lst false (a_cons (d_def h_is_shut hr (a_cons (d_var 1) (a_cons (d_var 0) (a_cons (d_var 2) a_nil)))) (a_cons (d_def h_is_over hr (a_cons (d_var 1) (a_cons (d_var 0) (a_cons (d_var 2) a_nil)))) a_nil))) (d_var 3)) (b_one (s_ret (d_lst false a_nil))) b_nil)
    (b_one (s_ret (d_var 3)))))
theorem ok_law {f : Addr} {fd : FuncData} (F : Fun K "law" "law" s_law f fd) (h__law_purse : Has P w K mg base "_law_purse" 1 1 f__law_purse) (h__law_fraction : Has P w K mg base "_law_fraction" 2 1 f__law_fraction) (h__law_square : Has P w K mg base "_law_square" 2 2 f__law_square) (h__law_lowest : Has P w K mg base "_law_lowest" 1 2 f__law_lowest) (h__law_times : Has P w K mg base "_law_times" 2 2 f__law_times) (h__law_told : Has P w K mg base "_law_told" 3 3 f__law_told) :
    FnOk P w K mg base CX0 4 f fd ["_law_script"] (spD K f_law 1) := by
  refine fn_ok F sc_law fun cdv A outer s H E hr => ?_
  have nd := sc_law.nd
  exact (b_cons (s_for (i_seq (d_add false (d_lst false (a_cons d_int (a_cons d_int (a_cons d_int a_nil)))) (d_slU false (d_var 0) o_none (o_some d_int)))) (g_name 1 nd) (b_wipe [1, 2, 3, 4, 5, 6, 7, 8, 9, 10, 11] (b_cons (s_set 2 nd (d_def h__law_purse (hr.mono (by decide)) (a_cons (d_var 1) a_nil)))
      (b_cons (s_set 3 nd (d_def h__law_fraction (hr.mono (by decide)) (a_cons (d_var 2) a_nil)))
      (b_cons (s_set 4 nd (d_def h__law_fraction (hr.mono (by decide)) (a_cons (d_var 2) a_nil)))
      (b_cons (s_set 5 nd (d_def h__law_fraction (hr.mono (by decide)) (a_cons (d_var 2) a_nil)))
      (b_cons (s_set 6 nd (d_def h__law_square (hr.mono (by decide)) (a_cons (d_var 3) (a_cons (d_var 4) a_nil))))
      (b_cons (s_set 7 nd (d_def h__law_lowest (hr.mono (by decide)) (a_cons (d_add false (d_mulU false (d_ix (d_var 6) d_int) (d_ix (d_var 5) d_int)) (d_mulU false (d_ix (d_var 5) d_int) (d_ix (d_var 6) d_int))) (a_cons (d_mulU false (d_ix (d_var 6) d_int) (d_ix (d_var 5) d_int)) a_nil))))
      (b_cons (s_set 8 nd (d_def h__law_lowest (hr.mono (by decide)) (a_cons (d_ix (d_var 5) d_int) (a_cons (d_add false (d_ix (d_var 5) d_int) (d_ix (d_var 5) d_int)) a_nil))))
      (b_cons (s_set 9 nd (d_lst false (a_cons (d_def h__law_times (hr.mono (by decide)) (a_cons (d_var 3) (a_cons (d_var 3) a_nil))) (a_cons (d_def h__law_times (hr.mono (by decide)) (a_cons (d_var 4) (a_cons (d_var 4) a_nil))) a_nil))))
      (b_cons (s_if (t_cmp (k_ne hr) (d_def h__law_told hr (a_cons (d_ix (d_var 9) d_int) (a_cons (d_ix (d_var 9) d_int) (a_cons (d_var 6) a_nil)))) (d_lst false (a_cons d_bl (a_cons d_bl a_nil)))) (b_one (s_ret d_bl)) b_nil)
      (b_cons (s_if (t_w (w_and (t_cmp k_gt (d_ix (d_var 5) d_int) d_int) (w_and1 (t_cmp (k_ne hr) (d_def h__law_told hr (a_cons (d_ix (d_var 9) d_int) (a_cons (d_ix (d_var 9) d_int) (a_cons (d_var 7) a_nil)))) (d_lst false (a_cons d_bl (a_cons d_bl a_nil))))))) (b_one (s_ret d_bl)) b_nil)
      (b_cons (s_if (t_w (w_and (t_cmp k_gt (d_ix (d_var 6) d_int) d_int) (w_and1 (t_cmp (k_ne hr) (d_def h__law_told hr (a_cons (d_ix (d_var 9) d_int) (a_cons (d_ix (d_var 9) d_int) (a_cons (d_def h__law_times (hr.mono (by decide)) (a_cons (d_var 6) (a_cons (d_var 8) a_nil))) a_nil)))) (d_lst false (a_cons d_bl (a_cons d_bl a_nil))))))) (b_one (s_ret d_bl)) b_nil)
      (b_cons (s_set 10 nd (d_def h__law_times (hr.mono (by decide)) (a_cons (d_var 5) (a_cons (d_var 5) a_nil))))
      (b_cons (s_if (t_cmp k_gt (d_ix (d_var 5) d_int) d_int) (b_cons (s_set 11 nd (d_lst false (a_cons (d_def h__law_times (hr.mono (by decide)) (a_cons (d_var 10) (a_cons (d_ix (d_var 9) d_int) a_nil))) (a_cons (d_def h__law_times (hr.mono (by decide)) (a_cons (d_var 10) (a_cons (d_ix (d_var 9) d_int) a_nil))) a_nil))))
        (b_one (s_if (t_cmp (k_ne hr) (d_def h__law_told hr (a_cons (d_ix (d_var 11) d_int) (a_cons (d_ix (d_var 11) d_int) (a_cons (d_def h__law_times (hr.mono (by decide)) (a_cons (d_var 10) (a_cons (d_var 6) a_nil))) a_nil)))) (d_lst false (a_cons d_bl (a_cons d_bl a_nil)))) (b_one (s_ret d_bl)) b_nil))) b_nil)
      (b_one (s_if (t_cmp (k_ne hr) (d_def h__law_told hr (a_cons (d_ix (d_var 9) d_int) (a_cons (d_ix (d_var 9) d_int) (a_cons (d_tup (a_cons d_int (a_cons d_int a_nil))) a_nil)))) (d_lst false (a_cons d_bl (a_cons (d_cmp (k_ne hr) (d_var 3) (d_var 4)) a_nil)))) (b_one (s_ret d_bl)) b_nil)))))))))))))))))
    (b_one (s_ret d_bl)))
end
theorem all_mk {l : PySem.W.OpenLaw} {w : World} {K : PySem.W.Frag} {h : Heap} {mg : Str → Option Value} {fa : Addr} (X : K.In h) (G : h.Ns mainGlobals mg) (hfa : mg "law" = some (.ref fa))
    {f1 : Addr} {od1 an1 : Option Addr} {sl1 : Array (Option Value)} {oc1 kV1 dc1 pm1 cd1 ct1 : Value}
    {f2 : Addr} {od2 an2 : Option Addr} {sl2 : Array (Option Value)} {oc2 kV2 dc2 pm2 cd2 ct2 : Value}
    {f3 : Addr} {od3 an3 : Option Addr} {sl3 : Array (Option Value)} {oc3 kV3 dc3 pm3 cd3 ct3 : Value}
    {f4 : Addr} {od4 an4 : Option Addr} {sl4 : Array (Option Value)} {oc4 kV4 dc4 pm4 cd4 ct4 : Value}
    {f5 : Addr} {od5 an5 : Option Addr} {sl5 : Array (Option Value)} {oc5 kV5 dc5 pm5 cd5 ct5 : Value}
    {f6 : Addr} {od6 an6 : Option Addr} {sl6 : Array (Option Value)} {oc6 kV6 dc6 pm6 cd6 ct6 : Value}
    {f7 : Addr} {od7 an7 : Option Addr} {sl7 : Array (Option Value)} {oc7 kV7 dc7 pm7 cd7 ct7 : Value}
    {f8 : Addr} {od8 an8 : Option Addr} {sl8 : Array (Option Value)} {oc8 kV8 dc8 pm8 cd8 ct8 : Value}
    {f9 : Addr} {od9 an9 : Option Addr} {sl9 : Array (Option Value)} {oc9 kV9 dc9 pm9 cd9 ct9 : Value}
    {f10 : Addr} {od10 an10 : Option Addr} {sl10 : Array (Option Value)} {oc10 kV10 dc10 pm10 cd10 ct10 : Value}
    {f11 : Addr} {od11 an11 : Option Addr} {sl11 : Array (Option Value)} {oc11 kV11 dc11 pm11 cd11 ct11 : Value}
    (a1 : PySem.W.nsIn K mainGlobals "_law_purse" = some (some (.ref f1))) (l1 : K.lookup f1 = some ⟨oc1, od1, .func (PySem.W.fnOf "_law_purse" "_law_purse" (defArgs s__law_purse) (defBody s__law_purse) (defScope s__law_purse) .none kV1 dc1 pm1 an1 cd1 ct1), sl1⟩) (c1 : PySem.W.codeIn K cd1 "_law_purse" = true) (k1 : PySem.W.keepIn K (.ref f1) = true)
    (a2 : PySem.W.nsIn K mainGlobals "_law_take" = some (some (.ref f2))) (l2 : K.lookup f2 = some ⟨oc2, od2, .func (PySem.W.fnOf "_law_take" "_law_take" (defArgs s__law_take) (defBody s__law_take) (defScope s__law_take) .none kV2 dc2 pm2 an2 cd2 ct2), sl2⟩) (c2 : PySem.W.codeIn K cd2 "_law_take" = true) (k2 : PySem.W.keepIn K (.ref f2) = true)
    (a3 : PySem.W.nsIn K mainGlobals "_law_lowest" = some (some (.ref f3))) (l3 : K.lookup f3 = some ⟨oc3, od3, .func (PySem.W.fnOf "_law_lowest" "_law_lowest" (defArgs s__law_lowest) (defBody s__law_lowest) (defScope s__law_lowest) .none kV3 dc3 pm3 an3 cd3 ct3), sl3⟩) (c3 : PySem.W.codeIn K cd3 "_law_lowest" = true) (k3 : PySem.W.keepIn K (.ref f3) = true)
    (a4 : PySem.W.nsIn K mainGlobals "_law_fraction" = some (some (.ref f4))) (l4 : K.lookup f4 = some ⟨oc4, od4, .func (PySem.W.fnOf "_law_fraction" "_law_fraction" (defArgs s__law_fraction) (defBody s__law_fraction) (defScope s__law_fraction) .none kV4 dc4 pm4 an4 cd4 ct4), sl4⟩) (c4 : PySem.W.codeIn K cd4 "_law_fraction" = true) (k4 : PySem.W.keepIn K (.ref f4) = true)
    (a5 : PySem.W.nsIn K mainGlobals "_law_square" = some (some (.ref f5))) (l5 : K.lookup f5 = some ⟨oc5, od5, .func (PySem.W.fnOf "_law_square" "_law_square" (defArgs s__law_square) (defBody s__law_square) (defScope s__law_square) .none kV5 dc5 pm5 an5 cd5 ct5), sl5⟩) (c5 : PySem.W.codeIn K cd5 "_law_square" = true) (k5 : PySem.W.keepIn K (.ref f5) = true)
    (a6 : PySem.W.nsIn K mainGlobals "_law_times" = some (some (.ref f6))) (l6 : K.lookup f6 = some ⟨oc6, od6, .func (PySem.W.fnOf "_law_times" "_law_times" (defArgs s__law_times) (defBody s__law_times) (defScope s__law_times) .none kV6 dc6 pm6 an6 cd6 ct6), sl6⟩) (c6 : PySem.W.codeIn K cd6 "_law_times" = true) (k6 : PySem.W.keepIn K (.ref f6) = true)
    (a7 : PySem.W.nsIn K mainGlobals "middle_of" = some (some (.ref f7))) (l7 : K.lookup f7 = some ⟨oc7, od7, .func (PySem.W.fnOf "middle_of" "middle_of" (defArgs s_middle_of) (defBody s_middle_of) (defScope s_middle_of) .none kV7 dc7 pm7 an7 cd7 ct7), sl7⟩) (c7 : PySem.W.codeIn K cd7 "middle_of" = true) (k7 : PySem.W.keepIn K (.ref f7) = true)
    (a8 : PySem.W.nsIn K mainGlobals "is_shut" = some (some (.ref f8))) (l8 : K.lookup f8 = some ⟨oc8, od8, .func (PySem.W.fnOf "is_shut" "is_shut" (defArgs s_is_shut) (defBody s_is_shut) (defScope s_is_shut) .none kV8 dc8 pm8 an8 cd8 ct8), sl8⟩) (c8 : PySem.W.codeIn K cd8 "is_shut" = true) (k8 : PySem.W.keepIn K (.ref f8) = true)
    (a9 : PySem.W.nsIn K mainGlobals "is_over" = some (some (.ref f9))) (l9 : K.lookup f9 = some ⟨oc9, od9, .func (PySem.W.fnOf "is_over" "is_over" (defArgs s_is_over) (defBody s_is_over) (defScope s_is_over) .none kV9 dc9 pm9 an9 cd9 ct9), sl9⟩) (c9 : PySem.W.codeIn K cd9 "is_over" = true) (k9 : PySem.W.keepIn K (.ref f9) = true)
    (a10 : PySem.W.nsIn K mainGlobals "_law_told" = some (some (.ref f10))) (l10 : K.lookup f10 = some ⟨oc10, od10, .func (PySem.W.fnOf "_law_told" "_law_told" (defArgs s__law_told) (defBody s__law_told) (defScope s__law_told) .none kV10 dc10 pm10 an10 cd10 ct10), sl10⟩) (c10 : PySem.W.codeIn K cd10 "_law_told" = true) (k10 : PySem.W.keepIn K (.ref f10) = true)
    (a11 : PySem.W.nsIn K mainGlobals "law" = some (some (.ref f11))) (l11 : K.lookup f11 = some ⟨oc11, od11, .func (PySem.W.fnOf "law" "law" (defArgs s_law) (defBody s_law) (defScope s_law) .none kV11 dc11 pm11 an11 cd11 ct11), sl11⟩) (c11 : PySem.W.codeIn K cd11 "law" = true) (k11 : PySem.W.keepIn K (.ref f11) = true)
    (zz_range : PySem.W.nsIn K mainGlobals "range" = some none)
    (zz_int : PySem.W.nsIn K mainGlobals "int" = some none)
    (zz_abs : PySem.W.nsIn K mainGlobals "abs" = some none) :
    ∃ fd : FuncData, (∀ (s : Shared) (v : Value), BindsTo s fd ⟨[v], []⟩ [("_law_script", v)]) ∧ ∀ base : Heap, K.In base → base.Ns mainGlobals mg → FnOk l.prog w K mg base CX0 4 fa fd ["_law_script"] (spD K f_law 1) := by
  have e := hfa.symm.trans (PySem.W.mg_of X G a11)
  cases e
  have z_range := PySem.W.mg_none_of X G zz_range
  have z_int := PySem.W.mg_none_of X G zz_int
  have z_abs := PySem.W.mg_none_of X G zz_abs
  have F1 := fun_mk (st := s__law_purse) l1 c1 k1
  have b1 := F1.binds (ps := ["_law_cell"]) fun _ _ _ _ _ _ us hl => match us, hl with | [_], _ => rfl
  have F2 := fun_mk (st := s__law_take) l2 c2 k2
  have b2 := F2.binds (ps := ["_law_purse_here", "_law_many"]) fun _ _ _ _ _ _ us hl => match us, hl with | [_, _], _ => rfl
  have F3 := fun_mk (st := s__law_lowest) l3 c3 k3
  have b3 := F3.binds (ps := ["_law_top", "_law_bottom"]) fun _ _ _ _ _ _ us hl => match us, hl with | [_, _], _ => rfl
  have F4 := fun_mk (st := s__law_fraction) l4 c4 k4
  have b4 := F4.binds (ps := ["_law_purse_here"]) fun _ _ _ _ _ _ us hl => match us, hl with | [_], _ => rfl
  have F5 := fun_mk (st := s__law_square) l5 c5 k5
  have b5 := F5.binds (ps := ["_law_one", "_law_other"]) fun _ _ _ _ _ _ us hl => match us, hl with | [_, _], _ => rfl
  have F6 := fun_mk (st := s__law_times) l6 c6 k6
  have b6 := F6.binds (ps := ["_law_one", "_law_other"]) fun _ _ _ _ _ _ us hl => match us, hl with | [_, _], _ => rfl
  have F7 := fun_mk (st := s_middle_of) l7 c7 k7
  have b7 := F7.binds (ps := ["one", "other", "fraction"]) fun _ _ _ _ _ _ us hl => match us, hl with | [_, _, _], _ => rfl
  have F8 := fun_mk (st := s_is_shut) l8 c8 k8
  have b8 := F8.binds (ps := ["one", "other", "fraction"]) fun _ _ _ _ _ _ us hl => match us, hl with | [_, _, _], _ => rfl
  have F9 := fun_mk (st := s_is_over) l9 c9 k9
  have b9 := F9.binds (ps := ["one", "other", "fraction"]) fun _ _ _ _ _ _ us hl => match us, hl with | [_, _, _], _ => rfl
  have F10 := fun_mk (st := s__law_told) l10 c10 k10
  have b10 := F10.binds (ps := ["_law_one", "_law_other", "_law_third"]) fun _ _ _ _ _ _ us hl => match us, hl with | [_, _, _], _ => rfl
  have F11 := fun_mk (st := s_law) l11 c11 k11
  refine ⟨PySem.W.fnOf "law" "law" (defArgs s_law) (defBody s_law) (defScope s_law) .none kV11 dc11 pm11 an11 cd11 ct11, fun s v => .of_eq rfl, fun base _ _ => ?_⟩
  have h__law_purse : Has l.prog w K mg base "_law_purse" 1 1 f__law_purse := ⟨_, _, _, ok__law_purse F1 z_range, PySem.W.mg_of X G a1, k1, b1⟩
  have h__law_take : Has l.prog w K mg base "_law_take" 1 2 f__law_take := ⟨_, _, _, ok__law_take F2 z_int, PySem.W.mg_of X G a2, k2, b2⟩
  have h__law_lowest : Has l.prog w K mg base "_law_lowest" 1 2 f__law_lowest := ⟨_, _, _, ok__law_lowest F3 z_abs, PySem.W.mg_of X G a3, k3, b3⟩
  have h__law_fraction : Has l.prog w K mg base "_law_fraction" 2 1 f__law_fraction := ⟨_, _, _, ok__law_fraction F4 h__law_take h__law_lowest, PySem.W.mg_of X G a4, k4, b4⟩
  have h__law_square : Has l.prog w K mg base "_law_square" 2 2 f__law_square := ⟨_, _, _, ok__law_square F5 h__law_lowest, PySem.W.mg_of X G a5, k5, b5⟩
  have h__law_times : Has l.prog w K mg base "_law_times" 2 2 f__law_times := ⟨_, _, _, ok__law_times F6 h__law_lowest, PySem.W.mg_of X G a6, k6, b6⟩
  have h_middle_of : Has l.prog w K mg base "middle_of" 1 3 f_middle_of := ⟨_, _, _, ok_middle_of F7 , PySem.W.mg_of X G a7, k7, b7⟩
  have h_is_shut : Has l.prog w K mg base "is_shut" 2 3 f_is_shut := ⟨_, _, _, ok_is_shut F8 h_middle_of, PySem.W.mg_of X G a8, k8, b8⟩
  have h_is_over : Has l.prog w K mg base "is_over" 2 3 f_is_over := ⟨_, _, _, ok_is_over F9 h_middle_of, PySem.W.mg_of X G a9, k9, b9⟩
  have h__law_told : Has l.prog w K mg base "_law_told" 3 3 f__law_told := ⟨_, _, _, ok__law_told F10 h_is_over h_is_shut, PySem.W.mg_of X G a10, k10, b10⟩
  exact ok_law F11 h__law_purse h__law_fraction h__law_square h__law_lowest h__law_times h__law_told
end Lk35
end PWk35
section PMk35
set_option linter.all false
set_option maxHeartbeats 4000000
set_option maxRecDepth 100000
set_option exponentiation.threshold 500
namespace Lk35
open Rw
theorem take_ok {M : DSt} {n : Nat} {a b m : Int} (h : M[n]? = some (some [.int a, .int b])) (hm : 0 < m) (hs : m.natAbs.log2 < 9000) :
    Ok (f__law_take [.c n, .d (.int m)] M) fun p => ∃ r a' b', 0 ≤ r ∧ r < m ∧ p = (.d (.int r), M.set n (some [.int a', .int b'])) := by
  unfold f__law_take
  rw [ok_fn]
  have hm0 : m ≠ 0 := by omega
  have hd : divOk m := ⟨hm0, hs⟩
  by_cases ha : a = 0
  · simp [b__law_take, startD, celOk h, ha, hd, hm0]
    exact ⟨_, fmod_nn _ hm, fmod_lt _ hm, rfl, _, _, rfl⟩
  · simp [b__law_take, startD, celOk h, ha, hd, hm0]
    exact ⟨_, fmod_nn _ hm, fmod_lt _ hm, rfl, _, _, rfl⟩
theorem purse_ok {M : DSt} {c : Int} : Ok (f__law_purse [.d (.int c)] M) fun p => ∃ a b, p = (.c M.length, M ++ [some [.int a, .int b]]) := by
  unfold f__law_purse
  rw [ok_fn]
  simp [b__law_purse, startD]
  refine forL_by _ (fun _ ρ M' => M' = M ∧ ∃ x y, 0 ≤ x ∧ x < 2147483647 ∧ ρ = [some (.d (.int c)), some (.d (.int x)), some (.d (.int y)), none]) ⟨rfl, _, _, fmod_nn _ (by decide), fmod_lt _ (by decide), rfl⟩ ?_ ?_
  · rintro i x ρ M' hx ⟨rfl, x, y, h0, h1, rfl⟩
    obtain ⟨hi, rfl⟩ := rng_at.mp hx
    generalize hz : (x * x + 48271 * (i : Int) * (i : Int) + (i : Int) + 3).fmod 2147483629 = z
    have z0 : 0 ≤ z := by rw [← hz]; exact fmod_nn _ (by decide)
    have z1 : z < 2147483629 := by rw [← hz]; exact fmod_lt _ (by decide)
    simp [hz, mulOk_l (show -(2 ^ 64) < x by omega) (show x < 2 ^ 64 by omega), mulOk_l (show -(2 ^ 64) < z by omega) (show z < 2 ^ 64 by omega)]
    refine ⟨mulOk_l (by omega) (by omega), mulOk_r (by omega) (by omega), mulOk_r (by omega) (by omega), z0, by omega⟩
  · rintro ρ M' ⟨rfl, x, y, h0, h1, rfl⟩
    simp [powOk]
theorem set_get {M : DSt} {n : Nat} {x y : List D} (h : M[n]? = some (some x)) : (M.set n (some y))[n]? = some (some y) := by
  rw [List.getElem?_set_self (List.getElem?_eq_some_iff.mp h).1]
/-- the fraction in lowest terms -/
def Lo (A t b : Int) (M : DSt) (p : Dv × DSt) : Prop := ∃ t' b', bd A t' ∧ bd A b' ∧ 0 < b' ∧ t * b' = t' * b ∧ Int.gcd t' b' = 1 ∧ p = (.d (.tup [.int t', .int b']), M)
theorem lowest_ok {M : DSt} {t b A : Int} (ht : bd A t) (hb : bd A b) (h0 : 0 < b) (hA : A < 2 ^ 2000) : Ok (f__law_lowest [.d (.int t), .d (.int b)] M) (Lo A t b M) := by
  unfold f__law_lowest
  rw [ok_fn]
  simp [b__law_lowest, startD]
  have g := gcd_while (i := 2) (j := 3) (by decide) (M := M) _ (ρ := [some (.d (.int t)), some (.d (.int b)), some (.d (.int (if t < 0 then -t else t))), some (.d (.int (if b < 0 then -b else b)))]) rfl (abs_nn t) (abs_nn b) (by simp) (by simp) rfl rfl
  unfold gcdLoop at g
  rw [g, gcd_abs]
  have h0' : b ≠ 0 := by omega
  have hg := gcd_pos (t := t) h0'
  have hgA := gcd_bd (t := t) h0' hb
  have hgd := gcd_dvd_r t b
  have hgl := gcd_dvd_l t b
  have hge : Int.gcd (t.fdiv (Int.gcd t b)) (b.fdiv (Int.gcd t b)) = 1 := by
    rw [Int.fdiv_eq_ediv_of_nonneg _ (by omega), Int.fdiv_eq_ediv_of_nonneg _ (by omega)]
    exact Int.gcd_ediv_gcd_ediv_gcd (by omega)
  revert hg hgA hgd hgl hge
  generalize ((Int.gcd t b : Nat) : Int) = G
  intro hg hgA hgd hgl hge
  have hbn : ¬ b < 0 := by omega
  have hd := divOk_bd 2000 hgA (by omega) hA (by decide) (by decide)
  simp [hbn, hd]
  refine ⟨_, _, bd_fdiv ht, bd_fdiv hb, ?_, ?_, hge, rfl⟩
  · obtain ⟨c, rfl⟩ := hgd
    rw [Int.mul_fdiv_cancel_left _ (by omega)]
    by_cases hc : 0 < c
    · exact hc
    · have := Int.mul_nonpos_of_nonneg_of_nonpos (Int.le_of_lt hg) (show c ≤ 0 by omega)
      omega
  · obtain ⟨c, rfl⟩ := hgd
    obtain ⟨c', rfl⟩ := hgl
    rw [Int.mul_fdiv_cancel_left _ (by omega), Int.mul_fdiv_cancel_left _ (by omega)]
    ac_rfl
/-- a drawn fraction -/
def Fr (M : DSt) (n : Nat) (p : Dv × DSt) : Prop := ∃ x y t b, bd (10 ^ 20) t ∧ bd (10 ^ 20) b ∧ 0 < b ∧ 0 ≤ t ∧ Int.gcd t b = 1 ∧ p = (.d (.tup [.int t, .int b]), M.set n (some [.int x, .int y]))
theorem nn_of {t b t' b' : Int} (h : t * b' = t' * b) (h0 : 0 < b) (h1 : 0 < b') (h2 : 0 ≤ t) : 0 ≤ t' := by
  by_cases g : 0 ≤ t'
  · exact g
  · have a := Int.mul_nonneg h2 (Int.le_of_lt h1)
    have c : t' * b < 0 := Int.mul_neg_of_neg_of_pos (by omega) h0
    omega
theorem fraction_ok {M : DSt} {n : Nat} {a b : Int} (h : M[n]? = some (some [.int a, .int b])) : Ok (f__law_fraction [.c n] M) (Fr M n) := by
  unfold f__law_fraction
  rw [ok_fn]
  simp [b__law_fraction, startD, powOk]
  refine (take_ok h (by decide) (by decide)).mono ?_
  rintro _ ⟨s, a1, b1, s0, s1, rfl⟩
  simp
  refine pick s0 (by simpa using s1) fun z hz => ?_
  obtain ⟨m, rfl, m0, m1⟩ : ∃ m, z = .int m ∧ 0 < m ∧ m ≤ 10 ^ 20 := by
    simp at hz
    rcases hz with rfl | rfl | rfl | rfl <;> exact ⟨_, rfl, by decide, by decide⟩
  refine (take_ok (set_get h) m0 (Nat.lt_of_lt_of_le (log2_lt (natAbs_lt (A := 10 ^ 20) (k := 100) ⟨by omega, m1⟩ (by decide)) (by decide)) (by decide))).mono ?_
  rintro _ ⟨t, a2, b2, t0, t1, rfl⟩
  simp
  refine pick s0 (by simpa using s1) fun z hz => ?_
  obtain ⟨m', rfl, m0', m1'⟩ : ∃ m, z = .int m ∧ 0 < m ∧ m ≤ 10 ^ 12 := by
    simp at hz
    rcases hz with rfl | rfl | rfl | rfl <;> exact ⟨_, rfl, by decide, by decide⟩
  refine (take_ok (set_get h) m0' (Nat.lt_of_lt_of_le (log2_lt (natAbs_lt (A := 10 ^ 20) (k := 100) ⟨by omega, by omega⟩ (by decide)) (by decide)) (by decide))).mono ?_
  rintro _ ⟨r, a3, b3, r0, r1, rfl⟩
  simp
  refine (lowest_ok (A := 10 ^ 20) ⟨by omega, by omega⟩ ⟨by omega, by omega⟩ (by omega) (by decide +kernel)).mono ?_
  rintro _ ⟨t', b', ht, hb, hn, he, hg, rfl⟩
  simp
  exact ⟨_, _, _, _, ht, hb, hn, nn_of he (by omega) hn t0, hg, rfl⟩
theorem square_ok {M : DSt} {a b c d : Int} (ha : bd (10 ^ 20) a) (hb : bd (10 ^ 20) b) (hc : bd (10 ^ 20) c) (hd : bd (10 ^ 20) d) (h0 : 0 < b) (h1 : 0 < d) : Ok (f__law_square [.d (.tup [.int a, .int b]), .d (.tup [.int c, .int d])] M) (Lo (10 ^ 90) ((a * d - c * b) * (a * d - c * b)) ((b * d) * (b * d)) M) := by
  unfold f__law_square
  rw [ok_fn]
  have e1 := bd_mul (C := 10 ^ 40) ha hd (by decide)
  have e2 := bd_mul (C := 10 ^ 40) hc hb (by decide)
  have e3 := bd_mul (C := 10 ^ 40) hb hd (by decide)
  have e4 := bd_sub (C := 10 ^ 41) e1 e2 (by decide)
  simp [b__law_square, startD, mulOk_bd 200 ha hd (by decide) (by decide) (by decide) (by decide), mulOk_bd 200 hc hb (by decide) (by decide) (by decide) (by decide), mulOk_bd 200 hb hd (by decide) (by decide) (by decide) (by decide), mulOk_bd 200 e4 e4 (by decide) (by decide) (by decide) (by decide), mulOk_bd 200 e3 e3 (by decide) (by decide) (by decide) (by decide)]
  refine (lowest_ok (A := 10 ^ 90) (bd_mul e4 e4 (by decide)) (bd_mul e3 e3 (by decide)) ?_ (by decide +kernel)).mono ?_
  · exact Int.mul_pos (Int.mul_pos h0 h1) (Int.mul_pos h0 h1)
  · intro p hp
    obtain ⟨t', b', ht, hb, hn, he, hg, rfl⟩ := hp
    simp
    exact ⟨_, _, ht, hb, hn, he, hg, rfl⟩
theorem times_ok {M : DSt} {a b c d : Int} {j k m : Nat} (ha : Bn j a) (hb : Bn j b) (hc : Bn k c) (hd : Bn k d) (h0 : 0 < b) (h1 : 0 < d) (hm : j + k = m) (hm' : m ≤ 300) : Ok (f__law_times [.d (.tup [.int a, .int b]), .d (.tup [.int c, .int d])] M) (Lo (10 ^ m) (a * c) (b * d) M) := by
  subst hm
  unfold f__law_times
  rw [ok_fn]
  simp [b__law_times, startD, ha.ok hc (by omega) (by omega), hb.ok hd (by omega) (by omega)]
  refine (lowest_ok (A := 10 ^ (j + k)) (ha.mul hc) (hb.mul hd) (Int.mul_pos h0 h1) ?_).mono ?_
  · have h1 : (10 : Nat) ^ (j + k) ≤ 10 ^ 300 := Nat.pow_le_pow_right (by decide) hm'
    have h2 : (10 : Nat) ^ 300 < 2 ^ 2000 := by decide +kernel
    have h3 : (10 : Nat) ^ (j + k) < 2 ^ 2000 := by omega
    exact_mod_cast h3
  · intro p hp
    obtain ⟨t', b', ht, hb, hn, he, hg, rfl⟩ := hp
    simp
    exact ⟨_, _, ht, hb, hn, he, hg, rfl⟩
def topZ (a b c d e f : Int) : Int := a * d * f + c * b * f - e * b * d
def fourZ (a b c d f : Int) : Int := 4 * a * c * f * f * b * d
theorem middle_ok {M : DSt} {a b c d e f : Int} (ha : Bn 130 a) (hb : Bn 130 b) (hc : Bn 130 c) (hd : Bn 130 d) (he : Bn 130 e) (hf : Bn 130 f) :
    f_middle_of [.d (.tup [.int a, .int b]), .d (.tup [.int c, .int d]), .d (.tup [.int e, .int f])] M = some (.d (.tup [.int (topZ a b c d e f), .int (fourZ a b c d f), .int (b * d * f)]), M) := by
  apply ok_eq
  unfold f_middle_of
  rw [ok_fn]
  have m : ∀ {j k : Nat} {x y : Int}, Bn j x → Bn k y → j ≤ 2000 → k ≤ 2000 → mulOk x y := fun h1 h2 h3 h4 => h1.ok h2 (by omega) (by omega)
  have h4 : Bn 1 4 := ⟨by decide, by decide⟩
  simp [b_middle_of, startD, m ha hd (by decide) (by decide), m (ha.mul hd) hf (by decide) (by decide), m hc hb (by decide) (by decide), m (hc.mul hb) hf (by decide) (by decide), m he hb (by decide) (by decide), m (he.mul hb) hd (by decide) (by decide),
    m hb hd (by decide) (by decide), m (hb.mul hd) hf (by decide) (by decide), m h4 ha (by decide) (by decide), m (h4.mul ha) hc (by decide) (by decide), m ((h4.mul ha).mul hc) hf (by decide) (by decide), m (((h4.mul ha).mul hc).mul hf) hf (by decide) (by decide), m ((((h4.mul ha).mul hc).mul hf).mul hf) hb (by decide) (by decide), m (((((h4.mul ha).mul hc).mul hf).mul hf).mul hb) hd (by decide) (by decide), topZ, fourZ]
theorem topZ_bn {a b c d e f : Int} (ha : Bn 130 a) (hb : Bn 130 b) (hc : Bn 130 c) (hd : Bn 130 d) (he : Bn 130 e) (hf : Bn 130 f) : Bn 392 (topZ a b c d e f) :=
  (((ha.mul hd).mul hf).add ((hc.mul hb).mul hf)).sub (((he.mul hb).mul hd).mono (by decide))
theorem shut_eq {M : DSt} {a b c d e f : Int} (ha : Bn 130 a) (hb : Bn 130 b) (hc : Bn 130 c) (hd : Bn 130 d) (he : Bn 130 e) (hf : Bn 130 f) :
    f_is_shut [.d (.tup [.int a, .int b]), .d (.tup [.int c, .int d]), .d (.tup [.int e, .int f])] M = some (.d (.bl (decide (0 ≤ topZ a b c d e f) && decide (fourZ a b c d f ≤ topZ a b c d e f * topZ a b c d e f))), M) := by
  apply ok_eq
  unfold f_is_shut
  rw [ok_fn]
  have t := topZ_bn ha hb hc hd he hf
  have tt := t.ok t (by decide) (by decide)
  simp [b_is_shut, startD, middle_ok ha hb hc hd he hf]
  by_cases h : 0 ≤ topZ a b c d e f
  · simp [h, tt]
  · simp [h, tt]
theorem over_eq {M : DSt} {a b c d e f : Int} (ha : Bn 130 a) (hb : Bn 130 b) (hc : Bn 130 c) (hd : Bn 130 d) (he : Bn 130 e) (hf : Bn 130 f) :
    f_is_over [.d (.tup [.int a, .int b]), .d (.tup [.int c, .int d]), .d (.tup [.int e, .int f])] M = some (.d (.bl (decide (0 ≤ topZ a b c d e f) && decide (fourZ a b c d f < topZ a b c d e f * topZ a b c d e f))), M) := by
  apply ok_eq
  unfold f_is_over
  rw [ok_fn]
  have t := topZ_bn ha hb hc hd he hf
  have tt := t.ok t (by decide) (by decide)
  simp [b_is_over, startD, middle_ok ha hb hc hd he hf]
  by_cases h : 0 ≤ topZ a b c d e f
  · simp [h, tt]
  · simp [h, tt]
theorem topZ_comm (a b c d e f : Int) : topZ c d a b e f = topZ a b c d e f := by
  unfold topZ
  rw [Int.add_comm (c * b * f), show e * d * b = e * b * d by ac_rfl]
theorem fourZ_comm (a b c d f : Int) : fourZ c d a b f = fourZ a b c d f := by unfold fourZ; ac_rfl
theorem sgn {z N k T : Int} (hN : 0 < N) (hk : 0 < k) (h : z * N = k * T) : 0 ≤ z ↔ 0 ≤ T := by
  constructor
  · intro hz
    by_cases hT : 0 ≤ T
    · exact hT
    · have h1 := Int.mul_nonneg hz (Int.le_of_lt hN)
      have h2 : k * T < 0 := Int.mul_neg_of_pos_of_neg hk (by omega)
      omega
  · intro hT
    by_cases hz : 0 ≤ z
    · exact hz
    · have h1 := Int.mul_nonneg (Int.le_of_lt hk) hT
      have h2 : z * N < 0 := Int.mul_neg_of_neg_of_pos (by omega) hN
      omega
theorem sq_le {T V : Int} (hT : 0 ≤ T) (hV : 0 ≤ V) : V * V ≤ T * T ↔ V ≤ T := by
  constructor
  · intro h
    by_cases g : V ≤ T
    · exact g
    · have := Int.mul_self_lt_mul_self hT (show T < V by omega)
      omega
  · exact fun h => Int.mul_self_le_mul_self hV h
theorem sq_lt {T V : Int} (hT : 0 ≤ T) (hV : 0 ≤ V) : V * V < T * T ↔ V < T := by
  have := sq_le hV hT
  omega
theorem cmp_le {z y N k T V : Int} (hN : 0 < N) (hk : 0 < k) (hV : 0 ≤ V) (h : z * N = k * T) (h' : y * N ^ 2 = k ^ 2 * V ^ 2) : (0 ≤ z ∧ y ≤ z * z) ↔ V ≤ T := by
  have e : (z * z - y) * N ^ 2 = k ^ 2 * (T * T - V * V) := by grind
  have hs := sgn hN hk h
  have ht := sgn (z := z * z - y) (T := T * T - V * V) (show (0 : Int) < N ^ 2 from Int.pow_pos hN) (show (0 : Int) < k ^ 2 from Int.pow_pos hk) e
  by_cases hT : 0 ≤ T
  · have := sq_le hT hV
    omega
  · omega
theorem cmp_lt {z y N k T V : Int} (hN : 0 < N) (hk : 0 < k) (hV : 0 ≤ V) (h : z * N = k * T) (h' : y * N ^ 2 = k ^ 2 * V ^ 2) : (0 ≤ z ∧ y < z * z) ↔ V < T := by
  have e : (y - z * z) * N ^ 2 = k ^ 2 * (V * V - T * T) := by grind
  have hs := sgn hN hk h
  have ht := sgn (z := y - z * z) (T := V * V - T * T) (show (0 : Int) < N ^ 2 from Int.pow_pos hN) (show (0 : Int) < k ^ 2 from Int.pow_pos hk) e
  by_cases hT : 0 ≤ T
  · have := sq_lt hT hV
    omega
  · omega
theorem key {a b c d e f P Q R S : Int} (hb : 0 < b) (hd : 0 < d) (hf : 0 < f) (hQ : 0 < Q) (hS : 0 < S) (hP : 0 ≤ P) (hR : 0 ≤ R) (h1 : a * Q ^ 2 = P ^ 2 * b) (h2 : c * S ^ 2 = R ^ 2 * d) :
    ((0 ≤ topZ a b c d e f ∧ fourZ a b c d f ≤ topZ a b c d e f * topZ a b c d e f) ↔ e * (Q * S) ^ 2 ≤ f * (P * S - R * Q) ^ 2)
    ∧ ((0 ≤ topZ a b c d e f ∧ fourZ a b c d f < topZ a b c d e f * topZ a b c d e f) ↔ e * (Q * S) ^ 2 < f * (P * S - R * Q) ^ 2) := by
  have e1 : topZ a b c d e f * (Q ^ 2 * S ^ 2) = (b * d) * (f * ((P * S) ^ 2 + (R * Q) ^ 2) - e * (Q * S) ^ 2) := by unfold topZ; grind
  have e2 : fourZ a b c d f * (Q ^ 2 * S ^ 2) ^ 2 = (b * d) ^ 2 * (2 * (P * S * (R * Q)) * f) ^ 2 := by unfold fourZ; grind
  have hN : 0 < Q ^ 2 * S ^ 2 := Int.mul_pos (Int.pow_pos hQ) (Int.pow_pos hS)
  have hk : 0 < b * d := Int.mul_pos hb hd
  have hV : 0 ≤ 2 * (P * S * (R * Q)) * f := Int.mul_nonneg (Int.mul_nonneg (by decide) (Int.mul_nonneg (Int.mul_nonneg hP (by omega)) (Int.mul_nonneg hR (by omega)))) (by omega)
  have e3 : f * (P * S - R * Q) ^ 2 - e * (Q * S) ^ 2 = (f * ((P * S) ^ 2 + (R * Q) ^ 2) - e * (Q * S) ^ 2) - 2 * (P * S * (R * Q)) * f := by grind
  have a1 := cmp_le hN hk hV e1 e2
  have a2 := cmp_lt hN hk hV e1 e2
  rw [a1, a2]
  constructor <;> omega

theorem ne_bb {M : DSt} {P : Dv × DSt → Prop} (x y x' y' : Bool) : Ok (oNe (.d (.lst [.bl x, .bl y])) (.d (.lst [.bl x', .bl y'])) M) P ↔ P (.d (.bl (!(x == x' && y == y'))), M) := by
  simp [oNe, dv, D.shp, D.eqv, D.eqvs, grd_ok]
theorem ne_ii {M : DSt} {P : Dv × DSt → Prop} (x y x' y' : Int) : Ok (oNe (.d (.tup [.int x, .int y])) (.d (.tup [.int x', .int y'])) M) P ↔ P (.d (.bl (!(x == x' && y == y'))), M) := by
  simp [oNe, dv, D.shp, D.eqv, D.eqvs, grd_ok]
theorem told_v {M : DSt} {a b c d e f P Q R S : Int} (x y : Bool) (ha : Bn 130 a) (hb : Bn 130 b) (hc : Bn 130 c) (hd : Bn 130 d) (he : Bn 130 e) (hf : Bn 130 f)
    (pb : 0 < b) (pd : 0 < d) (pf : 0 < f) (hQ : 0 < Q) (hS : 0 < S) (hP : 0 ≤ P) (hR : 0 ≤ R) (h1 : a * Q ^ 2 = P ^ 2 * b) (h2 : c * S ^ 2 = R ^ 2 * d)
    (hx : e * (Q * S) ^ 2 ≤ f * (P * S - R * Q) ^ 2 ↔ x = true) (hy : e * (Q * S) ^ 2 < f * (P * S - R * Q) ^ 2 ↔ y = true) :
    f__law_told [.d (.tup [.int a, .int b]), .d (.tup [.int c, .int d]), .d (.tup [.int e, .int f])] M = some (.d (.lst [.bl x, .bl y]), M) := by
  apply ok_eq
  unfold f__law_told
  rw [ok_fn]
  have k := key (e := e) pb pd pf hQ hS hP hR h1 h2
  have f2 := fun M => shut_eq (M := M) ha hb hc hd he hf
  have f3 := fun M => over_eq (M := M) ha hb hc hd he hf
  have f4 := fun M => shut_eq (M := M) hc hd ha hb he hf
  have f5 := fun M => over_eq (M := M) hc hd ha hb he hf
  simp only [topZ_comm, fourZ_comm] at f4 f5
  have ex : (decide (0 ≤ topZ a b c d e f) && decide (fourZ a b c d f ≤ topZ a b c d e f * topZ a b c d e f)) = x := by
    rw [← Bool.decide_and, Bool.eq_iff_iff, decide_eq_true_iff, k.1, hx]
  have ey : (decide (0 ≤ topZ a b c d e f) && decide (fourZ a b c d f < topZ a b c d e f * topZ a b c d e f)) = y := by
    rw [← Bool.decide_and, Bool.eq_iff_iff, decide_eq_true_iff, k.2, hy]
  rw [ex] at f2 f4
  rw [ey] at f3 f5
  have g2 := fun M P => okE (f2 M) P
  have g3 := fun M P => okE (f3 M) P
  have g4 := fun M P => okE (f4 M) P
  have g5 := fun M P => okE (f5 M) P
  simp [b__law_told, startD, ↓g2, ↓g3, ↓g4, ↓g5, ↓ne_bb]
/-! ### the five asked things -/
theorem lt_mul {x y k : Int} (hk : 0 < k) (h : x * k < y * k) : x < y := Int.lt_of_mul_lt_mul_right h (Int.le_of_lt hk)
theorem eq_mul {x y k : Int} (hk : 0 < k) (h : x * k = y * k) : x = y := Int.eq_of_mul_eq_mul_right (by omega) h
theorem more_lt {e f g h t u W X : Int} (hf : 0 < f) (hu : 0 < u) (hh : 0 < h) (ht : 0 < t) (hW : 0 < W) (e1 : X * X * f = e * (W * W)) (e2 : (e * u + t * f) * h = g * (f * u)) : h * X ^ 2 < g * W ^ 2 := by
  refine lt_mul (k := u) hu (lt_mul (k := f) hf ?_)
  have a : g * W ^ 2 * u * f = h * X ^ 2 * u * f + h * t * f * W ^ 2 := by grind
  have b : 0 < h * t * f * W ^ 2 := Int.mul_pos (Int.mul_pos (Int.mul_pos hh ht) hf) (Int.pow_pos hW)
  omega
theorem part_lt {e f v w k l t u W X : Int} (hf : 0 < f) (hu : 0 < u) (hw : 0 < w) (hl : 0 < l) (ht : 0 ≤ t) (hX : X ≠ 0) (e1 : X * X * f = e * (W * W)) (e2 : t * w = v * (t + u)) (e3 : e * v * l = k * (f * w)) : k * W ^ 2 < l * X ^ 2 := by
  have hv : v < w := by
    refine lt_mul (k := t + u) (by omega) ?_
    have : w * (t + u) = v * (t + u) + w * u := by grind
    have := Int.mul_pos hw hu
    omega
  refine lt_mul (k := w) hw ?_
  have a : k * W ^ 2 * w = l * X ^ 2 * v := by
    refine eq_mul hf ?_
    grind
  have hX2 : 0 < X ^ 2 := by
    have : X ^ 2 = (X.natAbs : Int) ^ 2 := by rw [Int.natAbs_pow_two]
    rw [this]
    exact Int.pow_pos (by omega)
  have b : 0 < l * X ^ 2 * (w - v) := Int.mul_pos (Int.mul_pos hl hX2) (by omega)
  have c : l * X ^ 2 * (w - v) = l * X ^ 2 * w - l * X ^ 2 * v := by grind
  omega
theorem grow_root {a2 b2 n b m a P Q t u : Int} (hn : 0 < n) (hb : 0 < b) (h1 : m * a * b2 = a2 * (n * b)) (h2 : t * t * n = m * (u * u)) (h3 : a * Q ^ 2 = P ^ 2 * b) : a2 * (Q * u) ^ 2 = (P * t) ^ 2 * b2 := by
  refine eq_mul (k := n * b) (Int.mul_pos hn hb) ?_
  have e1 : a2 * (Q * u) ^ 2 * (n * b) = (a2 * (n * b)) * (Q ^ 2 * u ^ 2) := by clear h1 h2 h3; grind
  have e2 : (m * a * b2) * (Q ^ 2 * u ^ 2) = (m * (u * u)) * (a * Q ^ 2) * b2 := by clear h1 h2 h3 e1; grind
  rw [e1, ← h1, e2, ← h2, h3]
  clear h1 h2 h3 e1 e2
  grind
theorem grow_sq {e2 f2 n f m e t u W X : Int} (hn : 0 < n) (hf : 0 < f) (h1 : m * e * f2 = e2 * (n * f)) (h2 : t * t * n = m * (u * u)) (h3 : e * W ^ 2 = f * X ^ 2) : e2 * (W * (u * u)) ^ 2 = f2 * (X * (t * u)) ^ 2 := by
  refine eq_mul (k := n * f) (Int.mul_pos hn hf) ?_
  have e1 : e2 * (W * (u * u)) ^ 2 * (n * f) = (e2 * (n * f)) * (W ^ 2 * (u * u) ^ 2) := by clear h1 h2 h3; grind
  have e2 : (m * e * f2) * (W ^ 2 * (u * u) ^ 2) = (m * (u * u)) * (e * W ^ 2) * f2 * (u * u) := by clear h1 h2 h3 e1; grind
  rw [e1, ← h1, e2, ← h2, h3]
  clear h1 h2 h3 e1 e2
  grind
theorem sq_nn (x : Int) : 0 ≤ x ^ 2 := by
  have : x ^ 2 = (x.natAbs : Int) ^ 2 := by rw [Int.natAbs_pow_two]
  rw [this]
  exact Int.pow_nonneg (by omega)
theorem sq_pos {x : Int} : 0 < x ^ 2 ↔ x ≠ 0 := by
  constructor
  · rintro h rfl
    simp at h
  · intro h
    have : x ^ 2 = (x.natAbs : Int) ^ 2 := by rw [Int.natAbs_pow_two]
    rw [this]
    exact Int.pow_pos (by omega)
theorem cop_dvd {a b c : Int} (h : Int.gcd a b = 1) (hd : a ∣ b * c) : a ∣ c := by
  rw [← Int.natAbs_dvd_natAbs] at hd ⊢
  rw [Int.natAbs_mul] at hd
  exact Nat.Coprime.dvd_of_dvd_mul_left h hd
theorem low_eq {P Q R S : Int} (hQ : 0 < Q) (hS : 0 < S) (g1 : Int.gcd P Q = 1) (g2 : Int.gcd R S = 1) (h : P * S - R * Q = 0) : P = R ∧ Q = S := by
  have e : P * S = R * Q := by omega
  have d1 : Q ∣ S := by
    have : Q ∣ P * S := ⟨R, by rw [e, Int.mul_comm]⟩
    exact cop_dvd (by rw [Int.gcd_comm]; exact g1) this
  have d2 : S ∣ Q := by
    have : S ∣ R * Q := ⟨P, by rw [← e, Int.mul_comm]⟩
    exact cop_dvd (by rw [Int.gcd_comm]; exact g2) this
  have hq : Q = S := Int.dvd_antisymm (Int.le_of_lt hQ) (Int.le_of_lt hS) d1 d2
  subst hq
  exact ⟨eq_mul hQ e, rfl⟩
theorem law_true (ns : List Int) (hl : ns.length ≤ 63) (hb : ∀ z ∈ ns, z.natAbs.log2 < 1048577) : ∃ M, f_law [.r (ns.map D.int)] [] = some (.d (.bl true), M) := by
  suffices h : Ok (f_law [.r (ns.map D.int)] []) fun p => p.1 = .d (.bl true) by
    obtain ⟨⟨v, M⟩, e, h⟩ := h
    simp only at h
    subst h
    exact ⟨M, e⟩
  unfold f_law
  rw [ok_fn]
  simp [b_law, startD]
  have hq : (cutD (List.map D.int ns) none (some 30)).length ≤ 63 := Nat.le_trans cutD_len (by simpa using hl)
  refine ⟨by clear hb; omega, ?_⟩
  refine forL_by _ (fun _ ρ _ => ρ = [some (.r (ns.map D.int)), none, none, none, none, none, none, none, none, none, none, none]) rfl ?_ ?_
  · rintro i x ρ M hx rfl
    refine ⟨by simp, ?_⟩
    obtain ⟨i0, rfl⟩ : ∃ k, x = .int k := by
      have hm := List.mem_of_getElem? hx
      simp only [List.cons_append, List.nil_append, List.mem_cons] at hm
      rcases hm with rfl | rfl | rfl | hm
      · exact ⟨_, rfl⟩
      · exact ⟨_, rfl⟩
      · exact ⟨_, rfl⟩
      · have := cutD_mem hm
        simp at this
        obtain ⟨k, _, rfl⟩ := this
        exact ⟨_, rfl⟩
    clear hx hb hq hl
    simp [-seqP_nx]
    refine purse_ok.mono ?_
    rintro _ ⟨a, b, rfl⟩
    have hM : ∀ a b, (M ++ [some [D.int a, D.int b]])[M.length]? = some (some [D.int a, D.int b]) := by simp
    simp [-seqP_nx]
    refine seqP_nx.mpr ?_
    simp [-seqP_nx]
    refine (fraction_ok (hM _ _)).mono ?_
    intro p hp
    obtain ⟨x1, y1, P, Q, bP, bQ, hQ, hP, gPQ, hp⟩ := hp
    subst hp
    simp [-seqP_nx]
    refine seqP_nx.mpr ?_
    simp [-seqP_nx]
    refine (fraction_ok (hM _ _)).mono ?_
    intro p hp
    obtain ⟨x2, y2, R, S, bR, bS, hS, hR, gRS, hp⟩ := hp
    subst hp
    simp [-seqP_nx]
    refine seqP_nx.mpr ?_
    simp [-seqP_nx]
    refine (fraction_ok (hM _ _)).mono ?_
    intro p hp
    obtain ⟨x3, y3, t, u, bt, bu, hu, ht, gtu, hp⟩ := hp
    subst hp
    simp [-seqP_nx]
    refine seqP_nx.mpr ?_
    simp [-seqP_nx]
    refine (square_ok bP bQ bR bS hQ hS).mono ?_
    intro p hp
    obtain ⟨e, f, be, bf, hf, he, _, hp⟩ := hp
    subst hp
    have nP : Bn 20 P := bP
    have nQ : Bn 20 Q := bQ
    have nR : Bn 20 R := bR
    have nS : Bn 20 S := bS
    have nt : Bn 20 t := bt
    have nu : Bn 20 u := bu
    have ne : Bn 90 e := be
    have nf : Bn 90 f := bf
    simp [-seqP_nx]
    refine seqP_nx.mpr ?_
    simp [-seqP_nx, ne.ok nu (by decide) (by decide), nt.ok nf (by decide) (by decide), nf.ok nu (by decide) (by decide)]
    have n1 : Bn 111 (e * u + t * f) := (ne.mul nu).add ((nt.mul nf).mono (by decide))
    have n2 : Bn 111 (f * u) := (nf.mul nu).mono (by decide)
    refine (lowest_ok (A := 10 ^ 111) n1 n2 (Int.mul_pos hf hu) (by decide +kernel)).mono ?_
    intro p hp
    obtain ⟨g, h, bg, bh, hh, hgh, _, hp⟩ := hp
    subst hp
    simp [-seqP_nx]
    refine seqP_nx.mpr ?_
    simp [-seqP_nx]
    have n3 : Bn 21 (t + u) := nt.add nu
    have nt' : Bn 21 t := nt.mono (by decide)
    refine (lowest_ok (A := 10 ^ 21) nt' n3 (by omega) (by decide +kernel)).mono ?_
    intro p hp
    obtain ⟨v, w, bv, bw, hw, hvw, _, hp⟩ := hp
    subst hp
    simp [-seqP_nx]
    refine seqP_nx.mpr ?_
    simp [-seqP_nx]
    refine (times_ok (m := 40) nP nQ nP nQ hQ hQ rfl (by decide)).mono ?_
    intro p hp
    obtain ⟨a', b', ba, bb, hb', hab, _, hp⟩ := hp
    subst hp
    simp [-seqP_nx]
    refine (times_ok (m := 40) nR nS nR nS hS hS rfl (by decide)).mono ?_
    intro p hp
    obtain ⟨c, d, bc, bd', hd, hcd, _, hp⟩ := hp
    subst hp
    have na : Bn 40 a' := ba
    have nb : Bn 40 b' := bb
    have nc : Bn 40 c := bc
    have nd : Bn 40 d := bd'
    have ng : Bn 111 g := bg
    have nh : Bn 111 h := bh
    have nv : Bn 21 v := bv
    have nw : Bn 21 w := bw
    have rA : a' * Q ^ 2 = P ^ 2 * b' := by grind
    have rC : c * S ^ 2 = R ^ 2 * d := by grind
    have sq : e * (Q * S) ^ 2 = f * (P * S - R * Q) ^ 2 := by grind
    simp [-seqP_nx]
    refine seqP_nx.mpr ?_
    have hX : (P * S - R * Q) = 0 ↔ P = R ∧ Q = S := ⟨low_eq hQ hS gPQ gRS, fun h => by rw [h.1, h.2]; omega⟩
    have T := fun (e f : Int) (x y : Bool) M (pf : 0 < f) (ne : Bn 130 e) (nf : Bn 130 f) => told_v (M := M) (e := e) (f := f) x y (na.mono (by decide)) (nb.mono (by decide)) (nc.mono (by decide)) (nd.mono (by decide)) ne nf hb' hd pf hQ hS hP hR rA rC
    generalize M.length = L
    generalize M ++ [some [D.int x3, D.int y3]] = M
    refine if_pass ?_ ?_
    · have T1 := T e f true false M hf (ne.mono (by decide)) (nf.mono (by decide)) (by simp; omega) (by simp; omega)
      simp [↓okE T1, ↓ne_bb]
    refine if_pass ?_ ?_
    · by_cases h0 : 0 < t
      · have q := more_lt hf hu hh h0 (Int.mul_pos hQ hS) he hgh
        have T1 := T g h false false M hh (ng.mono (by decide)) (nh.mono (by decide)) (by simp; omega) (by simp; omega)
        simp [↓okE T1, ↓ne_bb, h0]
      · simp [h0]
    refine if_pass ?_ ?_
    · by_cases h0 : 0 < e
      · simp [h0]
        refine (times_ok (m := 111) ne nf nv nw hf hw rfl (by decide)).mono ?_
        intro p hp
        obtain ⟨k, l, bk, bl, hl, hkl, _, hp⟩ := hp
        subst hp
        have nk : Bn 111 k := bk
        have nl : Bn 111 l := bl
        have hX0 : P * S - R * Q ≠ 0 := by
          intro z
          rw [z] at sq
          have : 0 < e * (Q * S) ^ 2 := Int.mul_pos h0 (Int.pow_pos (Int.mul_pos hQ hS))
          rw [sq] at this
          simp at this
        have q := part_lt hf hu hw hl ht hX0 he hvw hkl
        have T1 := T k l true true M hl (nk.mono (by decide)) (nl.mono (by decide)) (by simp; omega) (by simp; omega)
        simp [↓okE T1, ↓ne_bb]
      · simp [h0]
    simp [-seqP_nx]
    refine (times_ok (m := 40) nt nu nt nu hu hu rfl (by decide)).mono ?_
    intro p hp
    obtain ⟨m, n, bm, bn, hn, hmn, _, hp⟩ := hp
    subst hp
    have nm : Bn 40 m := bm
    have nn : Bn 40 n := bn
    simp [-seqP_nx]
    refine seqP_nx.mpr ?_
    refine seq_by (fun o => ∃ z, o = .nx [some (.r (List.map D.int ns)), some (.d (.int i0)), some (.c L), some (.d (.tup [.int P, .int Q])), some (.d (.tup [.int R, .int S])), some (.d (.tup [.int t, .int u])), some (.d (.tup [.int e, .int f])),
      some (.d (.tup [.int g, .int h])), some (.d (.tup [.int v, .int w])), some (.d (.lst [.tup [.int a', .int b'], .tup [.int c, .int d]])), some (.d (.tup [.int m, .int n])), z] M) ?_ ?_
    · by_cases h0 : 0 < t
      · simp [h0, -seqP_nx]
        refine (times_ok (m := 80) nm nn na nb hn hb' rfl (by decide)).mono ?_
        intro p hp
        obtain ⟨a2, b2, ba2, bb2, hb2, hab2, _, hp⟩ := hp
        subst hp
        simp [-seqP_nx]
        refine (times_ok (m := 80) nm nn nc nd hn hd rfl (by decide)).mono ?_
        intro p hp
        obtain ⟨c2, d2, bc2, bd2, hd2, hcd2, _, hp⟩ := hp
        subst hp
        simp [-seqP_nx]
        refine seqP_nx.mpr ?_
        simp [-seqP_nx]
        refine (times_ok (m := 130) nm nn ne nf hn hf rfl (by decide)).mono ?_
        intro p hp
        obtain ⟨e2, f2, be2, bf2, hf2, hef2, _, hp⟩ := hp
        subst hp
        have na2 : Bn 80 a2 := ba2
        have nb2 : Bn 80 b2 := bb2
        have nc2 : Bn 80 c2 := bc2
        have nd2 : Bn 80 d2 := bd2
        have r1 : a2 * (Q * u) ^ 2 = (P * t) ^ 2 * b2 := grow_root hn hb' hab2 hmn rA
        have r2 : c2 * (S * u) ^ 2 = (R * t) ^ 2 * d2 := grow_root hn hd hcd2 hmn rC
        have r3 : e2 * (Q * u * (S * u)) ^ 2 = f2 * (P * t * (S * u) - R * t * (Q * u)) ^ 2 := by
          have := grow_sq hn hf hef2 hmn sq
          have x1 : Q * u * (S * u) = Q * S * (u * u) := by ac_rfl
          have x2 : P * t * (S * u) - R * t * (Q * u) = (P * S - R * Q) * (t * u) := by
            rw [Int.sub_mul]
            congr 1 <;> ac_rfl
          rw [x1, x2]
          exact this
        have T1 := told_v (M := M) (a := a2) (b := b2) (c := c2) (d := d2) (e := e2) (f := f2) true false (na2.mono (by decide)) (nb2.mono (by decide)) (nc2.mono (by decide)) (nd2.mono (by decide)) be2 bf2 hb2 hd2 hf2 (Int.mul_pos hQ hu) (Int.mul_pos hS hu) (Int.mul_nonneg hP ht) (Int.mul_nonneg hR ht) r1 r2 (by simp; omega) (by simp; omega)
        simp [↓okE T1, ↓ne_bb]
      · simp [h0]
    · rintro o ⟨z, rfl⟩
      refine seqP_nx.mpr ?_
      refine if_last ?_ ?_
      · have T1 := T 0 1 true (!(P == R && Q == S)) M (by decide) ⟨by decide, by decide⟩ ⟨by decide, by decide⟩ (by simp [sq_nn]) (by simp only [Int.zero_mul, Int.one_mul, sq_pos, ne_eq, hX]; clear T; by_cases q1 : P = R <;> by_cases q2 : Q = S <;> simp [q1, q2])
        simp [↓okE T1, ↓ne_bb, ↓ne_ii]
      · simp
  · rintro ρ M rfl
    simp
end Lk35
end PMk35
section PZk35
open PySem PySem.W PyProof.Rows
set_option Elab.async false
set_option maxRecDepth 100000 in
set_option maxHeartbeats 0 in
theorem PySem.Challenge.cw_rowecho_k35_whole_roots_holds : PySem.Challenge.rw_rowecho_k35_whole_roots.Holds := by
  w_on; o_law; k_head; (case hw => w_witness2)
  k_fill
  refine L2.walk_ofB (l := PySem.Challenge.rw_rowecho_k35_whole_roots) (n := 63) (k := 4) (x := "_law_script") (CX := fun _ => L2.CX0) (sp := fun w => Rw.spD _ Lk35.f_law 1) rfl (by decide) rfl ⟨rfl, by decide, by decide⟩ (fun w h Y => PySem.W.kIn_of Y) ?F (fun _ _ a ns hl hb _ hS => (Lk35.law_true ns hl (Rw.bits_log hb)).elim fun _ h => Rw.law_sp hS h) (fun _ _ _ _ _ h => h)
  case F =>
    intro w mg fa h KX G hmg
    refine' Lk35.all_mk KX G hmg ?a1 ?l1 ?c1 ?k1 ?a2 ?l2 ?c2 ?k2 ?a3 ?l3 ?c3 ?k3 ?a4 ?l4 ?c4 ?k4 ?a5 ?l5 ?c5 ?k5 ?a6 ?l6 ?c6 ?k6 ?a7 ?l7 ?c7 ?k7 ?a8 ?l8 ?c8 ?k8 ?a9 ?l9 ?c9 ?k9 ?a10 ?l10 ?c10 ?k10 ?a11 ?l11 ?c11 ?k11 ?zz_range ?zz_int ?zz_abs
    (case a1 => k_is)
    (case l1 => k_is)
    (case c1 => k_is)
    (case k1 => k_is)
    (case a2 => k_is)
    (case l2 => k_is)
    (case c2 => k_is)
    (case k2 => k_is)
    (case a3 => k_is)
    (case l3 => k_is)
    (case c3 => k_is)
    (case k3 => k_is)
    (case a4 => k_is)
    (case l4 => k_is)
    (case c4 => k_is)
    (case k4 => k_is)
    (case a5 => k_is)
    (case l5 => k_is)
    (case c5 => k_is)
    (case k5 => k_is)
    (case a6 => k_is)
    (case l6 => k_is)
    (case c6 => k_is)
    (case k6 => k_is)
    (case a7 => k_is)
    (case l7 => k_is)
    (case c7 => k_is)
    (case k7 => k_is)
    (case a8 => k_is)
    (case l8 => k_is)
    (case c8 => k_is)
    (case k8 => k_is)
    (case a9 => k_is)
    (case l9 => k_is)
    (case c9 => k_is)
    (case k9 => k_is)
    (case a10 => k_is)
    (case l10 => k_is)
    (case c10 => k_is)
    (case k10 => k_is)
    (case a11 => k_is)
    (case l11 => k_is)
    (case c11 => k_is)
    (case k11 => k_is)
    (case zz_range => k_is)
    (case zz_int => k_is)
    (case zz_abs => k_is)
#print axioms PySem.Challenge.cw_rowecho_k35_whole_roots_holds
end PZk35
