import PyProof.Rows.All
import Wide.All
import OpenK.AllK
import Wide.FinOn
import HandS.ForMost
import HandS.Wide
import HandS.Gcd
import HandS.Star
import HandS.TupMul
import HandS.Deep
import HandS.TupAny
import PyProof.Rows.SeqMore
import PyProof.Rows.ListMulArg
import HandS.IsInst
import HandS.Zip
import HandS.Rev
import KE.GoesZip
import KE.GoesEnum
import HandS.Iter
import HandS.Comp
import PyProof.AutoSeq1
import HandS.Head0
import HandS.Head1
import HandS.Head2
import HandS.HeadEnd
import HandS.HeadHook2
import HandS.Head3
import PySem.Challenge.RW_gripwright_k01_vectors_told
set_option Elab.async false
section
set_option Elab.async false
set_option linter.all false
set_option maxRecDepth 100000
/-! The deep interpreter: values, terms, the evaluator. No program and no machine here. -/
namespace DI
/-- a deep value; an instance is the tuple of its fields -/
inductive D where
  | non | bl (b : Bool) | int (i : Int) | str (x : PySem.Str)
  | tup (xs : List D) | lst (xs : List D) | dct (kvs : List (D × D))
  deriving Inhabited
abbrev Rho := List D
inductive O2 where
  | add | sub | mul | fdiv | mod | cat | rep | repT
  deriving DecidableEq
inductive Cp where
  | lt | le | gt | ge | eq | ne | isN | notN | inn | nin
  deriving DecidableEq
inductive Ty where
  | int | bool | str | tuple | list
  deriving DecidableEq
/-- built-ins, by value -/
inductive Bi where
  | len | abs | min2 | max2 | minL | maxL | sumL | intOf | tupleOf | listOf | gcd | isi (ts : List Ty)
  | sorted | sortSet | lenSet
  deriving DecidableEq
/-- who takes a generator expression -/
inductive GK where
  | tup | all | any
  deriving DecidableEq
inductive Tg where
  | one (i : Nat) | many (is : List Nat)
  deriving DecidableEq
/-- expressions, argument lists (a0, aE, aS: star), sources of loops (s*) -/
inductive E where
  | var (i : Nat) | mv (i : Nat) | fz (i : Nat) | gl (g : Nat)
  | ci (i : Int) | cs (s : PySem.Str) | cb (b : Bool) | cn
  | o2 (o : O2) (a b : E) | neg (a : E) | nt (a : E)
  | cp (o : Cp) (a b : E) | ch (o1 o2 : Cp) (a b c : E)
  | an (a b : E) | orr (a b : E) | ite (c a b : E)
  | tup (as : E) | lst (as : E) | a0 | aE (a r : E) | aS (a r : E)
  | ix (a i : E) | sl (a lo hi : E) | so | fld (a : E) (c j : Nat)
  | call (f : Nat) (as : E) | mcall (f : Nat) (as : E) | mk (c f : Nat) (as : E) | aio (p r : E) | abw (p r : E)
  | bi (b : Bi) (as : E)
  | comp (tg : Tg) (src cond elt : E) | comp2 (tg : Tg) (src : E) (tg2 : Tg) (src2 elt : E) | gen (k : GK) (tg : Tg) (src cond elt : E) | ct
  | pur (e : E) | pop (p : E)
  | sq (e : E) | rg1 (a : E) | rg2 (a b : E) | rg3 (a b c : E) | en (a : E) | zp (a b : E) | rv (a : E)
/-! ### equality -/
mutual
def lay : D → Bool
  | .non | .bl _ | .int _ => true
  | .str x => PySem.PyData.canLay0 (.str x)
  | .tup xs | .lst xs => layA xs
  | .dct _ => false
def layA : List D → Bool
  | [] => true
  | x :: xs => lay x && layA xs
end
mutual
def toPy : D → PySem.PyData
  | .non => .none | .bl b => .bool b | .int i => .int i | .str x => .str x
  | .tup xs => .tuple (toPyA xs) | .lst xs => .list (toPyA xs) | .dct _ => .dict []
def toPyA : List D → List PySem.PyData
  | [] => []
  | x :: xs => toPy x :: toPyA xs
end
mutual
def dep : D → Nat
  | .tup xs | .lst xs => depA xs + 1
  | .dct _ => 1
  | _ => 0
def depA : List D → Nat
  | [] => 0
  | x :: xs => max (dep x) (depA xs)
end
def eqD : D → D → Option Bool
  | .int i, .int j => some (decide (i = j))
  | .bl i, .bl j => some (decide (i = j))
  | .str i, .str j => some (decide (i = j))
  | x, y => if lay x && lay y && (decide (dep x ≤ 60) && decide (dep y ≤ 60)) then some (PySem.PyData.eqv (toPy x) (toPy y)) else none
/-! ### operators -/
def mulOk (i j : Int) : Bool := decide (i.natAbs.log2 + j.natAbs.log2 < 1000000) || decide (i.natAbs < 2 ^ 63) || decide (j.natAbs < 2 ^ 63)
def lenOk (n : Nat) : Bool := decide (n ≤ 1000000)
def o2D : O2 → D → D → Option D
  | .add, .int i, .int j => some (.int (i + j))
  | .add, .tup xs, .tup ys => if lenOk (xs.length + ys.length) then some (.tup (xs ++ ys)) else none
  | .add, .str x, .str y => if lenOk (x.length + y.length) then some (.str (x ++ y)) else none
  | .sub, .int i, .int j => some (.int (i - j))
  | .mul, .int i, .int j => if mulOk i j then some (.int (i * j)) else none
  | .fdiv, .int i, .int j => if decide (0 < j) && decide (j.natAbs.log2 < 9000) then some (.int (i / j)) else none
  | .mod, .int i, .int j => if 0 < j then some (.int (i % j)) else none
  | .cat, .lst xs, .lst ys => if lenOk (xs.length + ys.length) then some (.lst (xs ++ ys)) else none
  | .rep, .lst xs, .int n => if lenOk (xs.length * n.toNat) && decide (-(2 ^ 62) ≤ n ∧ n < 2 ^ 62) then some (.lst (List.replicate n.toNat xs).flatten) else none
  | .repT, .tup xs, .int n => if decide (xs.length ≤ 1000) && decide (-(2 ^ 62) ≤ n ∧ n ≤ 1000) then some (.tup (List.replicate n.toNat xs).flatten) else none
  | _, _, _ => none
def seqOf : D → Option (List D)
  | .tup xs => some xs
  | .lst xs => some xs
  | _ => none
def inD (x y : D) : Option Bool := match seqOf y with
  | some ys => if lay x && (layA ys && (decide (dep x ≤ 60) && decide (depA ys ≤ 60))) then some (ys.any fun z => PySem.PyData.eqv (toPy z) (toPy x)) else none
  | none => none
def cpD : Cp → D → D → Option Bool
  | .lt, .int i, .int j => some (decide (i < j))
  | .le, .int i, .int j => some (decide (i ≤ j))
  | .gt, .int i, .int j => some (decide (j < i))
  | .ge, .int i, .int j => some (decide (j ≤ i))
  | .eq, x, y => eqD x y
  | .ne, x, y => (eqD x y).map (!·)
  | .isN, x, .non => match x with | .non => some true | _ => some false
  | .notN, x, .non => match x with | .non => some false | _ => some true
  | .inn, x, y => inD x y
  | .nin, x, y => (inD x y).map (!·)
  | _, _, _ => none
def tyB : Ty → D → Bool
  | .int, .int _ => true
  | .int, .bl _ => true
  | .bool, .bl _ => true
  | .str, .str _ => true
  | .tuple, .tup _ => true
  | .list, .lst _ => true
  | _, _ => false
def intsOf : List D → Option (List Int)
  | [] => some []
  | .int i :: r => (intsOf r).map (i :: ·)
  | _ => none
def maxI : Int → List Int → Int
  | m, [] => m
  | m, x :: xs => maxI (if x > m then x else m) xs
def minI : Int → List Int → Int
  | m, [] => m
  | m, x :: xs => minI (if x < m then x else m) xs
def biD : Bi → List D → Option D
  | .len, [.tup xs] => some (.int xs.length)
  | .len, [.lst xs] => some (.int xs.length)
  | .len, [.str x] => if lenOk x.length then some (.int x.length) else none
  | .abs, [.int i] => some (.int (if i < 0 then -i else i))
  | .min2, [.int i, .int j] => some (.int (if j < i then j else i))
  | .max2, [.int i, .int j] => some (.int (if j > i then j else i))
  | .minL, [.lst xs] => match intsOf xs with
    | some (i :: r) => some (.int (minI i r))
    | _ => none
  | .maxL, [.lst xs] => match intsOf xs with
    | some (i :: r) => some (.int (maxI i r))
    | _ => none
  | .sumL, [.lst xs] => (intsOf xs).map fun l => .int l.sum
  | .intOf, [.int i] => some (.int i)
  | .tupleOf, [.tup xs] => some (.tup xs)
  | .tupleOf, [.lst xs] => some (.tup xs)
  | .listOf, [.tup xs] => some (.lst xs)
  | .listOf, [.lst xs] => some (.lst xs)
  | .gcd, [.int i, .int j] => some (.int (Int.gcd i j))
  | .isi ts, [x] => some (.bl (ts.any fun t => tyB t x))
  | _, _ => none
/-- a place in a row of n, by an int that may be below 0 -/
def ixN (n : Nat) (i : Int) : Option Nat := L2.ixN n i
def ixD : D → D → Option D
  | .tup xs, .int i => L2.atI xs i
  | .lst xs, .int i => L2.atI xs i
  | .str x, .int i => if lenOk x.length then (L2.atI x.cps.toList i).map fun c => .str ⟨#[c]⟩ else none
  | _, _ => none
def optI : D → Option (Option Int)
  | .non => some none
  | .int i => some (some i)
  | _ => none
def cutD {α : Type} (xs : List α) (lo hi : Option Int) : List α := (xs.drop (HT.sIx xs.length 0 lo)).take (HT.sIx xs.length xs.length hi - HT.sIx xs.length 0 lo)
def slD : D → Option Int → Option Int → Option D
  | .tup xs, lo, hi => some (.tup (cutD xs lo hi))
  | .lst xs, lo, hi => some (.lst (cutD xs lo hi))
  | _, _, _ => none
def isSo : E → Bool
  | .so => true
  | _ => false
def isCt : E → Bool
  | .ct => true
  | _ => false
/-! ### targets -/
def setMany : List Nat → List D → Rho → Option Rho
  | [], [], ρ => some ρ
  | i :: is, d :: ds, ρ => setMany is ds (ρ.set i d)
  | _, _, _ => none
def setTg : Tg → D → Rho → Option Rho
  | .one i, d, ρ => some (ρ.set i d)
  | .many is, .tup ds, ρ => setMany is ds ρ
  | _, _, _ => none
def Tg.slots : Tg → List Nat
  | .one i => [i]
  | .many is => is
/-- the slots at is as they stand in ρ0 -/
def back (ρ0 : Rho) : List Nat → Rho → Rho
  | [], ρ => ρ
  | i :: is, ρ => back ρ0 is (ρ.set i (ρ0.getD i .non))
def kill : List Nat → Rho → Rho
  | [], ρ => ρ
  | i :: is, ρ => kill is (ρ.set i .non)
/-! ### walks -/
def loopC (f : D → Rho → Option (Option D × Rho)) : List D → Rho → Option (List D × Rho)
  | [], ρ => some ([], ρ)
  | d :: ds, ρ => match f d ρ with
    | some (none, ρ1) => loopC f ds ρ1
    | some (some y, ρ1) => match loopC f ds ρ1 with
      | some (ys, ρ2) => some (y :: ys, ρ2)
      | none => none
    | none => none
/-- all (stop = false), any (stop = true): the walk ends at the first item of this truth -/
def loopB (stop : Bool) (f : D → Rho → Option (Option D × Rho)) : List D → Rho → Option (Bool × Rho)
  | [], ρ => some (!stop, ρ)
  | d :: ds, ρ => match f d ρ with
    | some (none, ρ1) => loopB stop f ds ρ1
    | some (some (.bl b), ρ1) => if b = stop then some (stop, ρ1) else loopB stop f ds ρ1
    | _ => none
def rangeD (a b : Int) : List D := (List.range (b - a).toNat).map fun (k : Nat) => .int (a + (k : Int))
/-- a, a - 1, .. above b -/
def range3D (a b c : Int) : Option (List D) :=
  if c = -1 then some ((List.range (a - b).toNat).map fun (k : Nat) => .int (a + (k : Int) * (-1))) else none
def enumD : Nat → List D → List D
  | _, [] => []
  | n, x :: xs => .tup [.int n, x] :: enumD (n + 1) xs
def zipD (xs ys : List D) : List D := List.zipWith (fun x y => .tup [x, y]) xs ys
def smallI (i : Int) : Bool := decide (-(2 ^ 62) ≤ i ∧ i < 2 ^ 62)
abbrev Calls := Nat → List D → Option (D × List D)
/-- where a path stands, and how to put another value there -/
def loc (ρ : Rho) : E → Option (D × (D → Rho))
  | .var i => some (ρ.getD i .non, fun d => ρ.set i d)
  | .fld a _ j => match loc ρ a with
    | some (.tup fs, up) => (fs[j]?).map fun d => (d, fun d' => up (.tup (fs.set j d')))
    | _ => none
  | _ => none
/-- the slot a path begins in -/
def root : E → Nat
  | .var i => i
  | .fld a _ _ => root a
  | _ => 0
def ev (C : Calls) : E → Rho → Option (D × Rho)
  | .var i, ρ => some (ρ.getD i .non, ρ)
  | .mv i, ρ => some (ρ.getD i .non, ρ.set i .non)
  | .fz i, ρ => some (ρ.getD i .non, ρ)
  | .gl g, ρ => none
  | .ci i, ρ => some (.int i, ρ)
  | .cs s, ρ => some (.str s, ρ)
  | .cb b, ρ => some (.bl b, ρ)
  | .cn, ρ => some (.non, ρ)
  | .o2 o a b, ρ => match ev C a ρ with
    | some (x, ρ1) => match ev C b ρ1 with
      | some (y, ρ2) => (o2D o x y).map fun z => (z, ρ2)
      | none => none
    | none => none
  | .neg a, ρ => match ev C a ρ with
    | some (.int i, ρ1) => some (.int (-i), ρ1)
    | _ => none
  | .nt a, ρ => match ev C a ρ with
    | some (.bl b, ρ1) => some (.bl (!b), ρ1)
    | _ => none
  | .cp o a b, ρ => match ev C a ρ with
    | some (x, ρ1) => match ev C b ρ1 with
      | some (y, ρ2) => (cpD o x y).map fun z => (.bl z, ρ2)
      | none => none
    | none => none
  | .ch o1 o2 a b c, ρ => match ev C a ρ with
    | some (x, ρ1) => match ev C b ρ1 with
      | some (y, ρ2) => match cpD o1 x y with
        | some true => match ev C c ρ2 with
          | some (z, ρ3) => (cpD o2 y z).map fun t => (.bl t, ρ3)
          | none => none
        | some false => some (.bl false, ρ2)
        | none => none
      | none => none
    | none => none
  | .an a b, ρ => match ev C a ρ with
    | some (.bl true, ρ1) => match ev C b ρ1 with
      | some (.bl y, ρ2) => some (.bl y, ρ2)
      | _ => none
    | some (.bl false, ρ1) => some (.bl false, ρ1)
    | _ => none
  | .orr a b, ρ => match ev C a ρ with
    | some (.bl false, ρ1) => match ev C b ρ1 with
      | some (.bl y, ρ2) => some (.bl y, ρ2)
      | _ => none
    | some (.bl true, ρ1) => some (.bl true, ρ1)
    | _ => none
  | .ite c a b, ρ => match ev C c ρ with
    | some (.bl true, ρ1) => ev C a ρ1
    | some (.bl false, ρ1) => ev C b ρ1
    | _ => none
  | .tup as, ρ => match ev C as ρ with
    | some (.tup xs, ρ1) => if lenOk xs.length then some (.tup xs, ρ1) else none
    | _ => none
  | .lst as, ρ => match ev C as ρ with
    | some (.tup xs, ρ1) => if lenOk xs.length then some (.lst xs, ρ1) else none
    | _ => none
  | .a0, ρ => some (.tup [], ρ)
  | .aE a r, ρ => match ev C a ρ with
    | some (x, ρ1) => match ev C r ρ1 with
      | some (.tup xs, ρ2) => some (.tup (x :: xs), ρ2)
      | _ => none
    | none => none
  | .aS a r, ρ => match ev C a ρ with
    | some (x, ρ1) => match seqOf x with
      | some ys => match ev C r ρ1 with
        | some (.tup xs, ρ2) => some (.tup (ys ++ xs), ρ2)
        | _ => none
      | none => none
    | none => none
  | .ix a i, ρ => match ev C a ρ with
    | some (x, ρ1) => match ev C i ρ1 with
      | some (y, ρ2) => (ixD x y).map fun z => (z, ρ2)
      | none => none
    | none => none
  | .sl a lo hi, ρ => match ev C a ρ with
    | some (x, ρ1) => match ev C lo ρ1 with
      | some (l, ρ2) => match ev C hi ρ2 with
        | some (h, ρ3) => match optI l, optI h with
          | some l', some h' => (slD x l' h').map fun z => (z, ρ3)
          | _, _ => none
        | none => none
      | none => none
    | none => none
  | .so, ρ => some (.non, ρ)
  | .fld a c j, ρ => match ev C a ρ with
    | some (.tup fs, ρ1) => (fs[j]?).map fun z => (z, ρ1)
    | _ => none
  | .call f as, ρ => match ev C as ρ with
    | some (.tup xs, ρ1) => match C f xs with
      | some (r, outs) => (putIo ρ1 as outs).map fun ρ2 => (r, ρ2)
      | none => none
    | _ => none
  | .mcall f as, ρ => match ev C as ρ with
    | some (.tup xs, ρ1) => match C f xs with
      | some (r, outs) => (putIo ρ1 as outs).map fun ρ2 => (r, ρ2)
      | none => none
    | _ => none
  | .mk c f as, ρ => match ev C as ρ with
    | some (.tup xs, ρ1) => match C f (.tup [] :: xs) with
      | some (.non, o :: outs) => (putIo ρ1 as outs).map fun ρ2 => (o, ρ2)
      | _ => none
    | _ => none
  | .aio p r, ρ => match ev C r ρ with
    | some (.tup xs, ρ1) => match loc ρ1 p with
      | some (x, _) => some (.tup (x :: xs), ρ1)
      | none => none
    | _ => none
  | .abw p r, ρ => match ev C r ρ with
    | some (.tup xs, ρ1) => match loc ρ1 p with
      | some (x, _) => some (.tup (x :: xs), ρ1)
      | none => none
    | _ => none
  | .bi b as, ρ => match ev C as ρ with
    | some (.tup xs, ρ1) => (biD b xs).map fun z => (z, ρ1)
    | _ => none
  | .comp tg src cond elt, ρ => match ev C src ρ with
    | some (.lst items, ρ1) => match loopC (fun d ρ => match setTg tg d ρ with
        | some ρa => match (if isCt cond then some (.bl true, ρa) else ev C cond ρa) with
          | some (.bl true, ρb) => match ev C elt ρb with
            | some (y, ρc) => some (some y, back ρ tg.slots ρc)
            | none => none
          | some (.bl false, ρb) => some (none, back ρ tg.slots ρb)
          | _ => none
        | none => none) items ρ1 with
      | some (ys, ρ2) => if lenOk ys.length then some (.lst ys, ρ2) else none
      | none => none
    | _ => none
  | .comp2 tg src tg2 src2 elt, ρ => match ev C src ρ with
    | some (.lst items, ρ1) => match loopC (fun d ρ => match setTg tg d ρ with
        | some ρa => match ev C src2 ρa with
          | some (.lst items2, ρb) => match loopC (fun d2 ρ' => match setTg tg2 d2 ρ' with
              | some ρc => match ev C elt ρc with
                | some (y, ρd) => some (some y, back ρ' tg2.slots ρd)
                | none => none
              | none => none) items2 ρb with
            | some (ys, ρe) => some (some (.lst ys), back ρ tg.slots ρe)
            | none => none
          | _ => none
        | none => none) items ρ1 with
      | some (yss, ρ2) => match (yss.map seqOf).foldr (fun a b => match a, b with
          | some x, some y => some (x ++ y)
          | _, _ => none) (some []) with
        | some ys => if lenOk ys.length then some (.lst ys, ρ2) else none
        | none => none
      | none => none
    | _ => none
  | .gen k tg src cond elt, ρ => match ev C src ρ with
    | some (.lst items, ρ1) =>
      let f : D → Rho → Option (Option D × Rho) := fun d ρ => match setTg tg d ρ with
        | some ρa => match (if isCt cond then some (.bl true, ρa) else ev C cond ρa) with
          | some (.bl true, ρb) => match ev C elt ρb with
            | some (y, ρc) => some (some y, back ρ tg.slots ρc)
            | none => none
          | some (.bl false, ρb) => some (none, back ρ tg.slots ρb)
          | _ => none
        | none => none
      match k with
      | .tup => match loopC f items ρ1 with
        | some (ys, ρ2) => if lenOk ys.length then some (.tup ys, ρ2) else none
        | none => none
      | .all => (loopB false f items ρ1).map fun (b, ρ2) => (.bl b, ρ2)
      | .any => (loopB true f items ρ1).map fun (b, ρ2) => (.bl b, ρ2)
    | _ => none
  | .ct, ρ => some (.bl true, ρ)
  | .pur e, ρ => match ev C e ρ with
    | some (x, _) => some (x, ρ)
    | none => none
  | .pop p, ρ => match loc ρ p with
    | some (.lst xs, up) => match xs.getLast? with
      | some x => some (x, up (.lst xs.dropLast))
      | none => none
    | _ => none
  | .sq e, ρ => match ev C e ρ with
    | some (x, ρ1) => (seqOf x).map fun xs => (.lst xs, ρ1)
    | none => none
  | .rg1 a, ρ => match ev C a ρ with
    | some (.int j, ρ1) => if smallI j then some (.lst (rangeD 0 j), ρ1) else none
    | _ => none
  | .rg2 a b, ρ => match ev C a ρ with
    | some (.int i, ρ1) => match ev C b ρ1 with
      | some (.int j, ρ2) => if smallI i && smallI j then some (.lst (rangeD i j), ρ2) else none
      | _ => none
    | _ => none
  | .rg3 a b c, ρ => match ev C a ρ with
    | some (.int i, ρ1) => match ev C b ρ1 with
      | some (.int j, ρ2) => match ev C c ρ2 with
        | some (.int k, ρ3) => if smallI i && smallI j && smallI k then (range3D i j k).map fun l => (.lst l, ρ3) else none
        | _ => none
      | _ => none
    | _ => none
  | .en a, ρ => match ev C a ρ with
    | some (x, ρ1) => (seqOf x).map fun xs => (.lst (enumD 0 xs), ρ1)
    | none => none
  | .zp a b, ρ => match ev C a ρ with
    | some (x, ρ1) => match ev C b ρ1 with
      | some (y, ρ2) => match seqOf x, seqOf y with
        | some xs, some ys => some (.lst (zipD xs ys), ρ2)
        | _, _ => none
      | none => none
    | none => none
  | .rv a, ρ => match ev C a ρ with
    | some (x, ρ1) => (seqOf x).map fun xs => (.lst xs.reverse, ρ1)
    | none => none
where
  /-- what the callee left in the places that were lent -/
  putIo (ρ : Rho) : E → List D → Option Rho
    | .a0, [] => some ρ
    | .aE _ r, ds => putIo ρ r ds
    | .abw _ r, ds => putIo ρ r ds
    | .aio p r, d :: ds => match putIo ρ r ds with
      | some ρ1 => match loc ρ1 p with
        | some (_, up) => some (up d)
        | none => none
      | none => none
    | _, _ => none
/-- in place, on ints -/
def augD (o : O2) (x y : D) : Option D := match x, y with
  | .int _, .int _ => o2D o x y
  | _, _ => none
/-! ### statements -/
inductive S where
  | nil | cons (s r : S)
  | ret (e : E) | retn | asg (i : Nat) (e : E) | asgT (is : List Nat) (e : E) | asgF (p : E) (c j : Nat) (e : E) | asgFT (p : E) (c : Nat) (js : List Nat) (e : E) | setI (p i e : E)
  | aug (o : O2) (i : Nat) (e : E) | augI (o : O2) (p i e : E) | augF (o : O2) (p : E) (c j : Nat) (e : E)
  | app (p e : E) | ext (p e : E) | ins (p i e : E)
  | ifs (c : E) (a b : S) | for_ (tg : Tg) (src : E) (body : S) (kills hide : List Nat) | whl (c : E) (body : S) (kills : List Nat)
  | drop (e : E) | pass | cont | brk
inductive Fl where
  | nx | rt (d : D) | bk | ct
def loopF (kills : List Nat) (tg : Tg) (body : Rho → Option (Fl × Rho)) : List D → Rho → Option (Fl × Rho)
  | [], ρ => some (.nx, ρ)
  | d :: ds, ρ => match setTg tg d ρ with
    | some ρ1 => match body ρ1 with
      | some (.nx, ρ2) => loopF kills tg body ds (kill kills ρ2)
      | some (.ct, ρ2) => loopF kills tg body ds (kill kills ρ2)
      | some (.bk, ρ2) => some (.nx, kill kills ρ2)
      | some (.rt d, ρ2) => some (.rt d, ρ2)
      | none => none
    | none => none
/-- so many turns at most -/
def iterW (c : Rho → Option (D × Rho)) (body : Rho → Option (Fl × Rho)) (kills : List Nat) : Nat → Rho → Option (Fl × Rho)
  | 0, _ => none
  | n + 1, ρ => match c ρ with
    | some (.bl false, ρ1) => some (.nx, ρ1)
    | some (.bl true, ρ1) => match body ρ1 with
      | some (.nx, ρ2) => iterW c body kills n (kill kills ρ2)
      | some (.ct, ρ2) => iterW c body kills n (kill kills ρ2)
      | some (.bk, ρ2) => some (.nx, kill kills ρ2)
      | some (.rt d, ρ2) => some (.rt d, ρ2)
      | none => none
    | _ => none
theorem iterW_mono {c : Rho → Option (D × Rho)} {body : Rho → Option (Fl × Rho)} {kills : List Nat} : ∀ {n m : Nat} {ρ : Rho} {r : Fl × Rho}, iterW c body kills n ρ = some r → n ≤ m → iterW c body kills m ρ = some r
  | 0, _, _, _, h, _ => by cases h
  | n + 1, 0, _, _, _, h => by omega
  | n + 1, m + 1, ρ, r, h, hm => by
    unfold iterW at h ⊢
    cases hc : c ρ with
    | none => rw [hc] at h; exact h
    | some p =>
      obtain ⟨d, ρ1⟩ := p
      rw [hc] at h
      cases d with
      | bl b =>
        cases b with
        | false => exact h
        | true =>
          simp only at h ⊢
          cases hb : body ρ1 with
          | none => rw [hb] at h; exact h
          | some q =>
            obtain ⟨f, ρ2⟩ := q
            rw [hb] at h
            cases f with
            | nx => exact iterW_mono h (by omega)
            | ct => exact iterW_mono h (by omega)
            | bk => exact h
            | rt d => exact h
      | _ => exact h
open Classical in
/-- the loop, if it ends -/
noncomputable def whileD (c : Rho → Option (D × Rho)) (body : Rho → Option (Fl × Rho)) (kills : List Nat) (ρ : Rho) : Option (Fl × Rho) :=
  if h : ∃ n r, iterW c body kills n ρ = some r then some (Classical.choose (Classical.choose_spec h)) else none
theorem whileD_of {c : Rho → Option (D × Rho)} {body : Rho → Option (Fl × Rho)} {kills : List Nat} {n : Nat} {ρ : Rho} {r : Fl × Rho} (h : iterW c body kills n ρ = some r) : whileD c body kills ρ = some r := by
  have hx : ∃ n r, iterW c body kills n ρ = some r := ⟨n, r, h⟩
  unfold whileD
  rw [dif_pos hx]
  have e := Classical.choose_spec (Classical.choose_spec hx)
  have e1 := iterW_mono e (Nat.le_max_left (Classical.choose hx) n)
  have e2 := iterW_mono h (Nat.le_max_right (Classical.choose hx) n)
  rw [e1] at e2
  exact e2
theorem of_whileD {c : Rho → Option (D × Rho)} {body : Rho → Option (Fl × Rho)} {kills : List Nat} {ρ : Rho} {r : Fl × Rho} (h : whileD c body kills ρ = some r) : ∃ n, iterW c body kills n ρ = some r := by
  unfold whileD at h
  split at h
  · rename_i hx
    have e := Classical.choose_spec (Classical.choose_spec hx)
    exact ⟨_, by rw [e, ← h]⟩
  · cases h
noncomputable def ex (C : Calls) : S → Rho → Option (Fl × Rho)
  | .nil, ρ => some (.nx, ρ)
  | .cons s r, ρ => match ex C s ρ with
    | some (.nx, ρ1) => ex C r ρ1
    | o => o
  | .ret e, ρ => match ev C e ρ with
    | some (d, ρ1) => some (.rt d, ρ1)
    | none => none
  | .retn, ρ => some (.rt .non, ρ)
  | .asg i e, ρ => match ev C e ρ with
    | some (d, ρ1) => some (.nx, ρ1.set i d)
    | none => none
  | .asgT is e, ρ => match ev C e ρ with
    | some (.tup ds, ρ1) => (setMany is ds ρ1).map fun ρ2 => (.nx, ρ2)
    | _ => none
  | .asgF p c j e, ρ => match ev C e ρ with
    | some (d, ρ1) => match loc ρ1 p with
      | some (.tup fs, up) => if j < fs.length then some (.nx, up (.tup (fs.set j d))) else if j = fs.length then some (.nx, up (.tup (fs ++ [d]))) else none
      | _ => none
    | none => none
  | .asgFT p c js e, ρ => match ev C e ρ with
    | some (.tup ds, ρ1) => match loc ρ1 p with
      | some (.tup fs, up) => if js = List.range' fs.length ds.length then some (.nx, up (.tup (fs ++ ds))) else none
      | _ => none
    | _ => none
  | .setI p i e, ρ => match ev C e ρ with
    | some (d, ρ1) => match ev C i ρ1 with
      | some (.int k, ρ2) => match loc ρ2 p with
        | some (.lst xs, up) => (ixN xs.length k).map fun j => (.nx, up (.lst (xs.set j d)))
        | _ => none
      | _ => none
    | none => none
  | .aug o i e, ρ => match ev C e ρ with
    | some (d, ρ1) => (augD o (ρ1.getD i .non) d).map fun z => (.nx, ρ1.set i z)
    | none => none
  | .augI o p i e, ρ => match ev C i ρ with
    | some (.int k, ρ1) => match loc ρ1 p with
      | some (.lst xs, _) => match (ixN xs.length k).bind fun j => (xs[j]?).map fun x => (j, x) with
        | some (j, x) => match ev C e ρ1 with
          | some (d, ρ2) => match augD o x d with
            | some z => match loc ρ2 p with
              | some (.lst xs2, up) => (ixN xs2.length k).map fun j2 => (.nx, up (.lst (xs2.set j2 z)))
              | _ => none
            | none => none
          | none => none
        | none => none
      | _ => none
    | _ => none
  | .augF o p c j e, ρ => match loc ρ p with
    | some (.tup fs, _) => match fs[j]? with
      | some x => match ev C e ρ with
        | some (d, ρ1) => match augD o x d with
          | some z => match loc ρ1 p with
            | some (.tup fs2, up) => some (.nx, up (.tup (fs2.set j z)))
            | _ => none
          | none => none
        | none => none
      | none => none
    | _ => none
  | .app p e, ρ => match ev C e ρ with
    | some (d, ρ1) => match loc ρ1 p with
      | some (.lst xs, up) => if lenOk xs.length then some (.nx, up (.lst (xs ++ [d]))) else none
      | _ => none
    | none => none
  | .ext p e, ρ => match ev C e ρ with
    | some (d, ρ1) => match seqOf d, loc ρ1 p with
      | some ys, some (.lst xs, up) => if lenOk (xs.length + ys.length) then some (.nx, up (.lst (xs ++ ys))) else none
      | _, _ => none
    | none => none
  | .ins p i e, ρ => match ev C i ρ with
    | some (.int k, ρ1) => match ev C e ρ1 with
      | some (d, ρ2) => match loc ρ2 p with
        | some (.lst xs, up) => if decide (0 ≤ k) && decide (k.toNat ≤ xs.length) && lenOk xs.length then some (.nx, up (.lst (xs.take k.toNat ++ d :: xs.drop k.toNat))) else none
        | _ => none
      | none => none
    | _ => none
  | .ifs c a b, ρ => match ev C c ρ with
    | some (.bl true, ρ1) => ex C a ρ1
    | some (.bl false, ρ1) => ex C b ρ1
    | _ => none
  | .for_ tg src body kills hide, ρ => match ev C src ρ with
    | some (.lst items, ρ1) => (loopF kills tg (fun ρ => ex C body ρ) items ρ1).map fun (f, ρ2) => (f, back ρ hide ρ2)
    | _ => none
  | .whl c body kills, ρ => whileD (fun ρ => ev C c ρ) (fun ρ => ex C body ρ) kills ρ
  | .drop e, ρ => match ev C e ρ with
    | some (_, ρ1) => some (.nx, ρ1)
    | none => none
  | .pass, ρ => some (.nx, ρ)
  | .cont, ρ => some (.ct, ρ)
  | .brk, ρ => some (.bk, ρ)
end DI
end
section
set_option Elab.async false
set_option linter.all false
set_option maxRecDepth 100000
/-! Modes, and what represents what. -/
namespace DI
open PySem PySem.Spec L2
/-- z: a value, all lists in it frozen; x: nothing known; L m: an own list; tn, tc: an own row; O c k: an own instance of class c with k fields; w m: what is lent to read -/
inductive M where
  | z | x | L (m : M) | tn | tc (m r : M) | O (c k : Nat) | w (m : M)
  deriving DecidableEq, Inhabited
def chain : List M → M
  | [] => .tn
  | m :: r => .tc m (chain r)
/-- may be frozen -/
def M.fzb : M → Bool
  | .z => true
  | .L m => m.fzb
  | .tn => true
  | .tc m r => m.fzb && r.fzb
  | _ => false
abbrev Sets := Addr → Prop
/-- the classes: where they stand, their fields -/
structure CT where
  K : PySem.W.Frag
  ca : Nat → Addr
  cf : Nat → List (Str × M)
/-- may be read as it stood -/
def Stay (o : HO) : Prop := ∀ ps, o ≠ .tbl ps
section
variable (G : CT)
mutual
inductive Fz (H : Hp) (N : Sets) : D → V → Prop
  | non : Fz H N .non .non
  | bl (b : Bool) : Fz H N (.bl b) (.bl b)
  | int (i : Int) : Fz H N (.int i) (.int i)
  | str (x : Str) : Fz H N (.str x) (.str x)
  | tup {a : Addr} {xs : List V} {ds : List D} : SqT G.K H a xs → FzA H N ds xs → Fz H N (.tup ds) (.ref a)
  | lst {a : Addr} {xs : List V} {ds : List D} : Rd H a (.lst xs) → ¬ N a → FzA H N ds xs → Fz H N (.lst ds) (.ref a)
  | lstK {a : Addr} {xs : List V} {ds : List D} : (∀ H', SqL G.K H' a xs) → FzA H N ds xs → Fz H N (.lst ds) (.ref a)
  | dct {a : Addr} : H a = some (.dK []) → ¬ N a → Fz H N (.dct []) (.ref a)
inductive FzA (H : Hp) (N : Sets) : List D → List V → Prop
  | nil : FzA H N [] []
  | cons {d : D} {ds : List D} {v : V} {vs : List V} : Fz H N d v → FzA H N ds vs → FzA H N (d :: ds) (v :: vs)
end
def own1 (o : Bool) (a : Addr) (w : List Addr) : List Addr := if o then a :: w else w
mutual
inductive Rp (H : Hp) (N B : Sets) : Bool → M → D → V → List Addr → Prop
  | z {o : Bool} {d : D} {v : V} : Fz G H N d v → Rp H N B o .z d v []
  | co {m : M} {d : D} {v : V} : m.fzb = true → Fz G H N d v → Rp H N B false m d v []
  | L {o : Bool} {m : M} {ds : List D} {a : Addr} {xs : List V} {w : List Addr} : H a = some (.lst xs) → (o = false → ¬ B a) → RpA H N B o m ds xs w → Rp H N B o (.L m) (.lst ds) (.ref a) (own1 o a w)
  | T {o : Bool} {m : M} {ds : List D} {a : Addr} {xs : List V} {w : List Addr} : SqT G.K H a xs → RpT H N B o m ds xs w → Rp H N B o m (.tup ds) (.ref a) w
  | O {o : Bool} {c k : Nat} {ds : List D} {a dx : Addr} {fs : List (Str × V)} {w : List Addr} : H a = some (.ins (G.ca c) dx fs) → (o = false → ¬ B a) → fs.map (·.1) = ((G.cf c).take k).map (·.1) →
      RpT H N B o (chain (((G.cf c).take k).map (·.2))) ds (fs.map (·.2)) w → Rp H N B o (.O c k) (.tup ds) (.ref a) (own1 o a w)
  | w {o : Bool} {m : M} {d : D} {v : V} : Rp H N B false m d v [] → Rp H N B o (.w m) d v []
/-- all of one mode -/
inductive RpA (H : Hp) (N B : Sets) : Bool → M → List D → List V → List Addr → Prop
  | nil {o : Bool} {m : M} : RpA H N B o m [] [] []
  | cons {o : Bool} {m : M} {d : D} {ds : List D} {v : V} {vs : List V} {w1 w2 : List Addr} : Rp H N B o m d v w1 → RpA H N B o m ds vs w2 → RpA H N B o m (d :: ds) (v :: vs) (w1 ++ w2)
/-- each of its mode -/
inductive RpT (H : Hp) (N B : Sets) : Bool → M → List D → List V → List Addr → Prop
  | nil {o : Bool} : RpT H N B o .tn [] [] []
  | cons {o : Bool} {m r : M} {d : D} {ds : List D} {v : V} {vs : List V} {w1 w2 : List Addr} : Rp H N B o m d v w1 → RpT H N B o r ds vs w2 → RpT H N B o (.tc m r) (d :: ds) (v :: vs) (w1 ++ w2)
end
end
/-! ### what a step keeps -/
structure Kp (H H' : Hp) (B : Sets) : Prop where
  keep : ∀ a o, H a = some o → Stay o → ¬ B a → H' a = some o
  tup : ∀ a xs, H a = some (.tup xs) → H' a = some (.tup xs)
  frz : ∀ a o u, H a = some (.frz o u) → H' a = some (.frz o u)
theorem Kp.refl {H : Hp} {B : Sets} : Kp H H B := ⟨fun _ _ h _ _ => h, fun _ _ h => h, fun _ _ _ h => h⟩
theorem Kp.mono {H H' : Hp} {B B' : Sets} (k : Kp H H' B) (h : ∀ a, B a → B' a) : Kp H H' B' := ⟨fun a o e s n => k.keep a o e s fun z => n (h a z), k.tup, k.frz⟩
theorem Kp.sqT {K : PySem.W.Frag} {H H' : Hp} {B : Sets} (k : Kp H H' B) {a : Addr} {xs : List V} (h : SqT K H a xs) : SqT K H' a xs := by
  rcases h with (h | ⟨o, h⟩) | h
  · exact .inl (.inl (k.tup _ _ h))
  · exact .inl (.inr ⟨o, k.frz _ _ _ h⟩)
  · exact .inr h
theorem Kp.rd {H H' : Hp} {B : Sets} (k : Kp H H' B) {a : Addr} {xs : List V} (h : Rd H a (.lst xs)) (n : ¬ B a) : Rd H' a (.lst xs) := by
  rcases h with h | ⟨o, h⟩
  · exact .inl (k.keep _ _ h (fun ps z => by cases z) n)
  · exact .inr ⟨o, k.frz _ _ _ h⟩
theorem rd_trk {H : Hp} {a : Addr} {u : HO} (h : Rd H a u) : H a ≠ none := by
  rcases h with h | ⟨o, h⟩ <;> rw [h] <;> simp
/-- the sets at hand: what values must not hold (N), what may be written (B) -/
structure Nx (H : Hp) (S N B N' B' : Sets) : Prop where
  sn : ∀ a, S a → N a
  sb : ∀ a, S a → B a
  n : ∀ a, H a ≠ none → N' a → N a
  b : ∀ a, H a ≠ none → B' a → B a
section
variable {G : CT} {H H' : Hp} {S N B N' B' : Sets}
mutual
theorem Fz.next (k : Kp H H' S) (x : Nx H S N B N' B') : ∀ {d : D} {v : V}, Fz G H N d v → Fz G H' N' d v
  | _, _, .non => .non
  | _, _, .bl b => .bl b
  | _, _, .int i => .int i
  | _, _, .str s => .str s
  | _, _, .tup h a => .tup (k.sqT h) (FzA.next k x a)
  | _, _, .lst h n a => .lst (k.rd h fun z => n (x.sn _ z)) (fun z => n (x.n _ (rd_trk h) z)) (FzA.next k x a)
  | _, _, .lstK h a => .lstK h (FzA.next k x a)
  | _, _, .dct h n => .dct (k.keep _ _ h (fun ps z => by cases z) fun z => n (x.sn _ z)) fun z => n (x.n _ (by rw [h]; simp) z)
theorem FzA.next (k : Kp H H' S) (x : Nx H S N B N' B') : ∀ {ds : List D} {vs : List V}, FzA G H N ds vs → FzA G H' N' ds vs
  | _, _, .nil => .nil
  | _, _, .cons h t => .cons (Fz.next k x h) (FzA.next k x t)
end
theorem own1_mem {o : Bool} {a b : Addr} {w : List Addr} (h : b ∈ w) : b ∈ own1 o a w := by
  unfold own1; split
  · exact List.mem_cons_of_mem _ h
  · exact h
mutual
theorem Rp.next (k : Kp H H' S) (x : Nx H S N B N' B') : ∀ {o : Bool} {m : M} {d : D} {v : V} {w : List Addr}, Rp G H N B o m d v w → (∀ a ∈ w, ¬ S a) → Rp G H' N' B' o m d v w
  | _, _, _, _, _, .z h, _ => .z (h.next k x)
  | _, _, _, _, _, .co f h, _ => .co f (h.next k x)
  | o, _, _, _, _, .L (a := a) h n r, hw => by
    have nb : ¬ S a := by
      cases o with
      | false => exact fun z => n rfl (x.sb _ z)
      | true => exact hw a (by simp [own1])
    exact .L (k.keep _ _ h (fun ps z => by cases z) nb) (fun e z => n e (x.b _ (by rw [h]; simp) z)) (RpA.next k x r fun b hb => hw b (own1_mem hb))
  | _, _, _, _, _, .T h r, hw => .T (k.sqT h) (RpT.next k x r hw)
  | o, _, _, _, _, .O (a := a) h n e r, hw => by
    have nb : ¬ S a := by
      cases o with
      | false => exact fun z => n rfl (x.sb _ z)
      | true => exact hw a (by simp [own1])
    exact .O (k.keep _ _ h (fun ps z => by cases z) nb) (fun e z => n e (x.b _ (by rw [h]; simp) z)) e (RpT.next k x r fun b hb => hw b (own1_mem hb))
  | _, _, _, _, _, .w h, hw => .w (Rp.next k x h hw)
theorem RpA.next (k : Kp H H' S) (x : Nx H S N B N' B') : ∀ {o : Bool} {m : M} {ds : List D} {vs : List V} {w : List Addr}, RpA G H N B o m ds vs w → (∀ a ∈ w, ¬ S a) → RpA G H' N' B' o m ds vs w
  | _, _, _, _, _, .nil, _ => .nil
  | _, _, _, _, _, .cons h t, hw => .cons (Rp.next k x h fun a ha => hw a (List.mem_append_left _ ha)) (RpA.next k x t fun a ha => hw a (List.mem_append_right _ ha))
theorem RpT.next (k : Kp H H' S) (x : Nx H S N B N' B') : ∀ {o : Bool} {m : M} {ds : List D} {vs : List V} {w : List Addr}, RpT G H N B o m ds vs w → (∀ a ∈ w, ¬ S a) → RpT G H' N' B' o m ds vs w
  | _, _, _, _, _, .nil, _ => .nil
  | _, _, _, _, _, .cons h t, hw => .cons (Rp.next k x h fun a ha => hw a (List.mem_append_left _ ha)) (RpT.next k x t fun a ha => hw a (List.mem_append_right _ ha))
end
/-- what is lent holds nothing -/
theorem Rp.lent : ∀ {m : M} {d : D} {v : V} {w : List Addr}, Rp G H N B false m d v w → w = [] := by
  intro m d v w h
  have key : ∀ {o : Bool} {m : M} {d : D} {v : V} {w : List Addr}, Rp G H N B o m d v w → o = false → w = [] := by
    intro o m d v w h
    refine Rp.rec (motive_1 := fun o m d v w _ => o = false → w = []) (motive_2 := fun o m ds vs w _ => o = false → w = []) (motive_3 := fun o m ds vs w _ => o = false → w = []) ?_ ?_ ?_ ?_ ?_ ?_ ?_ ?_ ?_ ?_ h
    · intros; rfl
    · intros; rfl
    · intro o m ds a xs w _ _ _ ih e; subst e; exact ih rfl
    · intro o m ds a xs w _ _ ih e; exact ih e
    · intro o c k ds a dx fs w _ _ _ _ ih e; subst e; exact ih rfl
    · intros; rfl
    · intros; rfl
    · intro o m d ds v vs w1 w2 _ _ i1 i2 e; rw [i1 e, i2 e]; rfl
    · intros; rfl
    · intro o m r d ds v vs w1 w2 _ _ i1 i2 e; rw [i1 e, i2 e]; rfl
  exact key h rfl
/-- lent: all that is own is aside -/
theorem Rp.lend {N B B' : Sets} {m : M} {d : D} {v : V} {w : List Addr} (h : Rp G H N B true m d v w) (hb : ∀ a, B' a → B a) (hw : ∀ a ∈ w, ¬ B' a) : Rp G H N B' false m d v [] := by
  have key : ∀ {o : Bool} {m : M} {d : D} {v : V} {w : List Addr}, Rp G H N B o m d v w → (∀ a ∈ w, ¬ B' a) → Rp G H N B' false m d v [] := by
    intro o m d v w h
    refine Rp.rec (motive_1 := fun o m d v w _ => (∀ a ∈ w, ¬ B' a) → Rp G H N B' false m d v []) (motive_2 := fun o m ds vs w _ => (∀ a ∈ w, ¬ B' a) → RpA G H N B' false m ds vs [])
      (motive_3 := fun o m ds vs w _ => (∀ a ∈ w, ¬ B' a) → RpT G H N B' false m ds vs []) ?_ ?_ ?_ ?_ ?_ ?_ ?_ ?_ ?_ ?_ h
    · intro o d v h _; exact .z h
    · intro m d v f h _; exact .co f h
    · intro o m ds a xs w h n r ih hw
      refine Rp.L (w := []) h (fun _ => ?_) (ih fun b hb => hw b (own1_mem hb))
      cases o with
      | false => exact fun z => n rfl (hb a z)
      | true => exact hw a (by simp [own1])
    · intro o m ds a xs w h r ih hw; exact .T h (ih hw)
    · intro o c k ds a dx fs w h n e r ih hw
      refine Rp.O (w := []) h (fun _ => ?_) e (ih fun b hb => hw b (own1_mem hb))
      cases o with
      | false => exact fun z => n rfl (hb a z)
      | true => exact hw a (by simp [own1])
    · intro o m d v h ih hw; exact .w (ih fun a z => by cases z)
    · intro o m _; exact .nil
    · intro o m d ds v vs w1 w2 _ _ i1 i2 hw; exact RpA.cons (w1 := []) (w2 := []) (i1 fun a ha => hw a (List.mem_append_left _ ha)) (i2 fun a ha => hw a (List.mem_append_right _ ha))
    · intro o _; exact .nil
    · intro o m r d ds v vs w1 w2 _ _ i1 i2 hw; exact RpT.cons (w1 := []) (w2 := []) (i1 fun a ha => hw a (List.mem_append_left _ ha)) (i2 fun a ha => hw a (List.mem_append_right _ ha))
  exact key h hw
/-- frozen: its own cells are values from now on -/
theorem Rp.freeze {m : M} {d : D} {v : V} {w : List Addr} (h : Rp G H N B true m d v w) (hf : m.fzb = true) (hn : ∀ a, N' a → N a) (hw : ∀ a ∈ w, ¬ N' a) : Fz G H N' d v := by
  have fz : ∀ {d : D} {v : V}, Fz G H N d v → Fz G H N' d v := fun h => h.next (S := fun _ => False) (B := fun _ => False) (B' := fun _ => False) (H' := H) Kp.refl ⟨fun _ z => z.elim, fun _ z => z.elim, fun a _ z => hn a z, fun _ _ z => z⟩
  have key : ∀ {o : Bool} {m : M} {d : D} {v : V} {w : List Addr}, Rp G H N B o m d v w → o = true → m.fzb = true → (∀ a ∈ w, ¬ N' a) → Fz G H N' d v := by
    intro o m d v w h
    refine Rp.rec (motive_1 := fun o m d v w _ => o = true → m.fzb = true → (∀ a ∈ w, ¬ N' a) → Fz G H N' d v) (motive_2 := fun o m ds vs w _ => o = true → m.fzb = true → (∀ a ∈ w, ¬ N' a) → FzA G H N' ds vs)
      (motive_3 := fun o m ds vs w _ => o = true → m.fzb = true → (∀ a ∈ w, ¬ N' a) → FzA G H N' ds vs) ?_ ?_ ?_ ?_ ?_ ?_ ?_ ?_ ?_ ?_ h
    · intro o d v h _ _ _; exact fz h
    · intro m d v f h e; cases e
    · intro o m ds a xs w h n r ih e f hw
      subst e
      exact .lst (.of h) (hw a (by simp [own1])) (ih rfl f fun b hb => hw b (own1_mem hb))
    · intro o m ds a xs w h r ih e f hw; exact .tup h (ih e f hw)
    · intro o c k ds a dx fs w h n e r ih e f; cases f
    · intro o m d v h ih e f; cases f
    · intro o m _ _ _; exact .nil
    · intro o m d ds v vs w1 w2 _ _ i1 i2 e f hw; exact .cons (i1 e f fun a ha => hw a (List.mem_append_left _ ha)) (i2 e f fun a ha => hw a (List.mem_append_right _ ha))
    · intro o _ _ _; exact .nil
    · intro o m r d ds v vs w1 w2 _ _ i1 i2 e f hw
      have f' : (m.fzb && r.fzb) = true := f
      rw [Bool.and_eq_true] at f'
      exact .cons (i1 e f'.1 fun a ha => hw a (List.mem_append_left _ ha)) (i2 e f'.2 fun a ha => hw a (List.mem_append_right _ ha))
  exact key h rfl hf hw
/-- own cells stand there -/
theorem Rp.trk {m : M} {d : D} {v : V} {w : List Addr} {o : Bool} (h : Rp G H N B o m d v w) : ∀ a ∈ w, H a ≠ none := by
  refine Rp.rec (motive_1 := fun o m d v w _ => ∀ a ∈ w, H a ≠ none) (motive_2 := fun o m ds vs w _ => ∀ a ∈ w, H a ≠ none) (motive_3 := fun o m ds vs w _ => ∀ a ∈ w, H a ≠ none) ?_ ?_ ?_ ?_ ?_ ?_ ?_ ?_ ?_ ?_ h
  · intro _ _ _ _ a h; cases h
  · intro _ _ _ _ _ a h; cases h
  · intro o m ds a xs w h _ _ ih b hb
    unfold own1 at hb
    split at hb
    · rcases List.mem_cons.mp hb with e | hb
      · rw [e, h]; simp
      · exact ih b hb
    · exact ih b hb
  · intro o m ds a xs w _ _ ih; exact ih
  · intro o c k ds a dx fs w h _ _ _ ih b hb
    unfold own1 at hb
    split at hb
    · rcases List.mem_cons.mp hb with e | hb
      · rw [e, h]; simp
      · exact ih b hb
    · exact ih b hb
  · intro _ _ _ _ _ _ a h; cases h
  · intro _ _ a h; cases h
  · intro o m d ds v vs w1 w2 _ _ i1 i2 a h
    rcases List.mem_append.mp h with h | h
    · exact i1 a h
    · exact i2 a h
  · intro _ a h; cases h
  · intro o m r d ds v vs w1 w2 _ _ i1 i2 a h
    rcases List.mem_append.mp h with h | h
    · exact i1 a h
    · exact i2 a h
/-- own cells are lists or instances of ours: none of the text's own part -/
theorem FzA.get : ∀ {ds : List D} {vs : List V} {i : Nat} {d : D}, FzA G H N ds vs → ds[i]? = some d → ∃ v, vs[i]? = some v ∧ Fz G H N d v
  | _, _, _, _, .nil, e => by simp at e
  | _, _, 0, _, .cons h _, e => by simp at e; subst e; exact ⟨_, rfl, h⟩
  | _, _, i + 1, _, .cons _ t, e => by
    obtain ⟨v, h1, h2⟩ := FzA.get (i := i) t (by simpa using e)
    exact ⟨v, by simpa using h1, h2⟩
theorem FzA.length : ∀ {ds : List D} {vs : List V}, FzA G H N ds vs → ds.length = vs.length
  | _, _, .nil => rfl
  | _, _, .cons _ t => congrArg (· + 1) t.length
theorem FzA.append : ∀ {ds es : List D} {vs us : List V}, FzA G H N ds vs → FzA G H N es us → FzA G H N (ds ++ es) (vs ++ us)
  | _, _, _, _, .nil, s => s
  | _, _, _, _, .cons h t, s => .cons h (t.append s)
theorem RpA.length : ∀ {o : Bool} {m : M} {ds : List D} {vs : List V} {w : List Addr}, RpA G H N B o m ds vs w → ds.length = vs.length
  | _, _, _, _, _, .nil => rfl
  | _, _, _, _, _, .cons _ t => congrArg (· + 1) t.length
theorem RpT.length : ∀ {o : Bool} {m : M} {ds : List D} {vs : List V} {w : List Addr}, RpT G H N B o m ds vs w → ds.length = vs.length
  | _, _, _, _, _, .nil => rfl
  | _, _, _, _, _, .cons _ t => congrArg (· + 1) t.length
/-- a row of values -/
theorem RpA.fz : ∀ {o : Bool} {ds : List D} {vs : List V} {w : List Addr}, RpA G H N B o .z ds vs w → FzA G H N ds vs ∧ w = [] := by
  intro o ds
  induction ds with
  | nil => intro vs w h; cases h; exact ⟨.nil, rfl⟩
  | cons d ds ih =>
    intro vs w h
    cases h with
    | cons h t =>
      obtain ⟨t1, e1⟩ := ih t
      subst e1
      cases h with
      | z h => exact ⟨.cons h t1, rfl⟩
      | co f h => exact ⟨.cons h t1, rfl⟩
      | T h r => cases r
theorem FzA.rp : ∀ {o : Bool} {ds : List D} {vs : List V}, FzA G H N ds vs → RpA G H N B o .z ds vs []
  | _, _, _, .nil => .nil
  | _, _, _, .cons h t => RpA.cons (w1 := []) (w2 := []) (.z h) t.rp
end
end DI
end
section
set_option Elab.async false
set_option linter.all false
set_option maxRecDepth 100000
/-! The checker of modes; what a frame's values stand for. -/
namespace DI
open PySem PySem.Spec L2
/-- how an argument is handed: a value, lent to write, lent to read, a new instance's first -/
inductive PK where
  | z | io (m : M) | bw (m : M) | ini (c : Nat)
  deriving DecidableEq
structure Sig where
  ps : List PK
  ret : M
  deriving DecidableEq
abbrev Md := List M
structure Tb where
  sg : List Sig
  cf : List (List (Str × M))
/-- nothing lent in it -/
def M.pl : M → Bool
  | .z => true
  | .L m => m.pl
  | .tn => true
  | .tc m r => m.pl && r.pl
  | .O _ _ => true
  | _ => false
def lw : M → M
  | .z => .z
  | .w m => .w m
  | m => .w m
def M.isW : M → Bool
  | .w _ => true
  | .x => true
  | _ => false
/-- a row's mode: all values -/
def allz : M → Bool
  | .tn => true
  | .tc m r => decide (m = .z) && allz r
  | _ => false
def noW : M → Bool
  | .tn => true
  | .tc m r => !m.isW && noW r
  | _ => false
def isChain : M → Bool
  | .tn => true
  | .tc _ r => isChain r
  | _ => false
/-- the one mode of a row's items -/
def same1 (m : M) : M → Bool
  | .tn => true
  | .tc a r => decide (a = m) && same1 m r
  | _ => false
/-- what reading an item of it gives -/
def rdM : M → Option M
  | .z => some .z
  | .w (.L m) => some (lw m)
  | .L m => if m.fzb then some .z else none
  | .tn => some .z
  | .tc m r => if m.fzb && r.fzb then some .z else none
  | _ => none
/-- a list (or row) of values, to read -/
def lz (m : M) : Bool := match rdM m with
  | some .z => true
  | _ => false
def M.rdb (m : M) : Bool := m.fzb || (match m with
  | .w m => m.fzb
  | _ => false)
def bor1 : M → M
  | .z => .z
  | .x => .x
  | .w m => .w m
  | m => .w m
def bor (g : Md) : Md := g.map bor1
def setManyM : List Nat → M → Md → Option Md
  | [], .tn, g => some g
  | i :: is, .tc m r, g => if m.isW && decide (m = .x) then none else setManyM is r (g.set i m)
  | _, _, _ => none
def setManyZ : List Nat → Md → Md
  | [], g => g
  | i :: is, g => setManyZ is (g.set i .z)
def setTgM : Tg → M → Md → Option Md
  | .one i, m, g => if isChain m then (if allz m then some (g.set i .z) else none) else if decide (m = .x) then none else some (g.set i m)
  | .many is, .z, g => some (setManyZ is g)
  | .many is, m, g => setManyM is m g
def backM (g0 : Md) : List Nat → Md → Md
  | [], g => g
  | i :: is, g => backM g0 is (g.set i (g0.getD i .x))
def killM : List Nat → Md → Md
  | [], g => g
  | i :: is, g => killM is (g.set i .x)
/-- these slots own nothing, and stand in the frame, each once -/
def plainSl (g : Md) (is : List Nat) : Bool := decide is.Nodup && is.all fun i => decide (i < g.length) && (match g.getD i .x with
  | .z => true
  | .x => true
  | .w _ => true
  | _ => false)
def pmode (t : Tb) (g : Md) : E → Option M
  | .var i => g[i]?
  | .fld p c j => match pmode t g p with
    | some (.O c' k) => if c = c' && decide (j < k) then ((t.cf.getD c [])[j]?).map (·.2) else none
    | _ => none
  | _ => none
def rowOf (m r : M) : Option M := if decide (m = .x) then none else if isChain r then some (.tc m r) else if decide (r = .z) && m.fzb then some .z else none
def lwB : M → Bool
  | .w (.L _) => true
  | _ => false
def biM (b : Bi) (m : M) : Option M := match b, m with
  | .len, .tc a .tn => if a.rdb || lwB a then some .z else none
  | .listOf, .tc a .tn => if lz a then some (.L .z) else none
  | .sorted, .tc a .tn => if lz a then some (.L .z) else none
  | .sortSet, .tc a .tn => if lz a then some (.L .z) else none
  | .isi _, .tc a .tn => if a.rdb then some .z else none
  | .minL, .tc a .tn => if lz a then some .z else none
  | .maxL, .tc a .tn => if lz a then some .z else none
  | .sumL, .tc a .tn => if lz a then some .z else none
  | .lenSet, .tc a .tn => if lz a then some .z else none
  | .tupleOf, .tc a .tn => if lz a then some .z else none
  | _, m => if isChain m && m.fzb then some .z else none
def isPath : E → Bool
  | .var _ => true
  | .fld p _ _ => isPath p
  | _ => false
def isVar : E → Bool
  | .var _ => true
  | _ => false
/-- reckoned without a step of the heap -/
def atom : E → Bool
  | .var _ => true
  | .ci _ => true
  | .cs _ => true
  | .cb _ => true
  | .cn => true
  | _ => false
def quiet : E → Bool
  | .a0 => true
  | .aE a r => atom a && quiet r
  | .abw _ r => quiet r
  | .aio _ r => quiet r
  | _ => false
def ioRoots : E → List Nat
  | .aE _ r => ioRoots r
  | .abw _ r => ioRoots r
  | .aio p r => root p :: ioRoots r
  | _ => []
def bwRoots : E → List Nat
  | .aE _ r => bwRoots r
  | .aio _ r => bwRoots r
  | .abw p r => root p :: bwRoots r
  | _ => []
/-- what is lent to write is lent once -/
def apart (as : E) : Bool := decide (ioRoots as).Nodup && (bwRoots as).all fun i => !(ioRoots as).contains i
def ck (t : Tb) : E → Md → Option (M × Md)
  | .var i, g => match g[i]? with
    | some .z => some (.z, g)
    | some (.w m) => some (.w m, g)
    | _ => none
  | .mv i, g => match g[i]? with
    | some m => if m.isW then none else some (m, g.set i .x)
    | none => none
  | .fz i, g => match g[i]? with
    | some m => if m.fzb then some (.z, g.set i .z) else none
    | none => none
  | .gl _, _ => none
  | .ci _, g => some (.z, g)
  | .cs _, g => some (.z, g)
  | .cb _, g => some (.z, g)
  | .cn, g => some (.z, g)
  | .o2 o a b, g => match ck t a g with
    | some (ma, g1) => match ck t b g1 with
      | some (mb, g2) => match o with
        | .cat => if lz ma && lz mb then some (.L .z, g2) else none
        | .rep => if lz ma && mb.fzb then some (.L .z, g2) else none
        | _ => if ma.fzb && mb.fzb then some (.z, g2) else none
      | none => none
    | none => none
  | .neg a, g => match ck t a g with
    | some (m, g1) => if m.fzb then some (.z, g1) else none
    | none => none
  | .nt a, g => match ck t a g with
    | some (m, g1) => if m.fzb then some (.z, g1) else none
    | none => none
  | .cp o a b, g => match ck t a g with
    | some (ma, g1) => match ck t b g1 with
      | some (mb, g2) => if ma.rdb && mb.rdb then some (.z, g2) else none
      | none => none
    | none => none
  | .ch _ _ a b c, g => match ck t a g with
    | some (ma, g1) => match ck t b g1 with
      | some (mb, g2) => match ck t c g2 with
        | some (mc, g3) => if ma.fzb && mb.fzb && mc.fzb && decide (g3 = g2) then some (.z, g2) else none
        | none => none
      | none => none
    | none => none
  | .an a b, g => match ck t a g with
    | some (ma, g1) => match ck t b g1 with
      | some (mb, g2) => if ma.fzb && mb.fzb && decide (g2 = g1) then some (.z, g1) else none
      | none => none
    | none => none
  | .orr a b, g => match ck t a g with
    | some (ma, g1) => match ck t b g1 with
      | some (mb, g2) => if ma.fzb && mb.fzb && decide (g2 = g1) then some (.z, g1) else none
      | none => none
    | none => none
  | .ite c a b, g => match ck t c g with
    | some (mc, g1) => match ck t a g1 with
      | some (ma, g2) => match ck t b g1 with
        | some (mb, g3) => if mc.fzb && decide (g3 = g2) then (if ma = mb then some (ma, g2) else if ma.fzb && mb.fzb then some (.z, g2) else none) else none
        | none => none
      | none => none
    | none => none
  | .tup as, g => match ck t as g with
    | some (m, g1) => if allz m || decide (m = .z) then some (.z, g1) else if noW m then some (m, g1) else none
    | none => none
  | .lst as, g => match ck t as g with
    | some (m, g1) => if allz m || decide (m = .z) then some (.L .z, g1) else match m with
      | .tc a r => if !a.isW && same1 a r then some (.L a, g1) else if m.fzb && isChain m then some (.L .z, g1) else none
      | _ => none
    | none => none
  | .a0, g => some (.tn, g)
  | .aE a r, g => match ck t a g with
    | some (ma, g1) => match ck t r g1 with
      | some (mr, g2) => (rowOf ma mr).map fun m => (m, g2)
      | none => none
    | none => none
  | .aS a r, g => match ck t a g with
    | some (ma, g1) => match ck t r g1 with
      | some (mr, g2) => if lz ma && (allz mr || decide (mr = .z)) then some (.z, g2) else none
      | none => none
    | none => none
  | .ix a i, g => match ck t a g with
    | some (ma, g1) => match ck t i g1 with
      | some (mi, g2) => if mi.fzb then (rdM ma).map fun m => (m, g2) else none
      | none => none
    | none => none
  | .sl a lo hi, g => match ck t a g with
    | some (ma, g1) => match ck t lo g1 with
      | some (ml, g2) => match ck t hi g2 with
        | some (mh, g3) => if lz ma && ml.fzb && mh.fzb then some (.z, g3) else none
        | none => none
      | none => none
    | none => none
  | .so, g => some (.z, g)
  | .fld a c j, g => match ck t a g with
    | some (.w (.O c' k), g1) => if c = c' && decide (j < k) then ((t.cf.getD c [])[j]?).map fun q => (lw q.2, g1) else none
    | _ => none
  | .call f as, g => match t.sg[f]? with
    | some s => if apart as then (ckA as s.ps g).map fun g1 => (s.ret, g1) else none
    | none => none
  | .mcall f as, g => match t.sg[f]? with
    | some s => if apart as then (ckA as s.ps g).map fun g1 => (s.ret, g1) else none
    | none => none
  | .mk c f as, g => match t.sg[f]? with
    | some s => match s.ps with
      | .ini c' :: ps => if c = c' && decide (s.ret = .z) && apart as then (ckA as ps g).map fun g1 => (.O c (t.cf.getD c []).length, g1) else none
      | _ => none
    | none => none
  | .aio _ _, _ => none
  | .abw _ _, _ => none
  | .bi b as, g => match ck t as g with
    | some (m, g1) => (biM b m).map fun r => (r, g1)
    | none => none
  | .comp tg src cond elt, g => match ck t src g with
    | some (im, g1) => match setTgM tg im g1 with
      | some ga => match ck t cond ga with
        | some (mc, gb) => match ck t elt gb with
          | some (me, gc) => if plainSl g1 tg.slots && (plainSl gb tg.slots && (plainSl gc tg.slots && (mc.fzb && (me.pl && (decide (backM g1 tg.slots gb = g1) && decide (backM g1 tg.slots gc = g1)))))) then some (.L me, g1) else none
          | none => none
        | none => none
      | none => none
    | none => none
  | .comp2 tg src tg2 src2 elt, g => match ck t src g with
    | some (im, g1) => match setTgM tg im g1 with
      | some ga => match ck t src2 ga with
        | some (im2, gb) => match setTgM tg2 im2 gb with
          | some gc => match ck t elt gc with
            | some (me, gd) => if plainSl g1 tg.slots && plainSl gb tg2.slots && me.fzb && decide (backM gb tg2.slots gd = gb) && decide (backM g1 tg.slots gb = g1) then some (.L .z, g1) else none
            | none => none
          | none => none
        | none => none
      | none => none
    | none => none
  | .gen _ tg src cond elt, g => match ck t src g with
    | some (im, g1) => match setTgM tg im g1 with
      | some ga => match ck t cond ga with
        | some (mc, gb) => match ck t elt gb with
          | some (me, gc) => if plainSl g1 tg.slots && (plainSl gb tg.slots && (plainSl gc tg.slots && (mc.fzb && (me.fzb && (decide (backM g1 tg.slots gb = g1) && decide (backM g1 tg.slots gc = g1)))))) then some (.z, g1) else none
          | none => none
        | none => none
      | none => none
    | none => none
  | .ct, g => some (.z, g)
  | .pur e, g => match ck t e (bor g) with
    | some (m, _) => if m.pl then some (m, g) else none
    | none => none
  | .pop p, g => match pmode t g p with
    | some (.L m) => some (m, g)
    | _ => none
  | .sq e, g => match ck t e g with
    | some (m, g1) => (rdM m).map fun r => (r, g1)
    | none => none
  | .rg1 a, g => match ck t a g with
    | some (m, g1) => if m.fzb then some (.z, g1) else none
    | none => none
  | .rg2 a b, g => match ck t a g with
    | some (ma, g1) => match ck t b g1 with
      | some (mb, g2) => if ma.fzb && mb.fzb then some (.z, g2) else none
      | none => none
    | none => none
  | .rg3 a b c, g => match ck t a g with
    | some (ma, g1) => match ck t b g1 with
      | some (mb, g2) => match ck t c g2 with
        | some (mc, g3) => if ma.fzb && mb.fzb && mc.fzb then some (.z, g3) else none
        | none => none
      | none => none
    | none => none
  | .en a, g => match ck t a g with
    | some (m, g1) => (rdM m).map fun r => (.tc .z (.tc r .tn), g1)
    | none => none
  | .zp a b, g => match ck t a g with
    | some (ma, g1) => match ck t b g1 with
      | some (mb, g2) => match rdM ma, rdM mb with
        | some ra, some rb => some (.tc ra (.tc rb .tn), g2)
        | _, _ => none
      | none => none
    | none => none
  | .rv a, g => match ck t a g with
    | some (m, g1) => (rdM m).map fun r => (r, g1)
    | none => none
where
  /-- arguments -/
  ckA : E → List PK → Md → Option Md
    | .a0, [], g => some g
    | .aE a r, .z :: ps, g => match ck t a g with
      | some (m, g1) => if m.fzb then ckA r ps g1 else none
      | none => none
    | .aE a r, .bw m' :: ps, g => match ck t a g with
      | some (m, g1) => if (m.fzb && m'.fzb) || decide (m = .w m') then ckA r ps g1 else none
      | none => none
    | .abw p r, .bw m' :: ps, g => match ckA r ps g with
      | some g1 => if decide (pmode t g p = some m') && (decide (pmode t g1 p = some m') && (!m'.isW && (isPath p && (isVar p || quiet r)))) then some g1 else none
      | none => none
    | .aio p r, .io m' :: ps, g => match ckA r ps g with
      | some g1 => if decide (pmode t g p = some m') && (decide (pmode t g1 p = some m') && (m'.pl && (isPath p && (isVar p || quiet r)))) then some g1 else none
      | none => none
    | _, _, _ => none
    termination_by structural e => e
end DI
end
section
set_option Elab.async false
set_option linter.all false
set_option maxRecDepth 100000
/-! Soundness: the frame's values, steps, readings. -/
namespace DI
open PySem PySem.Spec L2
/-- cells aside; some of them are lent to read -/
structure Tl where
  s : Sets
  l : Sets
  h : ∀ a, l a → s a
instance : CoeFun Tl fun _ => Addr → Prop := ⟨Tl.s⟩
instance : Coe Tl Sets := ⟨Tl.s⟩
def uni (T : Tl) (l : List Addr) : Tl := ⟨fun a => T.s a ∨ a ∈ l, T.l, fun a z => .inl (T.h a z)⟩
def Tl.b (T : Tl) : Sets := fun a => T.s a ∧ ¬ T.l a
structure Stp (H : Hp) (B : List Addr) (H' : Hp) (B2 : List Addr) : Prop where
  kp : Kp H H' (· ∈ B)
  sub : ∀ a ∈ B2, a ∈ B ∨ H a = none
  trk : ∀ a, H a ≠ none → H' a ≠ none
theorem Stp.refl {H : Hp} {B : List Addr} : Stp H B H B := ⟨Kp.refl, fun _ h => .inl h, fun _ h => h⟩
theorem Stp.trans {H H1 H2 : Hp} {B B1 B1' B2 : List Addr} (a : Stp H B H1 B1') (h1 : ∀ x ∈ B1, x ∈ B1') (b : Stp H1 B1 H2 B2) : Stp H B H2 (B2) where
  kp :=
    { keep := fun x o e s n => b.kp.keep x o (a.kp.keep x o e s n) s fun z => (a.sub x (h1 x z)).elim n fun q => by rw [e] at q; cases q
      tup := fun x xs e => b.kp.tup x xs (a.kp.tup x xs e)
      frz := fun x o u e => b.kp.frz x o u (a.kp.frz x o u e) }
  sub := fun x hx => by
    rcases b.sub x hx with q | q
    · exact a.sub x (h1 x q)
    · cases z : H x with
      | none => exact .inr rfl
      | some u => exact absurd q (a.trk x (by rw [z]; simp))
  trk := fun x h => b.trk x (a.trk x h)
theorem Stp.wide {H H' : Hp} {B B' B2 : List Addr} (a : Stp H B H' B2) (h : ∀ x ∈ B, x ∈ B') : Stp H B' H' B2 :=
  ⟨a.kp.mono h, fun x hx => (a.sub x hx).imp (h x) id, a.trk⟩
theorem Stp.less {H H' : Hp} {B B2 B2' : List Addr} (a : Stp H B H' B2) (h : ∀ x ∈ B2', x ∈ B2) : Stp H B H' B2' :=
  ⟨a.kp, fun x hx => a.sub x (h x hx), a.trk⟩
/-- so much more is new -/
theorem Stp.more {H H' : Hp} {B B2 : List Addr} (a : Stp H B H' B2) {l : List Addr} (h : ∀ x ∈ l, x ∈ B2 ∨ H x = none) : Stp H B H' (l ++ B2) :=
  ⟨a.kp, fun x hx => (List.mem_append.mp hx).elim (fun z => (h x z).elim (a.sub x) .inr) (a.sub x), a.trk⟩
/-- the code objects' tables that must stand -/
def Tabs (ts : List Addr) (H : Hp) : Prop := ∀ p ∈ ts, ∃ ps : Array Value, H p = some (.tbl ps) ∧ TriplesOk ps.toList
theorem Rp.sets {G : CT} {H : Hp} {N B N' B' : Sets} {o : Bool} {m : M} {d : D} {v : V} {w : List Addr} (r : Rp G H N B o m d v w) (hn : ∀ a, H a ≠ none → N' a → N a) (hb : ∀ a, H a ≠ none → B' a → B a) : Rp G H N' B' o m d v w :=
  r.next (S := fun _ => False) Kp.refl ⟨fun _ z => z.elim, fun _ z => z.elim, hn, hb⟩ fun _ _ z => z
theorem Fz.sets {G : CT} {H : Hp} {N N' : Sets} {d : D} {v : V} (r : Fz G H N d v) (hn : ∀ a, H a ≠ none → N' a → N a) : Fz G H N' d v :=
  r.next (S := fun _ => False) (B := fun _ => False) (B' := fun _ => False) Kp.refl ⟨fun _ z => z.elim, fun _ z => z.elim, hn, fun _ _ z => z⟩
/-- the value stands there: nothing of it in N but what is its own -/
abbrev Rt (G : CT) (H : Hp) (N : Tl) (m : M) (d : D) (v : V) (w : List Addr) : Prop := Rp G H N.s N.b true m d v w
theorem Rt.sets {G : CT} {H : Hp} {N N' : Tl} {m : M} {d : D} {v : V} {w : List Addr} (r : Rt G H N m d v w) (hn : ∀ a, H a ≠ none → N' a → N a) (hl : ∀ a, N.l a → N'.l a := by exact fun _ z => z) : Rt G H N' m d v w :=
  Rp.sets r hn fun a ha z => ⟨hn a ha z.1, fun q => z.2 (hl a q)⟩
theorem Rt.next {G : CT} {H H' : Hp} {S : Sets} {N N' : Tl} {m : M} {d : D} {v : V} {w : List Addr} (r : Rt G H N m d v w) (k : Kp H H' S) (hs : ∀ a, S a → N a ∧ ¬ N.l a) (hn : ∀ a, H a ≠ none → N' a → N a) (hw : ∀ a ∈ w, ¬ S a) (hl : ∀ a, N.l a → N'.l a := by exact fun _ z => z) : Rt G H' N' m d v w :=
  Rp.next k ⟨fun a z => (hs a z).1, fun a z => hs a z, hn, fun a ha z => ⟨hn a ha z.1, fun q => z.2 (hl a q)⟩⟩ r hw
section
variable (G : CT) (ts : List Addr)
structure EnvOk (H : Hp) (T : Tl) (ws : List (List Addr)) (g : Md) (ρ : Rho) (σ : St) : Prop where
  lr : ρ.length = g.length
  ls : σ.length = g.length
  lw : ws.length = g.length
  nd : ws.flatten.Nodup
  tt : ∀ a, T a → H a ≠ none
  dj : ∀ a ∈ ws.flatten, ¬ T a
  sl : ∀ i m, g[i]? = some m → (m = .x ∧ ws.getD i [] = []) ∨ ∃ v, σ[i]? = some (some v) ∧ Rt G H (uni T ws.flatten) m (ρ.getD i .non) v (ws.getD i [])
  tb : Tabs ts H
end
section
variable {G : CT} {ts : List Addr} {H H' : Hp} {T T' : Tl} {ws ws' : List (List Addr)} {g : Md} {ρ : Rho} {σ : St}
theorem EnvOk.less (e : EnvOk G ts H T ws g ρ σ) (h : ∀ a, T' a → T a) (hl : ∀ a, T.l a → T'.l a := by exact fun _ z => z) : EnvOk G ts H T' ws g ρ σ :=
  ⟨e.lr, e.ls, e.lw, e.nd, fun a z => e.tt a (h a z), fun a z q => e.dj a z (h a q), fun i m hm => (e.sl i m hm).imp id fun ⟨v, h1, h2⟩ =>
    ⟨v, h1, Rt.sets h2 (fun a _ z => z.imp (h a) id) hl⟩, e.tb⟩
theorem mem_flat {ws : List (List Addr)} {i : Nat} {a : Addr} (h : a ∈ ws.getD i []) : a ∈ ws.flatten := by
  by_cases hi : i < ws.length
  · rw [List.getD_eq_getElem?_getD, List.getElem?_eq_getElem hi] at h
    exact List.mem_flatten.mpr ⟨_, List.getElem_mem hi, h⟩
  · rw [List.getD_eq_getElem?_getD, List.getElem?_eq_none (by omega)] at h
    cases h
theorem EnvOk.trk (e : EnvOk G ts H T ws g ρ σ) : ∀ a ∈ ws.flatten, H a ≠ none := fun a h => by
  obtain ⟨w, hw, ha⟩ := List.mem_flatten.mp h
  obtain ⟨i, hi, e1⟩ := List.getElem_of_mem hw
  have hg : i < g.length := by rw [← e.lw]; exact hi
  have e2 : ws.getD i [] = w := by rw [List.getD_eq_getElem?_getD, List.getElem?_eq_getElem hi, e1]; rfl
  rcases e.sl i g[i] (List.getElem?_eq_getElem hg) with ⟨_, q⟩ | ⟨v, _, r⟩
  · rw [e2] at q; subst q; cases ha
  · rw [e2] at r; exact r.trk a ha
/-- what is wanted of an expression's end -/
def Post (G : CT) (ts : List Addr) (H : Hp) (T : Tl) (B : List Addr) (g : Md) (ρ : Rho) (σ : St) (m : M) (d : D) (Q : VK) : Prop :=
  ∀ (v : V) (H' : Hp) (w : List Addr) (ws' : List (List Addr)), Stp H B H' (w ++ ws'.flatten) → EnvOk G ts H' (uni T w) ws' g ρ σ →
    Rt G H' (uni (uni T w) ws'.flatten) m d v w → w.Nodup → (∀ a ∈ w, ¬ T a) → Q v H'
/-- the reading of an expression's term -/
def RE (t : Tb) (G : CT) (ts : List Addr) (C : Calls) (e : E) : TE := fun σ H Q =>
  ∃ (T : Tl) (ws : List (List Addr)) (g : Md) (ρ : Rho) (m : M) (g' : Md) (d : D) (ρ' : Rho), ck t e g = some (m, g') ∧ ev C e ρ = some (d, ρ') ∧ EnvOk G ts H T ws g ρ σ ∧ Post G ts H T ws.flatten g' ρ' σ m d Q
theorem PE.of {X : Cx} {e : Expr} {u u' : TE} (h : PE X e u) (k : ∀ σ H Q, u' σ H Q → u σ H Q) : PE X e u' := ⟨fun pins s σ H Q I q => h.run pins s σ H Q I (k σ H Q q)⟩
theorem PT.of {X : Cx} {e : Expr} {u u' : TT} (h : PT X e u) (k : ∀ σ H Q, u' σ H Q → u σ H Q) : PT X e u' := ⟨fun pins s σ H Q I q => h.run pins s σ H Q I (k σ H Q q)⟩
theorem PA.of {X : Cx} {e : List Expr} {u u' : TA} (h : PA X e u) (k : ∀ σ H Q, u' σ H Q → u σ H Q) : PA X e u' := ⟨fun pos pins s σ H Q I q => h.run pos pins s σ H Q I (k σ H Q q)⟩
/-! ### scalars -/
theorem Rp.isInt {N B : Sets} : ∀ {o : Bool} {m : M} {d : D} {v : V} {w : List Addr}, Rp G H N B o m d v w → ∀ i, d = .int i → v = .int i ∧ w = []
  | _, _, _, _, _, .z h, _, e => by subst e; cases h; exact ⟨rfl, rfl⟩
  | _, _, _, _, _, .co _ h, _, e => by subst e; cases h; exact ⟨rfl, rfl⟩
  | _, _, _, _, _, .L .., _, e => by cases e
  | _, _, _, _, _, .T .., _, e => by cases e
  | _, _, _, _, _, .O .., _, e => by cases e
  | _, _, _, _, _, .w h, i, e => ⟨(Rp.isInt h i e).1, rfl⟩
theorem Rp.isBl {N B : Sets} : ∀ {o : Bool} {m : M} {d : D} {v : V} {w : List Addr}, Rp G H N B o m d v w → ∀ i, d = .bl i → v = .bl i ∧ w = []
  | _, _, _, _, _, .z h, _, e => by subst e; cases h; exact ⟨rfl, rfl⟩
  | _, _, _, _, _, .co _ h, _, e => by subst e; cases h; exact ⟨rfl, rfl⟩
  | _, _, _, _, _, .L .., _, e => by cases e
  | _, _, _, _, _, .T .., _, e => by cases e
  | _, _, _, _, _, .O .., _, e => by cases e
  | _, _, _, _, _, .w h, i, e => ⟨(Rp.isBl h i e).1, rfl⟩
theorem Rp.isStr {N B : Sets} : ∀ {o : Bool} {m : M} {d : D} {v : V} {w : List Addr}, Rp G H N B o m d v w → ∀ i, d = .str i → v = .str i ∧ w = []
  | _, _, _, _, _, .z h, _, e => by subst e; cases h; exact ⟨rfl, rfl⟩
  | _, _, _, _, _, .co _ h, _, e => by subst e; cases h; exact ⟨rfl, rfl⟩
  | _, _, _, _, _, .L .., _, e => by cases e
  | _, _, _, _, _, .T .., _, e => by cases e
  | _, _, _, _, _, .O .., _, e => by cases e
  | _, _, _, _, _, .w h, i, e => ⟨(Rp.isStr h i e).1, rfl⟩
theorem Rp.isNon {N B : Sets} : ∀ {o : Bool} {m : M} {d : D} {v : V} {w : List Addr}, Rp G H N B o m d v w → d = .non → v = .non ∧ w = []
  | _, _, _, _, _, .z h, e => by subst e; cases h; exact ⟨rfl, rfl⟩
  | _, _, _, _, _, .co _ h, e => by subst e; cases h; exact ⟨rfl, rfl⟩
  | _, _, _, _, _, .L .., e => by cases e
  | _, _, _, _, _, .T .., e => by cases e
  | _, _, _, _, _, .O .., e => by cases e
  | _, _, _, _, _, .w h, e => ⟨(Rp.isNon h e).1, rfl⟩
/-- None alone is None -/
theorem Rp.nonIff {N B : Sets} : ∀ {o : Bool} {m : M} {d : D} {v : V} {w : List Addr}, Rp G H N B o m d v w → (v = .non ↔ d = .non)
  | _, _, _, _, _, .z h => by cases h <;> simp
  | _, _, _, _, _, .co _ h => by cases h <;> simp
  | _, _, _, _, _, .L .. => by simp
  | _, _, _, _, _, .T .. => by simp
  | _, _, _, _, _, .O .. => by simp
  | _, _, _, _, _, .w h => Rp.nonIff h
/-! ### rows that are read -/
/-- v stands for the row d: items read by mode r -/
def SeqR (G : CT) (H : Hp) (N B : Sets) (r : M) (d : D) (v : V) : Prop :=
  ∃ (a : Addr) (xs : List V) (ds : List D), v = .ref a ∧ ((d = .tup ds ∧ SqT G.K H a xs) ∨ (d = .lst ds ∧ SqL G.K H a xs)) ∧ ds.length = xs.length ∧
    ∀ (i : Nat) (d' : D) (v' : V), ds[i]? = some d' → xs[i]? = some v' → Rp G H N B true r d' v' []
theorem SeqR.of {d : D} {v : V} {N B : Sets} {r : M} (h : SeqR G H N B r d v) : ∃ ds, seqOf d = some ds := by
  obtain ⟨a, xs, ds, _, h | h, _⟩ := h
  · exact ⟨ds, by rw [h.1]; rfl⟩
  · exact ⟨ds, by rw [h.1]; rfl⟩
theorem fzA_items {N B : Sets} {ds : List D} {xs : List V} (h : FzA G H N ds xs) : ds.length = xs.length ∧ ∀ (i : Nat) (d' : D) (v' : V), ds[i]? = some d' → xs[i]? = some v' → Rp G H N B true .z d' v' [] :=
  ⟨h.length, fun i d' v' e1 e2 => by
    obtain ⟨u, h1, h2⟩ := h.get e1
    rw [h1] at e2; cases e2
    exact .z h2⟩
theorem Fz.seqR {N B : Sets} {d : D} {v : V} (h : Fz G H N d v) {ds : List D} (hs : seqOf d = some ds) : SeqR G H N B .z d v := by
  cases h with
  | tup h a => exact ⟨_, _, _, rfl, .inl ⟨rfl, h⟩, fzA_items a⟩
  | lst h _ a => exact ⟨_, _, _, rfl, .inr ⟨rfl, .inl h⟩, fzA_items a⟩
  | lstK h a => exact ⟨_, _, _, rfl, .inr ⟨rfl, h H⟩, fzA_items a⟩
  | _ => cases hs
theorem SeqR.mode {N B : Sets} {r r' : M} {d : D} {v : V} (h : SeqR G H N B r d v) (k : ∀ d v, Rp G H N B true r d v [] → Rp G H N B true r' d v []) : SeqR G H N B r' d v := by
  obtain ⟨a, xs, ds, e, h, l, q⟩ := h
  exact ⟨a, xs, ds, e, h, l, fun i d' v' e1 e2 => k _ _ (q i d' v' e1 e2)⟩
theorem rpA_items {N B : Sets} {m : M} : ∀ {ds : List D} {xs : List V} {w : List Addr}, RpA G H N B false m ds xs w → ds.length = xs.length ∧ ∀ (i : Nat) (d' : D) (v' : V), ds[i]? = some d' → xs[i]? = some v' → Rp G H N B true (lw m) d' v' []
  | _, _, _, .nil => ⟨rfl, fun i d' v' e => by simp at e⟩
  | _, _, _, .cons h t => by
    obtain ⟨l, q⟩ := rpA_items t
    refine ⟨by simp [l], fun i d' v' e1 e2 => ?_⟩
    cases i with
    | zero =>
      simp at e1 e2
      subst e1; subst e2
      have e := h.lent
      subst e
      unfold lw
      split
      · cases h with
        | z h => exact .z h
        | co _ h => exact .z h
        | T _ r => cases r
      · cases h with
        | co f h => cases f
        | T _ r => cases r
        | w h => exact .w h
      · exact .w h
    | succ i => exact q i d' v' (by simpa using e1) (by simpa using e2)
theorem lw_z {m : M} (h : lw m = .z) : m = .z := by
  cases m <;> first | rfl | cases h
theorem Rp.lentL {N B : Sets} {o : Bool} {m0 m : M} {d : D} {v : V} {w : List Addr} (h : Rp G H N B o m0 d v w) (e : m0 = .L m) (eo : o = false) :
    (Fz G H N d v ∧ m.fzb = true) ∨ ∃ (a : Addr) (xs : List V) (ds : List D) (w' : List Addr), d = .lst ds ∧ v = .ref a ∧ H a = some (.lst xs) ∧ ¬ B a ∧ RpA G H N B false m ds xs w' := by
  cases h with
  | z h => cases e
  | co f h => exact .inl ⟨h, by subst e; exact f⟩
  | L h n r => cases e; subst eo; exact .inr ⟨_, _, _, _, rfl, rfl, h, n rfl, r⟩
  | T _ r => subst e; cases r
  | O => cases e
  | w => cases e
/-- a value to be read -/
theorem Rp.seqR {N B N' : Sets} {m r : M} {d : D} {v : V} {w : List Addr} (h : Rp G H N B true m d v w) (hr : rdM m = some r) {ds : List D} (hs : seqOf d = some ds) (hn : ∀ a, N' a → N a) (hw : ∀ a ∈ w, ¬ N' a) : SeqR G H N' B r d v := by
  have frz : m.fzb = true → r = .z → SeqR G H N' B r d v := fun f e => by
    subst e
    exact (h.freeze f hn hw).seqR hs
  cases m with
  | z => exact frz rfl (by cases hr; rfl)
  | x => cases hr
  | L m =>
    simp only [rdM] at hr
    by_cases f : m.fzb = true
    · rw [if_pos f] at hr; exact frz f (by cases hr; rfl)
    · rw [if_neg f] at hr; cases hr
  | tn => exact frz rfl (by cases hr; rfl)
  | tc m r' =>
    simp only [rdM] at hr
    by_cases f : (m.fzb && r'.fzb) = true
    · rw [if_pos f] at hr; exact frz f (by cases hr; rfl)
    · rw [if_neg f] at hr; cases hr
  | O => cases hr
  | w m =>
    cases m with
    | L m =>
      have e : r = lw m := by cases hr; rfl
      subst e
      cases h with
      | T _ r => cases r
      | w h =>
        have h := h.sets (N' := N') (B' := B) (fun a _ z => hn a z) fun _ _ z => z
        rcases h.lentL rfl rfl with ⟨h, ff⟩ | ⟨a, xs, ds', w', rfl, rfl, h, n, q⟩
        · refine (h.seqR hs).mode fun d v q => ?_
          unfold lw
          cases q with
          | z q =>
            split
            · exact .z q
            · cases ff
            · exact .w (.co ff q)
          | T _ r => cases r
        · obtain ⟨l, q⟩ := rpA_items q
          exact ⟨_, _, _, rfl, .inr ⟨rfl, .of h⟩, l, q⟩
    | _ => cases hr
end
end DI
end
section
set_option Elab.async false
set_option linter.all false
set_option maxRecDepth 100000
/-! The terms and the text. -/
namespace DI
open PySem PySem.Spec L2
/-- where a def stands: a name of the module; a class's method -/
inductive FnAt where
  | glob (x : Str) | meth (c : Nat) (m : Str)
  deriving DecidableEq
/-- the text's names: slots, the block's scope, the defs, the classes and their fields -/
structure Mc where
  N : List Str
  sc : Scope
  fns : List FnAt
  cls : List Str
  cf : List (List (Str × M))
  gcd : Bool
def visB (sc : Scope) (x : Str) : Bool := match sc.names.lookup x with
  | some .local => true
  | some .cell => true
  | some .free => true
  | _ => false
def glB (sc : Scope) (x : Str) : Bool := decide (sc.names.lookup x = some .globalImplicit)
def okN (mc : Mc) (i : Nat) (x : Str) : Bool := decide (mc.N[i]? = some x) && (visB mc.sc x && (decide (x ≠ ("__debug__" : Str)) && decide (x ≠ ("__classdict__" : Str))))
def opB : O2 → Operator
  | .add => .Add | .sub => .Sub | .mul => .Mult | .fdiv => .FloorDiv | .mod => .Mod | .cat => .Add | .rep => .Mult | .repT => .Mult
def cpB : Cp → CmpOp
  | .lt => .Lt | .le => .LtE | .gt => .Gt | .ge => .GtE | .eq => .Eq | .ne => .NotEq | .isN => .Is | .notN => .IsNot | .inn => .In | .nin => .NotIn
def cmpI : Cp → Bool
  | .lt => true | .le => true | .gt => true | .ge => true
  | _ => false
def isSetX : Expr → Bool
  | .Set .. => true
  | _ => false
def isStarX : Expr → Bool
  | .Starred .. => true
  | _ => false
def isSliceX : Expr → Bool
  | .Slice .. => true
  | _ => false
/-- an expression before a dot -/
def dotX : Expr → Bool
  | .Name .. => true
  | .Attribute .. => true
  | .Subscript .. => true
  | _ => false
def isNone1 : E → Bool
  | .cn => true
  | _ => false
def biName : Bi → Str
  | .len => "len" | .abs => "abs" | .min2 => "min" | .max2 => "max" | .minL => "min" | .maxL => "max" | .sumL => "sum" | .intOf => "int" | .tupleOf => "tuple" | .listOf => "list"
  | .gcd => "gcd" | .isi _ => "isinstance" | .sorted => "sorted" | .sortSet => "sorted" | .lenSet => "len"
def tyName : Ty → Str
  | .int => "int" | .bool => "bool" | .str => "str" | .tuple => "tuple" | .list => "list"
/-- isinstance's second argument -/
def tysX (sc : Scope) : List Ty → Expr → Bool
  | [t], .Name x _ => decide (x = tyName t) && glB sc x
  | _, _ => false
def gkName : GK → Str
  | .tup => "tuple" | .all => "all" | .any => "any"
def locB (sc : Scope) (x : Str) : Bool := match sc.names.lookup x with
  | some .local => true
  | some .cell => true
  | _ => false
/-- a plain name to store in -/
def okS (mc : Mc) (i : Nat) (x : Str) : Bool := decide (mc.N[i]? = some x) && locB mc.sc x
def matTs (mc : Mc) : List Nat → List Expr → Bool
  | [], [] => true
  | i :: is, .Name x _ :: es => okS mc i x && matTs mc is es
  | _, _ => false
def matT (mc : Mc) : Tg → Expr → Bool
  | .one i, .Name x _ => okS mc i x
  | .many is, .Tuple es _ _ => matTs mc is es
  | _, _ => false
/-- a comprehension's own names, by their slots -/
def ownOf (mc : Mc) (is : List Nat) : List (Str × Nat) := is.filterMap fun i => (mc.N[i]?).map fun x => (x, i)
def swapFree : Expr → Bool
  | .ListComp .. => false
  | .SetComp .. => false
  | .DictComp .. => false
  | _ => true
/-- a built-in's plain call -/
def biOk (mc : Mc) : Bi → Bool
  | .isi _ => false
  | .gcd => mc.gcd
  | .sortSet => false
  | .lenSet => false
  | .sorted => false
  | _ => true
/-- pairs go to a row of names -/
def srcT : E → Expr → Bool
  | .en _, .Tuple .. => true
  | .en _, _ => false
  | .zp _ _, .Tuple .. => true
  | .zp _ _, _ => false
  | _, _ => true
mutual
def mat (mc : Mc) : E → Expr → Bool
  | .var i, .Name x _ => okN mc i x
  | .mv i, .Name x _ => okN mc i x
  | .fz i, .Name x _ => okN mc i x
  | .ci n, .Constant (.int n') _ _ => decide (n = n')
  | .cs s, .Constant (.str s') _ _ => decide (s = s')
  | .cb b, .Constant (.bool b') _ _ => decide (b = b')
  | .cn, .Constant .none _ _ => true
  | .o2 o a b, .BinOp l op r _ => decide (op = opB o) && (mat mc a l && mat mc b r)
  | .neg a, .UnaryOp .USub e _ => mat mc a e
  | .nt a, .UnaryOp .Not e _ => mat mc a e
  | .cp o a b, .Compare l [op] [r] _ => decide (op = cpB o) && (!isSetX r && ((match o with
    | .isN => isNone1 b
    | .notN => isNone1 b
    | _ => true) && (mat mc a l && mat mc b r)))
  | .ch o1 o2 a b c, .Compare l [op1, op2] [m, r] _ => cmpI o1 && cmpI o2 && !isSetX m && !isSetX r && decide (op1 = cpB o1) && (decide (op2 = cpB o2) && (mat mc a l && (mat mc b m && mat mc c r)))
  | .an a b, .BoolOp .And (x :: y :: r) pos => mat mc a x && (match r with
    | [] => mat mc b y
    | _ => mat mc b (.BoolOp .And (y :: r) pos))
  | .orr a b, .BoolOp .Or (x :: y :: r) pos => mat mc a x && (match r with
    | [] => mat mc b y
    | _ => mat mc b (.BoolOp .Or (y :: r) pos))
  | .ite c a b, .IfExp x y z _ => mat mc c x && (mat mc a y && mat mc b z)
  | .tup as, .Tuple es _ _ => matL mc as es
  | .lst as, .List es _ => matL mc as es
  | .ix a i, .Subscript v s _ => !isSliceX s && (mat mc a v && mat mc i s)
  | .sl a lo hi, .Subscript v (.Slice l h none _) _ => mat mc a v && ((if isSo lo then l.isNone else (match l with
    | some x => mat mc lo x
    | none => false)) && (if isSo hi then h.isNone else (match h with
    | some x => mat mc hi x
    | none => false)))
  | .fld a c j, .Attribute v f _ => dotX v && (decide (((mc.cf.getD c [])[j]?).map (·.1) = some f) && mat mc a v)
  | .call f as, .Call (.Name x _) es [] _ => decide (mc.fns[f]? = some (.glob x)) && (glB mc.sc x && matL mc as es)
  | .mcall f (.abw p as), .Call (.Attribute o m ap) es [] pos => decide (es.length < 30 ∧ ap.endLine = pos.line) && (dotX o && (mat mc p o && (matL mc as es && (match mc.fns[f]? with
    | some (.meth _ m') => decide (m = m')
    | _ => false))))
  | .mcall f (.aE p as), .Call (.Attribute o m ap) es [] pos => decide (es.length < 30 ∧ ap.endLine = pos.line) && (dotX o && (mat mc p o && (matL mc as es && (match mc.fns[f]? with
    | some (.meth _ m') => decide (m = m')
    | _ => false))))
  | .mcall f (.aio p as), .Call (.Attribute o m ap) es [] pos => decide (es.length < 30 ∧ ap.endLine = pos.line) && (dotX o && (mat mc p o && (matL mc as es && (match mc.fns[f]? with
    | some (.meth _ m') => decide (m = m')
    | _ => false))))
  | .mk c f as, .Call (.Name x _) es [] _ => decide (mc.cls[c]? = some x) && (glB mc.sc x && (decide (mc.fns[f]? = some (.meth c "__init__")) && matL mc as es))
  | .bi (.isi ts) (.aE a .a0), .Call (.Name x _) [e, te] [] _ => decide (x = ("isinstance" : Str)) && (glB mc.sc x && (mat mc a e && tysX mc.sc ts te))
  | .bi b as, .Call (.Name x _) es [] _ => biOk mc b && (decide (x = biName b) && (glB mc.sc x && (!es.isEmpty && matL mc as es)))
  | .comp tg src cond elt, .ListComp e [⟨t, it, ifs, 0⟩] scope _ =>
    blkC mc.N mc.sc scope (ownOf mc tg.slots) && ((!isSetX it && srcT src t) && matS mc src it && (matT { mc with sc := scope } tg t && ((match ifs with
      | [] => isCt cond
      | [c] => !isCt cond && mat { mc with sc := scope } cond c
      | _ => false) && mat { mc with sc := scope } elt e)))
  | .pur e, x => mat mc e x
  | _, _ => false
termination_by structural e => e
/-- argument lists, displays -/
def matL (mc : Mc) : E → List Expr → Bool
  | .a0, [] => true
  | .aE a r, e :: es => !isStarX e && (mat mc a e && matL mc r es)
  | .aS a r, .Starred e _ :: es => mat mc a e && matL mc r es
  | .aio p r, e :: es => !isStarX e && (mat mc p e && matL mc r es)
  | .abw p r, e :: es => !isStarX e && (mat mc p e && matL mc r es)
  | _, _ => false
termination_by structural e => e
/-- what is walked -/
def matS (mc : Mc) : E → Expr → Bool
  | .sq e, x => mat mc e x
  | .rg1 a, .Call (.Name x _) [e] [] _ => decide (x = ("range" : Str)) && (glB mc.sc x && (!isStarX e && mat mc a e))
  | .rg2 a b, .Call (.Name x _) [e, e2] [] _ => decide (x = ("range" : Str)) && (glB mc.sc x && (!isStarX e && (!isStarX e2 && (mat mc a e && mat mc b e2))))
  | .rg3 a b c, .Call (.Name x _) [e, e2, e3] [] _ => decide (x = ("range" : Str)) && (glB mc.sc x && (!isStarX e && (!isStarX e2 && (!isStarX e3 && (mat mc a e && (mat mc b e2 && mat mc c e3))))))
  | .en a, .Call (.Name x _) [e] [] _ => decide (x = ("enumerate" : Str)) && (glB mc.sc x && (!isStarX e && mat mc a e))
  | .zp a b, .Call (.Name x _) [e, e2] [] _ => decide (x = ("zip" : Str)) && (glB mc.sc x && (!isStarX e && (!isStarX e2 && (mat mc a e && mat mc b e2))))
  | _, _ => false
termination_by structural e => e
end
end DI
end
section
set_option Elab.async false
set_option linter.all false
set_option maxRecDepth 100000
/-! Soundness of expressions, part 1. -/
namespace DI
open PySem PySem.Spec L2
def bnames : List Str := ["len", "abs", "min", "max", "sum", "int", "tuple", "list", "isinstance", "sorted", "set", "bool", "str", "range", "enumerate", "zip", "reversed", "all", "any", "super", "repr", "type"]
/-- the context is that of the text mc -/
structure CxM (mc : Mc) (X : Cx) (k : Nat) : Prop where
  hN : X.N = mc.N
  nd : mc.N.Nodup
  vis : ∀ x, Vis mc.sc x → Vis X.env.scope x
  loc : ∀ x k, k ≠ .free → mc.sc.names.lookup x = some k → X.env.scope.names.lookup x = some k
  fre : ∀ x, mc.sc.names.lookup x = some .free → X.env.scope.names.lookup x = some .cell ∨ X.env.scope.names.lookup x = some .free
  cel : ∀ x, mc.sc.names.lookup x = some .cell → X.fn x = true
  knd : X.env.scope.kind = .function
  calm : X.calm = true
  room : Room k X.A
  bn : ∀ x ∈ bnames, X.mg x = none
  gc : mc.gcd = true → X.mg "gcd" = some (.builtin "math.gcd")
section
variable {G : CT} {ts : List Addr} {H H' : Hp} {T T' : Tl} {ws ws' : List (List Addr)} {g : Md} {ρ : Rho} {σ : St}
/-! ### the end of a reading -/
theorem nodup_nil' : ([] : List Addr).Nodup := List.nodup_nil
theorem uni_nil {T : Tl} {a : Addr} (h : uni T [] a) : T a := h.elim id fun z => nomatch z
theorem Post.fz {B : List Addr} {d : D} {Q : VK} {v : V} (p : Post G ts H T B g ρ σ .z d Q) (st : Stp H B H' ws'.flatten) (e : EnvOk G ts H' T ws' g ρ σ) (f : Fz G H' (uni T ws'.flatten) d v) : Q v H' :=
  p v H' [] ws' (by simpa using st) (e.less fun a => uni_nil) (.z (f.sets fun a _ z => z.imp uni_nil id)) nodup_nil' (fun a z => nomatch z)
/-- a value that stands aside while more is reckoned -/
theorem Rp.on {H1 H2 : Hp} {ws1 ws2 : List (List Addr)} {w1 w2 : List Addr} {m : M} {d : D} {v : V} {g1 : Md} {ρ1 : Rho} (r : Rt G H1 (uni (uni T w1) ws1.flatten) m d v w1) (e1 : EnvOk G ts H1 (uni T w1) ws1 g1 ρ1 σ)
    (st : Stp H1 ws1.flatten H2 (w2 ++ ws2.flatten)) : Rt G H2 (uni (uni (uni T w1) w2) ws2.flatten) m d v w1 := by
  refine Rt.next r st.kp (fun a z => ⟨.inr z, fun q => e1.dj a z (.inl (T.h a q))⟩) (fun a ha z => ?_) fun a ha z => e1.dj a z (.inr ha)
  rcases z with (z | z) | z
  · exact .inl z
  · exact (st.sub a (List.mem_append_left _ z)).elim .inr fun q => absurd q ha
  · exact (st.sub a (List.mem_append_right _ z)).elim .inr fun q => absurd q ha
theorem Stp.two {H1 H2 : Hp} {B w1 B1 w2 B2 : List Addr} (a : Stp H B H1 (w1 ++ B1)) (b : Stp H1 B1 H2 (w2 ++ B2)) : Stp H B H2 (w1 ++ (w2 ++ B2)) where
  kp := (Stp.trans a (fun x z => List.mem_append_right _ z) b).kp
  sub := fun x hx => (List.mem_append.mp hx).elim (fun z => a.sub x (List.mem_append_left _ z)) fun z => (Stp.trans a (fun x z => List.mem_append_right _ z) b).sub x z
  trk := fun x h => b.trk x (a.trk x h)
theorem Stp.drop1 {B w1 B1 : List Addr} (a : Stp H B H' (w1 ++ B1)) : Stp H B H' B1 := a.less fun _ z => List.mem_append_right _ z
theorem Stp.drop2 {B w1 w2 B2 : List Addr} (a : Stp H B H' (w1 ++ (w2 ++ B2))) : Stp H B H' B2 := a.less fun _ z => List.mem_append_right _ (List.mem_append_right _ z)
/-! ### names and constants -/
variable {t : Tb} {C : Calls} {X : Cx} {mc : Mc} {k : Nat}
theorem okN_ok {i : Nat} {x : Str} (h : okN mc i x = true) : mc.N[i]? = some x ∧ Vis mc.sc x ∧ (x == ("__debug__" : Str)) = false ∧ (x == ("__classdict__" : Str)) = false := by
  unfold okN visB at h
  simp only [Bool.and_eq_true, decide_eq_true_eq] at h
  obtain ⟨h1, h2, h3, h4⟩ := h
  refine ⟨h1, ?_, beq_eq_false_iff_ne.mpr h3, beq_eq_false_iff_ne.mpr h4⟩
  unfold Vis
  split at h2 <;> simp_all
theorem getD_set_ne {α : Type} {l : List α} {i j : Nat} {a b : α} (h : i ≠ j) : (l.set i a).getD j b = l.getD j b := by
  rw [List.getD_eq_getElem?_getD, List.getD_eq_getElem?_getD, List.getElem?_set_ne h]
theorem getD_set_eq {α : Type} {l : List α} {i : Nat} {a b : α} (h : i < l.length) : (l.set i a).getD i b = a := by
  rw [List.getD_eq_getElem?_getD, List.getElem?_set_self h]; rfl
theorem flat_set_nil : ∀ {ws : List (List Addr)} {i : Nat}, (ws.set i []).flatten.Sublist ws.flatten
  | [], _ => by simp
  | w :: ws, 0 => by simp
  | w :: ws, i + 1 => by
    rw [List.set_cons_succ, List.flatten_cons, List.flatten_cons]
    exact List.Sublist.append (List.Sublist.refl _) flat_set_nil
theorem flat_split : ∀ {ws : List (List Addr)} {i : Nat}, i < ws.length → ws.flatten.Perm (ws.getD i [] ++ (ws.set i []).flatten)
  | [], _, h => by simp at h
  | w :: ws, 0, _ => by simp
  | w :: ws, i + 1, h => by
    rw [List.set_cons_succ, List.flatten_cons, List.flatten_cons]
    have ih := flat_split (ws := ws) (i := i) (by simpa using h)
    have e : (w :: ws).getD (i + 1) [] = ws.getD i [] := by simp
    rw [e]
    refine (List.Perm.append_left w ih).trans ?_
    rw [← List.append_assoc, ← List.append_assoc]
    exact List.Perm.append_right _ List.perm_append_comm
/-- a slot's own cells are taken out of the frame: they are the value's now, or nobody's -/
theorem EnvOk.take {i : Nat} {m' : M} {d' : D} (e : EnvOk G ts H T ws g ρ σ) (hi : i < g.length)
    (hs : (m' = .x) ∨ ∃ v, σ[i]? = some (some v) ∧ Rt G H (uni (uni T (ws.getD i [])) (ws.set i []).flatten) m' d' v []) :
    EnvOk G ts H (uni T (ws.getD i [])) (ws.set i []) (g.set i m') (ρ.set i d') σ := by
  have hw : i < ws.length := by rw [e.lw]; exact hi
  have pm := flat_split hw
  have sub : ∀ a ∈ (ws.set i []).flatten, a ∈ ws.flatten := fun a h => flat_set_nil.subset h
  have nd := (pm.nodup_iff.mp e.nd)
  rw [List.nodup_append] at nd
  refine ⟨by simp [e.lr], by simp [e.ls], by simp [e.lw], nd.2.1, fun a z => ?_, fun a h z => ?_, fun j m hm => ?_, e.tb⟩
  · rcases z with z | z
    · exact e.tt a z
    · exact e.trk a (mem_flat z)
  · rcases z with z | z
    · exact e.dj a (sub a h) z
    · exact nd.2.2 a z a h rfl
  · by_cases hj : i = j
    · subst hj
      have e1 : (ws.set i []).getD i [] = [] := getD_set_eq hw
      rw [List.getElem?_set_self hi] at hm
      cases hm
      rw [e1, getD_set_eq (by rw [e.lr]; exact hi)]
      exact hs.imp (fun z => ⟨z, rfl⟩) id
    · rw [List.getElem?_set_ne hj] at hm
      rw [getD_set_ne hj, getD_set_ne hj]
      refine (e.sl j m hm).imp id fun ⟨v, h1, h2⟩ => ⟨v, h1, Rt.sets h2 fun a _ z => ?_⟩
      rcases z with (z | z) | z
      · exact .inl z
      · exact .inr (mem_flat z)
      · exact .inr (sub a z)
theorem Rp.z_nil {N B : Sets} {o : Bool} {d : D} {v : V} {w : List Addr} (h : Rp G H N B o .z d v w) : w = [] := by
  cases h with
  | z => rfl
  | co => rfl
  | T _ r => cases r
theorem Rp.z_fz {N B : Sets} {o : Bool} {d : D} {v : V} {w : List Addr} (h : Rp G H N B o .z d v w) : Fz G H N d v := by
  cases h with
  | z h => exact h
  | co _ h => exact h
  | T _ r => cases r
theorem Rp.w_nil {N B : Sets} {o : Bool} {m : M} {d : D} {v : V} {w : List Addr} (h : Rp G H N B o (.w m) d v w) : w = [] := by
  cases h with
  | co => rfl
  | T _ r => cases r
  | w => rfl
theorem sd_var {i : Nat} {x : Str} {pos : Pos} (hX : CxM mc X k) (hm : okN mc i x = true) : PE X (.Name x pos) (RE t G ts C (.var i)) := by
  obtain ⟨h1, h2, h3, h4⟩ := okN_ok hm
  refine PE.of (pe_var (i := i) (by rw [hX.hN]; exact h1) (hX.vis x h2) h3 h4) ?_
  rintro σ H Q ⟨T, ws, g, ρ, m, g', d, ρ', hc, he, env, p⟩
  simp only [ck, ev] at hc he
  cases he
  have key : g[i]? = some m ∧ g' = g ∧ (m = .z ∨ ∃ m', m = .w m') := by
    split at hc
    · cases hc; exact ⟨by assumption, rfl, .inl rfl⟩
    · cases hc; exact ⟨by assumption, rfl, .inr ⟨_, rfl⟩⟩
    · cases hc
  obtain ⟨hg, rfl, hk⟩ := key
  rcases env.sl i m hg with ⟨z, _⟩ | ⟨v, hv, r⟩
  · rcases hk with rfl | ⟨m', rfl⟩ <;> cases z
  · refine ⟨v, hv, p v H [] ws (by simpa using Stp.refl) (env.less fun a => uni_nil) ?_ nodup_nil' fun a z => nomatch z⟩
    have e : ws.getD i [] = [] := by
      rcases hk with rfl | ⟨m', rfl⟩
      · exact r.z_nil
      · exact r.w_nil
    rw [e] at r
    exact Rt.sets r fun a _ z => z.imp uni_nil id
theorem sd_mv {i : Nat} {x : Str} {pos : Pos} (hX : CxM mc X k) (hm : okN mc i x = true) : PE X (.Name x pos) (RE t G ts C (.mv i)) := by
  obtain ⟨h1, h2, h3, h4⟩ := okN_ok hm
  refine PE.of (pe_var (i := i) (by rw [hX.hN]; exact h1) (hX.vis x h2) h3 h4) ?_
  rintro σ H Q ⟨T, ws, g, ρ, m, g', d, ρ', hc, he, env, p⟩
  simp only [ck, ev] at hc he
  cases he
  have key : g[i]? = some m ∧ g' = g.set i .x ∧ m.isW = false := by
    split at hc
    · split at hc
      · cases hc
      · cases hc; exact ⟨by assumption, rfl, by cases q : m.isW with
          | false => rfl
          | true => exact absurd q ‹¬ _›⟩
    · cases hc
  obtain ⟨hg, rfl, hk⟩ := key
  have hi : i < g.length := (List.getElem?_eq_some_iff.mp hg).1
  have hw : i < ws.length := by rw [env.lw]; exact hi
  rcases env.sl i m hg with ⟨z, _⟩ | ⟨v, hv, r⟩
  · subst z; cases hk
  · have pm := flat_split hw
    have nd := (pm.nodup_iff.mp env.nd)
    rw [List.nodup_append] at nd
    refine ⟨v, hv, p v H (ws.getD i []) (ws.set i []) ⟨Kp.refl, fun a z => .inl ?_, fun _ z => z⟩ (env.take hi (.inl rfl)) ?_ nd.1 fun a z => env.dj a (mem_flat z)⟩
    · exact pm.symm.subset z
    · refine Rt.sets r fun a _ z => ?_
      rcases z with (z | z) | z
      · exact .inl z
      · exact .inr (mem_flat z)
      · exact .inr (flat_set_nil.subset z)
theorem sd_fz {i : Nat} {x : Str} {pos : Pos} (hX : CxM mc X k) (hm : okN mc i x = true) : PE X (.Name x pos) (RE t G ts C (.fz i)) := by
  obtain ⟨h1, h2, h3, h4⟩ := okN_ok hm
  refine PE.of (pe_var (i := i) (by rw [hX.hN]; exact h1) (hX.vis x h2) h3 h4) ?_
  rintro σ H Q ⟨T, ws, g, ρ, m, g', d, ρ', hc, he, env, p⟩
  simp only [ck, ev] at hc he
  cases he
  have key : ∃ m0, g[i]? = some m0 ∧ m = .z ∧ g' = g.set i .z ∧ m0.fzb = true := by
    split at hc
    · split at hc
      · cases hc; exact ⟨_, by assumption, rfl, rfl, by assumption⟩
      · cases hc
    · cases hc
  obtain ⟨m0, hg, rfl, rfl, hk⟩ := key
  have hi : i < g.length := (List.getElem?_eq_some_iff.mp hg).1
  have hw : i < ws.length := by rw [env.lw]; exact hi
  rcases env.sl i m0 hg with ⟨z, _⟩ | ⟨v, hv, r⟩
  · subst z; cases hk
  · have pm := flat_split hw
    have nd := (pm.nodup_iff.mp env.nd)
    rw [List.nodup_append] at nd
    have fz : Fz G H (uni T (ws.set i []).flatten) (ρ.getD i .non) v := by
      refine r.freeze hk (fun a z => z.imp id fun q => flat_set_nil.subset q) fun a ha z => ?_
      rcases z with z | z
      · exact env.dj a (mem_flat ha) z
      · exact nd.2.2 a ha a z rfl
    have env' : EnvOk G ts H T (ws.set i []) (g.set i .z) ρ σ := by
      have sub : ∀ a ∈ (ws.set i []).flatten, a ∈ ws.flatten := fun a h => flat_set_nil.subset h
      refine ⟨by simp [env.lr], by simp [env.ls], by simp [env.lw], nd.2.1, env.tt, fun a h z => env.dj a (sub a h) z, fun j m hm => ?_, env.tb⟩
      by_cases hj : i = j
      · subst hj
        rw [List.getElem?_set_self hi] at hm
        cases hm
        rw [getD_set_eq hw]
        exact .inr ⟨v, hv, .z fz⟩
      · rw [List.getElem?_set_ne hj] at hm
        rw [getD_set_ne hj]
        exact (env.sl j m hm).imp id fun ⟨v, h1, h2⟩ => ⟨v, h1, Rt.sets h2 fun a _ z => z.imp id (sub a)⟩
    exact ⟨v, hv, p.fz ⟨Kp.refl, fun a z => .inl (flat_set_nil.subset z), fun _ z => z⟩ env' fz⟩
/-- a constant -/
theorem sd_const {e : E} {x : Expr} {v : V} {d : D} (h : PE X x (tC v)) (he : ∀ ρ, ev C e ρ = some (d, ρ)) (hc : ∀ g, ck t e g = some (.z, g)) (hf : ∀ H N, Fz G H N d v) : PE X x (RE t G ts C e) := by
  refine PE.of h ?_
  rintro σ H Q ⟨T, ws, g, ρ, m, g', d, ρ', hc', he', env, p⟩
  rw [hc] at hc'
  rw [he] at he'
  cases hc'; cases he'
  exact p.fz Stp.refl env (hf _ _)
end
end DI
end
section
set_option Elab.async false
set_option linter.all false
set_option maxRecDepth 100000
/-! Soundness of expressions, part 2: operators. -/
namespace DI
open PySem PySem.Spec L2
section
variable {G : CT} {ts : List Addr} {H H' : Hp} {T T' : Tl} {ws ws' : List (List Addr)} {g : Md} {ρ : Rho} {σ : St}
variable {t : Tb} {C : Calls} {X : Cx} {mc : Mc} {k : Nat}
theorem SeqR.views {N B B' : Sets} {r : M} {d : D} {v : V} (h : SeqR G H N B r d v) (hb : ∀ a, B' a → B a) : SeqR G H N B' r d v := by
  obtain ⟨a, xs, ds, e, h, l, q⟩ := h
  exact ⟨a, xs, ds, e, h, l, fun i d' v' e1 e2 => (q i d' v' e1 e2).sets (fun _ _ z => z) fun a _ z => hb a z⟩
/-- two values reckoned, the first standing aside -/
structure Two (G : CT) (ts : List Addr) (H : Hp) (T : Tl) (B : List Addr) (g2 : Md) (ρ2 : Rho) (σ : St) (ma mb : M) (x y : D) (v1 v2 : V) (H2 : Hp) (w1 w2 : List Addr) (ws2 : List (List Addr)) : Prop where
  st : Stp H B H2 (w1 ++ (w2 ++ ws2.flatten))
  env : EnvOk G ts H2 (uni (uni T w1) w2) ws2 g2 ρ2 σ
  r1 : Rt G H2 (uni (uni (uni T w1) w2) ws2.flatten) ma x v1 w1
  r2 : Rt G H2 (uni (uni (uni T w1) w2) ws2.flatten) mb y v2 w2
  n1 : w1.Nodup
  n2 : w2.Nodup
  d1 : ∀ a ∈ w1, ¬ T a
  d2 : ∀ a ∈ w2, ¬ uni T w1 a
theorem RE.bin {a b : E} {ma mb : M} {g1 g2 : Md} {x y : D} {ρ1 ρ2 : Rho} {R : V → V → Hp → Prop} (hca : ck t a g = some (ma, g1)) (hcb : ck t b g1 = some (mb, g2)) (hea : ev C a ρ = some (x, ρ1)) (heb : ev C b ρ1 = some (y, ρ2)) (env : EnvOk G ts H T ws g ρ σ)
    (k : ∀ v1 v2 H2 w1 w2 ws2, Two G ts H T ws.flatten g2 ρ2 σ ma mb x y v1 v2 H2 w1 w2 ws2 → R v1 v2 H2) : RE t G ts C a σ H fun v1 H1 => RE t G ts C b σ H1 fun v2 H2 => R v1 v2 H2 := by
  refine ⟨T, ws, g, ρ, ma, g1, x, ρ1, hca, hea, env, fun v1 H1 w1 ws1 st1 env1 r1 n1 d1 => ?_⟩
  refine ⟨uni T w1, ws1, g1, ρ1, mb, g2, y, ρ2, hcb, heb, env1, fun v2 H2 w2 ws2 st2 env2 r2 n2 d2 => ?_⟩
  exact k v1 v2 H2 w1 w2 ws2 ⟨st1.two st2, env2, r1.on env1 st2, r2, n1, n2, d1, d2⟩
section
variable {B : List Addr} {g2 : Md} {ρ2 : Rho} {ma mb : M} {x y : D} {v1 v2 : V} {H2 : Hp} {w1 w2 : List Addr} {ws2 : List (List Addr)}
theorem Two.stp (w : Two G ts H T B g2 ρ2 σ ma mb x y v1 v2 H2 w1 w2 ws2) : Stp H B H2 ws2.flatten := w.st.drop2
theorem Two.env0 (w : Two G ts H T B g2 ρ2 σ ma mb x y v1 v2 H2 w1 w2 ws2) : EnvOk G ts H2 T ws2 g2 ρ2 σ := w.env.less fun a z => .inl (.inl z)
theorem Two.a1 (w : Two G ts H T B g2 ρ2 σ ma mb x y v1 v2 H2 w1 w2 ws2) : ∀ a ∈ w1, ¬ uni T ws2.flatten a := fun a ha z => z.elim (w.d1 a ha) fun q => w.env.dj a q (.inl (.inr ha))
theorem Two.a2 (w : Two G ts H T B g2 ρ2 σ ma mb x y v1 v2 H2 w1 w2 ws2) : ∀ a ∈ w2, ¬ uni T ws2.flatten a := fun a ha z => z.elim (fun q => w.d2 a ha (.inl q)) fun q => w.env.dj a q (.inr ha)
theorem Two.f1 (w : Two G ts H T B g2 ρ2 σ ma mb x y v1 v2 H2 w1 w2 ws2) (h : ma.fzb = true) : Fz G H2 (uni T ws2.flatten) x v1 := w.r1.freeze h (fun a z => z.imp (fun q => .inl (.inl q)) id) w.a1
theorem Two.f2 (w : Two G ts H T B g2 ρ2 σ ma mb x y v1 v2 H2 w1 w2 ws2) (h : mb.fzb = true) : Fz G H2 (uni T ws2.flatten) y v2 := w.r2.freeze h (fun a z => z.imp (fun q => .inl (.inl q)) id) w.a2
theorem Two.s1 {r : M} {ds : List D} (w : Two G ts H T B g2 ρ2 σ ma mb x y v1 v2 H2 w1 w2 ws2) (h : rdM ma = some r) (hs : seqOf x = some ds) : SeqR G H2 (uni T ws2.flatten).s (uni T ws2.flatten).b r x v1 :=
  (w.r1.seqR h hs (fun a z => z.imp (fun q => .inl (.inl q)) id) w.a1).views fun a z => ⟨z.1.imp (fun q => .inl (.inl q)) id, z.2⟩
theorem Two.s2 {r : M} {ds : List D} (w : Two G ts H T B g2 ρ2 σ ma mb x y v1 v2 H2 w1 w2 ws2) (h : rdM mb = some r) (hs : seqOf y = some ds) : SeqR G H2 (uni T ws2.flatten).s (uni T ws2.flatten).b r y v2 :=
  (w.r2.seqR h hs (fun a z => z.imp (fun q => .inl (.inl q)) id) w.a2).views fun a z => ⟨z.1.imp (fun q => .inl (.inl q)) id, z.2⟩
end
/-- new objects stand there, nothing else has changed -/
theorem EnvOk.grow (e : EnvOk G ts H T ws g ρ σ) (kp : Kp H H' fun _ => False) (tt : ∀ a, T' a → H' a ≠ none) (nw : ∀ a, T' a → T a ∨ H a = none) (tb : Tabs ts H') (hl : ∀ a, T.l a → T'.l a := by exact fun _ z => z) : EnvOk G ts H' T' ws g ρ σ where
  lr := e.lr
  ls := e.ls
  lw := e.lw
  nd := e.nd
  tt := tt
  dj := fun a h z => (nw a z).elim (e.dj a h) (e.trk a h)
  sl := fun i m hm => (e.sl i m hm).imp id fun ⟨v, h1, h2⟩ => ⟨v, h1, Rt.next h2 kp (fun a z => z.elim) (fun a ha z => z.elim (fun q => (nw a q).elim .inl fun q => absurd q ha) .inr) (fun a _ z => z) hl⟩
  tb := tb
/-- an object is laid at a new place -/
theorem kp_new {q : Addr} {o : HO} (hq : H q = none) : Kp H (upd H q o) fun _ => False :=
  ⟨fun a o h _ _ => by rw [upd_ne (ne_of_none h hq)]; exact h, fun a xs h => by rw [upd_ne (ne_of_none h hq)]; exact h, fun a o u h => by rw [upd_ne (ne_of_none h hq)]; exact h⟩
theorem trk_new {q : Addr} {o : HO} : ∀ a, H a ≠ none → upd H q o a ≠ none := fun a h => by
  unfold upd; split
  · simp
  · exact h
theorem tabs_new {q : Addr} {o : HO} (hq : H q = none) (h : Tabs ts H) : Tabs ts (upd H q o) := fun a ha => by
  obtain ⟨ps, h1, h2⟩ := h a ha
  exact ⟨ps, by rw [upd_ne (ne_of_none h1 hq)]; exact h1, h2⟩
theorem stp_new {q : Addr} {o : HO} {B : List Addr} (hq : H q = none) : Stp H B (upd H q o) B := ⟨(kp_new hq).mono fun a z => z.elim, fun a z => .inl z, trk_new⟩
/-- a new list of values -/
theorem Post.newL {B : List Addr} {ds : List D} {Q : VK} {xs : List V} (p : Post G ts H T B g ρ σ (.L .z) (.lst ds) Q) (st : Stp H B H' ws'.flatten) (e : EnvOk G ts H' T ws' g ρ σ) (f : FzA G H' (uni T ws'.flatten) ds xs) (q : Addr) (hq : H' q = none) : Q (.ref q) (upd H' q (.lst xs)) := by
  have nN : ∀ (a : Addr), H' a ≠ none → uni (uni T [q]) ws'.flatten a → uni T ws'.flatten a := fun a ha z => by
    rcases z with (z | z) | z
    · exact .inl z
    · exact absurd (List.mem_singleton.mp z ▸ hq) ha
    · exact .inr z
  have f' : FzA G (upd H' q (.lst xs)) (uni (uni T [q]) ws'.flatten) ds xs := f.next (S := fun _ => False) (B := fun _ => False) (B' := fun _ => False) (kp_new hq) ⟨fun a z => z.elim, fun a z => z.elim, nN, fun a _ z => z⟩
  refine p (.ref q) _ [q] ws' ?_ ?_ (Rp.L (w := []) upd_same (fun z => nomatch z) f'.rp) (by simp) ?_
  · refine (Stp.trans st (fun x z => z) (stp_new hq)).more fun x z => ?_
    rw [List.mem_singleton.mp z]
    cases e0 : H q with
    | none => exact .inr rfl
    | some o => exact absurd hq (st.trk q (by rw [e0]; simp))
  · refine e.grow (kp_new hq) (fun a z => ?_) (fun a z => ?_) (tabs_new hq e.tb)
    · rcases z with z | z
      · exact trk_new a (e.tt a z)
      · rw [List.mem_singleton.mp z, upd_same]; simp
    · rcases z with z | z
      · exact .inl z
      · rw [List.mem_singleton.mp z]; exact .inr hq
  · intro a z z'
    rw [List.mem_singleton.mp z] at z'
    exact e.tt q z' hq
/-- a new tuple of values -/
theorem Post.newT {B : List Addr} {ds : List D} {Q : VK} {xs : List V} (p : Post G ts H T B g ρ σ .z (.tup ds) Q) (st : Stp H B H' ws'.flatten) (e : EnvOk G ts H' T ws' g ρ σ) (f : FzA G H' (uni T ws'.flatten) ds xs) (q : Addr) (hq : H' q = none) : Q (.ref q) (upd H' q (.tup xs)) := by
  have f' : FzA G (upd H' q (.tup xs)) (uni T ws'.flatten) ds xs := f.next (S := fun _ => False) (B := fun _ => False) (B' := fun _ => False) (kp_new hq) ⟨fun a z => z.elim, fun a z => z.elim, fun a _ z => z, fun a _ z => z⟩
  exact p.fz (Stp.trans st (fun x z => z) (stp_new hq)) (e.grow (kp_new hq) (fun a z => trk_new a (e.tt a z)) (fun a z => .inl z) (tabs_new hq e.tb)) (.tup (.of upd_same) f')
end
end DI
end
section
set_option Elab.async false
set_option linter.all false
set_option maxRecDepth 100000
set_option maxHeartbeats 4000000
/-! A row of so many copies, any count. -/
namespace DI
open PySem PySem.Spec L2
theorem rowOnce (l : Addr) (items : Array Value) (n : Nat) (dd : Option Addr) (sl : Array (Option Value)) (x : Int) (u : Tok) (c0 : (decide (x < -(2 ^ 63)) || decide (x ≥ 2 ^ 63)) = false) (c1 : (items.isEmpty || x == 1) = true) :
    Meets (Builtin.«tuple.__mul__» ⟨[.ref l, .int x u], []⟩) (fun _ R s => s.heap.get? l = some { cls := .type "tuple", dict := dd, data := .seq items n, slots := sl } ∧ R (.ok (.ret (Value.ref l))) s) :=
  .of_wp fun prog w A R s h => by
    obtain ⟨hp, g, d, tk, os⟩ := s
    obtain ⟨hl, h⟩ := h
    have f1 := AutoSeq1.idx_int
    wp_walk using wpAny_loadPart' hl
    repeat (first
      | (refine wpAny_ite_false (decide_eq_false (by rw [c0]; exact Bool.false_ne_true)) ?_; wp_walk using wpAny_loadPart' hl)
      | (refine wpAny_ite_true (decide_eq_true c1) ?_; wp_walk using wpAny_loadPart' hl))
    exact ⟨_, rfl, h⟩
theorem rowNever (l : Addr) (items : Array Value) (n : Nat) (dd : Option Addr) (sl : Array (Option Value)) (x : Int) (u : Tok) (c0 : (decide (x < -(2 ^ 63)) || decide (x ≥ 2 ^ 63)) = false) (c1 : (items.isEmpty || x == 1) = false) (c2 : (decide (x ≤ 0) || items.isEmpty) = true) :
    Meets (Builtin.«tuple.__mul__» ⟨[.ref l, .int x u], []⟩) (fun _ R s => s.heap.get? l = some { cls := .type "tuple", dict := dd, data := .seq items n, slots := sl } ∧
      R (.ok (.ret (Value.ref s.heap.objs.size))) { s with heap := s.heap.push { cls := Value.type "tuple", data := Data.seq #[] }, toks := s.toks }) :=
  .of_wp fun prog w A R s h => by
    obtain ⟨hp, g, d, tk, os⟩ := s
    obtain ⟨hl, h⟩ := h
    have f1 := AutoSeq1.idx_int
    wp_walk using wpAny_loadPart' hl
    repeat (first
      | (refine wpAny_ite_false (decide_eq_false (by rw [c0]; exact Bool.false_ne_true)) ?_; wp_walk using wpAny_loadPart' hl)
      | (refine wpAny_ite_false (decide_eq_false (by rw [c1]; exact Bool.false_ne_true)) ?_; wp_walk using wpAny_loadPart' hl)
      | (refine wpAny_ite_true (decide_eq_true c2) ?_; wp_walk using wpAny_loadPart' hl))
    exact ⟨_, rfl, h⟩
/-- copies of a row -/
def rRowRep (K : PySem.W.Frag) : R2 := fun x y H Q => ∃ l k xs, x = .ref l ∧ y = .int k ∧ SqT K H l xs ∧ -(2 ^ 62) ≤ k ∧ k ≤ 1000 ∧ xs.length ≤ 1000 ∧
  (k = 1 ∨ xs = [] → Q (.ref l) H) ∧ (k ≠ 1 → xs ≠ [] → ∀ p, H p = none → Q (.ref p) (upd H p (.tup (List.replicate k.toNat xs).flatten)))
variable {X : Cx}
theorem op_rowRep : OpR X (binaryOp .Mult) (rRowRep X.K) := by
  intro pins s σ H x y v u Q I rx ry h
  obtain ⟨l, k, xs, rfl, rfl, hT, h1, h2, hz, q1, q2⟩ := h
  by_cases hb : 2 ≤ k ∧ xs ≠ []
  · exact op_repT pins s σ H _ _ v u Q I rx ry ⟨l, k, xs, rfl, rfl, hT, hb.2, hb.1, h2, hz, q2 (by omega) hb.2⟩
  · cases rx
    obtain ⟨t, rfl⟩ := ry
    obtain ⟨its, r, ⟨⟨cls, dd, data, sl⟩, ho, hc, n, hd⟩, hs⟩ := I.tuple hT
    simp only at hc hd
    subst hc hd
    have c0 : (decide (k < -(2 ^ 63)) || decide (k ≥ 2 ^ 63)) = false := by
      rw [decide_eq_false (by omega), decide_eq_false (by omega)] <;> rfl
    have he : its.toArray.isEmpty = true ↔ xs = [] := by
      have := r.length
      cases its with
      | nil => simp at this; simp [this]
      | cons a b => cases xs with
        | nil => simp at this
        | cons => simp
    by_cases hone : k = 1 ∨ xs = []
    · refine wpAny_binaryOp_repeat_ref (T := "tuple") (U := "int") (by decide) ⟨_, ho, rfl⟩ (fun s' => typeIs_int s' k t) noFill_tuple_mul F.fills_int_mul F.slot_int_rmul repeat_tuple F.slot_int_index.lookup
        (call_meets F.slot_int_rmul (typeIs_int s k t) F.entry_int_rmul (F.args_int_rmul_2 _ _) (int_rmul_tuple k t l its.toArray n dd sl)
          ⟨ho, rfl, ⟨_, ho, rfl⟩, call_meets F.slot_tuple_mul ⟨_, ho, rfl⟩ F.entry_tuple_mul (F.args_tuple_mul_2 _ _) (rowOnce l its.toArray n dd sl k t c0 ?_) ⟨ho, .ref l, H, I, rfl, q1 hone⟩⟩)
      rcases hone with rfl | hone
      · simp
      · rw [he.mpr hone]; rfl
    · have hk : k ≤ 0 := by
        have : xs ≠ [] := fun e => hone (.inr e)
        have : k ≠ 1 := fun e => hone (.inl e)
        by_cases h0 : 2 ≤ k
        · exact absurd ⟨h0, fun e => hone (.inr e)⟩ hb
        · omega
      have hne : its.toArray.isEmpty = false := by
        cases e : its.toArray.isEmpty with
        | false => rfl
        | true => exact absurd (.inr (he.mp e)) hone
      refine wpAny_binaryOp_repeat_ref (T := "tuple") (U := "int") (by decide) ⟨_, ho, rfl⟩ (fun s' => typeIs_int s' k t) noFill_tuple_mul F.fills_int_mul F.slot_int_rmul repeat_tuple F.slot_int_index.lookup
        (call_meets F.slot_int_rmul (typeIs_int s k t) F.entry_int_rmul (F.args_int_rmul_2 _ _) (int_rmul_tuple k t l its.toArray n dd sl)
          ⟨ho, rfl, ⟨_, ho, rfl⟩, call_meets F.slot_tuple_mul ⟨_, ho, rfl⟩ F.entry_tuple_mul (F.args_tuple_mul_2 _ _) (rowNever l its.toArray n dd sl k t c0 ?_ ?_) ⟨ho, ?_⟩⟩)
      · rw [hne, Bool.false_or]; exact beq_eq_false_iff_ne.mpr (by omega)
      · rw [decide_eq_true hk]; rfl
      · have hz : (List.replicate k.toNat xs).flatten = [] := by rw [show k.toNat = 0 by omega]; rfl
        have := q2 (fun e => hone (.inl e)) (fun e => hone (.inr e)) _ (I.hok.fresh (Nat.le_refl s.heap.objs.size))
        rw [hz] at this
        refine ⟨.ref s.heap.objs.size, _, I.laid (t' := s.toks) (o := .tup []) (fun b ob q => Heap.get?_push_of_some _ q) (Nat.le_refl _) ?_, rfl, this⟩
        exact ⟨by simp, [], .nil, PyProof.Rows.IsTup.new _ _⟩
end DI
end
section
set_option Elab.async false
set_option linter.all false
set_option maxRecDepth 100000
/-! Soundness of expressions, part 3: the operators' nodes. -/
namespace DI
open PySem PySem.Spec L2 PyProof.Rows
section
variable {X : Cx}
/-- list + list, wherever they stand -/
def rCatS (K : PySem.W.Frag) : R2 := fun x y H Q => ∃ l b xs zs, x = .ref l ∧ y = .ref b ∧ SqL K H l xs ∧ SqL K H b zs ∧ xs.length + zs.length ≤ sizeLine ∧ ∀ p, H p = none → Q (.ref p) (upd H p (.lst (xs ++ zs)))
theorem op_catS : OpR X (binaryOp .Add) (rCatS X.K) := by
  intro pins s σ H x y v u Q I rx ry h
  obtain ⟨l, b, xs, zs, rfl, rfl, hH, hB, hz, q⟩ := h
  cases rx
  cases ry
  obtain ⟨i1, r1, p1, l1⟩ := I.list hH
  obtain ⟨i2, r2, p2, l2⟩ := I.list hB
  obtain ⟨⟨c1, dd1, da1, s1⟩, g1, hc1, n1, hd1⟩ := p1.isList
  obtain ⟨⟨c2, dd2, da2, s2⟩, g2, hc2, n2, hd2⟩ := p2.isList
  simp only at hc1 hd1 hc2 hd2
  subst hc1 hd1 hc2 hd2
  have e1 := r1.length
  have e2 := r2.length
  have ea : i1.toArray ++ i2.toArray = (i1 ++ i2).toArray := by simp
  refine concat_meets ⟨_, g1, rfl⟩ ⟨_, g2, rfl⟩ noFill_list_add seq_list_add PySem.F.slot_list_add PySem.F.entry_list_add (PySem.F.args_list_add_2 _ _)
    (list_addW l b i1.toArray i2.toArray n1 n2 dd1 dd2 s1 s2 (by simp only [List.size_toArray]; omega)) ⟨g1, g2, ?_⟩
  rw [ea]
  exact ⟨.ref _, _, I.lnew (t' := s.toks) (r1.append r2) (by rw [List.length_append]; omega), rfl, q _ I.fresh⟩
/-- list * int, wherever it stands -/
def rRepS (K : PySem.W.Frag) : R2 := fun x y H Q => ∃ l k xs, x = .ref l ∧ y = .int k ∧ SqL K H l xs ∧ -(2 ^ 63) ≤ k ∧ k < 2 ^ 63 ∧ xs.length * k.toNat ≤ sizeLine ∧ ∀ p, H p = none → Q (.ref p) (upd H p (.lst (List.replicate k.toNat xs).flatten))
theorem op_repS : OpR X (binaryOp .Mult) (rRepS X.K) := by
  intro pins s σ H x y v u Q I rx ry h
  obtain ⟨l, k, xs, rfl, rfl, hH, h1, h2, hz, q⟩ := h
  cases rx
  obtain ⟨t, rfl⟩ := ry
  obtain ⟨i1, r1, p1, l1⟩ := I.list hH
  obtain ⟨⟨c1, dd1, da1, s1⟩, g1, hc1, n1, hd1⟩ := p1.isList
  simp only at hc1 hd1
  subst hc1 hd1
  have e1 := r1.length
  have sl := sizeLine_eq
  have hsz : i1.toArray.size * k.toNat ≤ 2 ^ 24 := by
    rw [List.size_toArray, ← e1]; omega
  refine wpAny_binaryOp_repeat_ref (T := "list") (U := "int") (by decide) ⟨_, g1, rfl⟩ (fun s' => typeIs_int s' k t) noFill_list_mul F.fills_int_mul F.slot_int_rmul repeat_list F.slot_int_index.lookup
    (call_meets F.slot_int_rmul (typeIs_int s k t) F.entry_int_rmul (F.args_int_rmul_2 _ _) (lm_int_rmul_list_any k t l i1.toArray n1 dd1 s1)
      ⟨g1, rfl, ⟨_, g1, rfl⟩, call_meets F.slot_list_mul ⟨_, g1, rfl⟩ F.entry_list_mul (F.args_list_mul_2 _ _)
        (lm_list_mul_any l i1.toArray n1 dd1 s1 k t (by simp [Builtin.List.listFitsIndex]; omega) (by omega) (by simp [Builtin.List.listTooLong, sizeLine]; omega)) ⟨g1, ?_⟩⟩)
  rw [listMul_foldl_if]
  exact ⟨.ref _, _, I.lnew (t' := s.toks) (r1.rep k.toNat) (by rw [lm_len_rep_flat, Nat.mul_comm]; exact hz), rfl, q _ I.fresh⟩
/-- ints: one of them short, or both not too long -/
def CMulD (i j : Int) : Prop := mulOk i j = true
theorem CMulD.ok {i j : Int} (h : CMulD i j) : IntMulOk i j := by
  unfold CMulD mulOk at h
  simp only [Bool.or_eq_true, decide_eq_true_eq] at h
  rcases h with (h | h) | h
  · exact CMulW.ok h
  · exact .of_left (intBits_le_64 (by omega) (by omega))
  · exact .of_right (intBits_le_64 (by omega) (by omega))
theorem op_mulD : OpR X (binaryOp .Mult) (rI CMulD fun i j => .int (i * j)) := opI fun _ _ _ _ _ _ _ hc q => mul_int q hc.ok
end
section
variable {G : CT} {ts : List Addr} {H H' : Hp} {T T' : Tl} {ws ws' : List (List Addr)} {g : Md} {ρ : Rho} {σ : L2.St}
variable {t : Tb} {C : Calls} {X : Cx} {mc : Mc} {k : Nat}
theorem line6 : (1000000 : Nat) ≤ sizeLine := by rw [sizeLine_eq]; decide
theorem lenOk_le {n : Nat} (h : lenOk n = true) : n ≤ 1000000 := of_decide_eq_true h
theorem Fz.int' {N : Sets} {i : Int} {v : V} (h : Fz G H N (.int i) v) : v = .int i := by cases h; rfl
theorem Fz.bl' {N : Sets} {i : Bool} {v : V} (h : Fz G H N (.bl i) v) : v = .bl i := by cases h; rfl
theorem Fz.str' {N : Sets} {i : Str} {v : V} (h : Fz G H N (.str i) v) : v = .str i := by cases h; rfl
theorem Fz.tup' {N : Sets} {ds : List D} {v : V} (h : Fz G H N (.tup ds) v) : ∃ a xs, v = .ref a ∧ SqT G.K H a xs ∧ FzA G H N ds xs := by cases h with | tup h a => exact ⟨_, _, rfl, h, a⟩
/-- a list of values, to read -/
theorem SeqR.lst' {N B : Sets} {ds : List D} {v : V} (h : SeqR G H N B .z (.lst ds) v) : ∃ a xs, v = .ref a ∧ SqL G.K H a xs ∧ FzA G H N ds xs := by
  obtain ⟨a, xs, ds', rfl, h, l, q⟩ := h
  rcases h with ⟨e, _⟩ | ⟨e, h⟩
  · cases e
  · cases e
    refine ⟨a, xs, rfl, h, ?_⟩
    have key : ∀ (ds : List D) (xs : List V), ds.length = xs.length → (∀ (i : Nat) d' v', ds[i]? = some d' → xs[i]? = some v' → Rp G H N B true .z d' v' []) → FzA G H N ds xs := by
      intro ds
      induction ds with
      | nil => intro xs hl _; cases xs with
        | nil => exact .nil
        | cons => simp at hl
      | cons d ds ih =>
        intro xs hl q
        cases xs with
        | nil => simp at hl
        | cons x xs => exact .cons (q 0 d x rfl rfl).z_fz (ih xs (by simpa using hl) fun i d' v' e1 e2 => q (i + 1) d' v' (by simpa using e1) (by simpa using e2))
    exact key ds xs l q
theorem FzA.rep {N : Sets} {ds : List D} {xs : List V} (h : FzA G H N ds xs) : ∀ n : Nat, FzA G H N (List.replicate n ds).flatten (List.replicate n xs).flatten
  | 0 => .nil
  | n + 1 => by rw [List.replicate_succ, List.replicate_succ, List.flatten_cons, List.flatten_cons]; exact h.append (h.rep n)
theorem lz_rd {m : M} (h : lz m = true) : rdM m = some .z := by
  unfold lz at h
  split at h
  · assumption
  · cases h
def o2Ok (o : O2) (ma mb m : M) : Prop := match o with
  | .cat => lz ma = true ∧ lz mb = true ∧ m = .L .z
  | .rep => lz ma = true ∧ mb.fzb = true ∧ m = .L .z
  | _ => ma.fzb = true ∧ mb.fzb = true ∧ m = .z
/-- the operator on values, by its rule -/
theorem sd_o2 {o : O2} {a b : E} {l r : Expr} {pos : Pos} (hK : X.K = G.K) (ha : PE X l (RE t G ts C a)) (hb : PE X r (RE t G ts C b)) : PE X (.BinOp l (opB o) r pos) (RE t G ts C (.o2 o a b)) := by
  have split : ∀ {σ : L2.St} {H : Hp} {Q : VK}, RE t G ts C (.o2 o a b) σ H Q → ∃ (T : Tl) (ws : List (List Addr)) (g : Md) (ρ : Rho) (ma mb m : M) (g1 g2 : Md) (x y d : D) (ρ1 ρ2 : Rho),
      ck t a g = some (ma, g1) ∧ ck t b g1 = some (mb, g2) ∧ ev C a ρ = some (x, ρ1) ∧ ev C b ρ1 = some (y, ρ2) ∧ EnvOk G ts H T ws g ρ σ ∧ o2D o x y = some d ∧ Post G ts H T ws.flatten g2 ρ2 σ m d Q ∧
      o2Ok o ma mb m := by
    rintro σ H Q ⟨T, ws, g, ρ, m, g', d, ρ', hc, he, env, p⟩
    simp only [ck, ev] at hc he
    split at hc
    · rename_i ma g1 e1
      split at hc
      · rename_i mb g2 e2
        split at he
        · rename_i x ρ1 e3
          split at he
          · rename_i y ρ2 e4
            rw [Option.map_eq_some_iff] at he
            obtain ⟨z, hz, ez⟩ := he
            cases ez
            refine ⟨T, ws, g, ρ, ma, mb, m, g1, g2, x, y, d, ρ1, _, e1, e2, e3, e4, env, hz, ?_, ?_⟩
            · cases o <;> simp only at hc <;> split at hc <;> first | (cases hc; exact p) | cases hc
            · cases o <;> simp only at hc <;> split at hc <;> first | (cases hc; rename_i hh; rw [Bool.and_eq_true] at hh; exact ⟨hh.1, hh.2, rfl⟩) | cases hc
          · cases he
        · cases he
      · cases hc
    · cases hc
  have arith : ∀ {op : Operator} {Cd : Int → Int → Prop} {f : Int → Int → Int}, OpR X (binaryOp op) (rI Cd fun i j => .int (f i j)) → opB o = op → (∀ x y d, o2D o x y = some d → ∃ i j, x = .int i ∧ y = .int j ∧ d = .int (f i j) ∧ Cd i j) →
      (∀ (ma mb m : M), o2Ok o ma mb m → ma.fzb = true ∧ mb.fzb = true ∧ m = .z) → PE X (.BinOp l (opB o) r pos) (RE t G ts C (.o2 o a b)) := by
    intro op Cd f hop e hd hm
    subst e
    refine PE.of (pe_op hop ha hb) fun σ H Q h => ?_
    obtain ⟨T, ws, g, ρ, ma, mb, m, g1, g2, x, y, d, ρ1, ρ2, e1, e2, e3, e4, env, hz, p, hmm⟩ := split h
    obtain ⟨f1, f2, rfl⟩ := hm ma mb m hmm
    obtain ⟨i, j, rfl, rfl, rfl, hcd⟩ := hd x y d hz
    refine RE.bin e1 e2 e3 e4 env fun v1 v2 H2 w1 w2 ws2 w => ?_
    exact ⟨i, j, (w.f1 f1).int', (w.f2 f2).int', hcd, p.fz w.stp w.env0 (.int _)⟩
  cases o with
  | add =>
    refine PE.of (pe_op ((op_add.or op_catA).or op_add_str) ha hb) fun σ H Q h => ?_
    obtain ⟨T, ws, g, ρ, ma, mb, m, g1, g2, x, y, d, ρ1, ρ2, e1, e2, e3, e4, env, hz, p, f1, f2, rfl⟩ := split h
    refine RE.bin e1 e2 e3 e4 env fun v1 v2 H2 w1 w2 ws2 w => ?_
    have r1 := w.f1 f1
    have r2 := w.f2 f2
    cases x <;> cases y <;> simp only [o2D] at hz <;> try cases hz
    · rename_i i j
      exact .inl (.inl ⟨i, j, r1.int', r2.int', p.fz w.stp w.env0 (.int _)⟩)
    · rename_i x y
      split at hz
      · rename_i hh
        cases hz
        exact .inr ⟨x, y, r1.str', r2.str', Nat.le_trans (lenOk_le hh) line6, p.fz w.stp w.env0 (.str _)⟩
      · cases hz
    · rename_i xs ys
      split at hz
      · rename_i hh
        cases hz
        obtain ⟨a1, us, rfl, s1, q1⟩ := r1.tup'
        obtain ⟨a2, us2, rfl, s2, q2⟩ := r2.tup'
        have h6 := lenOk_le hh
        refine .inl (.inr ⟨a1, a2, us, us2, rfl, rfl, by rw [hK]; exact s1, by rw [hK]; exact s2, by rw [← q1.length, ← q2.length]; exact Nat.le_trans h6 line6, fun e => ?_, fun _ e => ?_, fun _ _ q hq => p.newT w.stp w.env0 (q1.append q2) q hq⟩)
        · subst e
          have : xs = [] := by cases q1; rfl
          subst this
          exact p.fz w.stp w.env0 r2
        · subst e
          have : ys = [] := by cases q2; rfl
          subst this
          rw [List.append_nil] at p
          exact p.fz w.stp w.env0 r1
      · cases hz
  | sub =>
    refine PE.of (pe_op op_sub ha hb) fun σ H Q h => ?_
    obtain ⟨T, ws, g, ρ, ma, mb, m, g1, g2, x, y, d, ρ1, ρ2, e1, e2, e3, e4, env, hz, p, f1, f2, rfl⟩ := split h
    refine RE.bin e1 e2 e3 e4 env fun v1 v2 H2 w1 w2 ws2 w => ?_
    cases x <;> cases y <;> simp only [o2D] at hz <;> try cases hz
    rename_i i j
    exact ⟨i, j, (w.f1 f1).int', (w.f2 f2).int', p.fz w.stp w.env0 (.int _)⟩
  | mul =>
    refine arith op_mulD rfl (fun x y d h => ?_) fun ma mb m h => h
    cases x <;> cases y <;> simp only [o2D] at h <;> try cases h
    split at h
    · cases h; exact ⟨_, _, rfl, rfl, rfl, by assumption⟩
    · cases h
  | fdiv =>
    refine arith op_fdivW rfl (fun x y d h => ?_) fun ma mb m h => h
    cases x <;> cases y <;> simp only [o2D] at h <;> try cases h
    split at h
    · rename_i hh
      cases h
      simp only [Bool.and_eq_true, decide_eq_true_eq] at hh
      exact ⟨_, _, rfl, rfl, rfl, hh⟩
    · cases h
  | mod =>
    refine arith op_mod rfl (fun x y d h => ?_) fun ma mb m h => h
    cases x <;> cases y <;> simp only [o2D] at h <;> try cases h
    split at h
    · cases h; exact ⟨_, _, rfl, rfl, rfl, by assumption⟩
    · cases h
  | cat =>
    refine PE.of (pe_op op_catS ha hb) fun σ H Q h => ?_
    obtain ⟨T, ws, g, ρ, ma, mb, m, g1, g2, x, y, d, ρ1, ρ2, e1, e2, e3, e4, env, hz, p, f1, f2, rfl⟩ := split h
    refine RE.bin e1 e2 e3 e4 env fun v1 v2 H2 w1 w2 ws2 w => ?_
    cases x <;> cases y <;> simp only [o2D] at hz <;> try cases hz
    rename_i xs ys
    split at hz
    · rename_i hh
      cases hz
      obtain ⟨a1, us, rfl, s1, q1⟩ := (w.s1 (lz_rd f1) rfl).lst'
      obtain ⟨a2, us2, rfl, s2, q2⟩ := (w.s2 (lz_rd f2) rfl).lst'
      exact ⟨a1, a2, us, us2, rfl, rfl, by rw [hK]; exact s1, by rw [hK]; exact s2, by rw [← q1.length, ← q2.length]; exact Nat.le_trans (lenOk_le hh) line6, fun q hq => p.newL w.stp w.env0 (q1.append q2) q hq⟩
    · cases hz
  | rep =>
    refine PE.of (pe_op op_repS ha hb) fun σ H Q h => ?_
    obtain ⟨T, ws, g, ρ, ma, mb, m, g1, g2, x, y, d, ρ1, ρ2, e1, e2, e3, e4, env, hz, p, f1, f2, rfl⟩ := split h
    refine RE.bin e1 e2 e3 e4 env fun v1 v2 H2 w1 w2 ws2 w => ?_
    cases x <;> cases y <;> simp only [o2D] at hz <;> try cases hz
    rename_i xs n
    split at hz
    · rename_i hh
      cases hz
      obtain ⟨a1, us, rfl, s1, q1⟩ := (w.s1 (lz_rd f1) rfl).lst'
      simp only [Bool.and_eq_true, decide_eq_true_eq] at hh
      obtain ⟨h1, h2, h3⟩ := hh
      exact ⟨a1, n, us, rfl, (w.f2 f2).int', by rw [hK]; exact s1, by omega, by omega, by rw [← q1.length]; exact Nat.le_trans (lenOk_le h1) line6, fun q hq => p.newL w.stp w.env0 (q1.rep n.toNat) q hq⟩
    · cases hz
  | repT =>
    refine PE.of (pe_op op_rowRep ha hb) fun σ H Q h => ?_
    obtain ⟨T, ws, g, ρ, ma, mb, m, g1, g2, x, y, d, ρ1, ρ2, e1, e2, e3, e4, env, hz, p, f1, f2, rfl⟩ := split h
    refine RE.bin e1 e2 e3 e4 env fun v1 v2 H2 w1 w2 ws2 w => ?_
    cases x <;> cases y <;> simp only [o2D] at hz <;> try cases hz
    rename_i xs n
    split at hz
    · rename_i hh
      cases hz
      obtain ⟨a1, us, rfl, s1, q1⟩ := (w.f1 f1).tup'
      simp only [Bool.and_eq_true, decide_eq_true_eq] at hh
      obtain ⟨h1, h2, h3⟩ := hh
      refine ⟨a1, n, us, rfl, (w.f2 f2).int', by rw [hK]; exact s1, h2, h3, by rw [← q1.length]; exact h1, fun e => ?_, fun _ _ q hq => p.newT w.stp w.env0 (q1.rep n.toNat) q hq⟩
      have e' : (List.replicate n.toNat xs).flatten = xs := by
        rcases e with rfl | rfl
        · simp [List.replicate]
        · have : xs = [] := by cases q1; rfl
          subst this
          simp
      rw [e'] at p
      exact p.fz w.stp w.env0 (.tup s1 q1)
    · cases hz
end
end DI
end
section
set_option Elab.async false
set_option linter.all false
set_option maxRecDepth 100000
/-! Soundness of expressions, part 4: signs, comparisons, tests. -/
namespace DI
open PySem PySem.Spec L2
section
variable {G : CT} {ts : List Addr} {H H' : Hp} {T T' : Tl} {ws ws' : List (List Addr)} {g : Md} {ρ : Rho} {σ : St}
variable {t : Tb} {C : Calls} {X : Cx} {mc : Mc} {k : Nat}
/-- the reading of a test -/
def RT (t : Tb) (G : CT) (ts : List Addr) (C : Calls) (e : E) : TT := fun σ H Q =>
  ∃ (T : Tl) (ws : List (List Addr)) (g : Md) (ρ : Rho) (m : M) (g' : Md) (b : Bool) (ρ' : Rho), ck t e g = some (m, g') ∧ m.fzb = true ∧ ev C e ρ = some (.bl b, ρ') ∧ EnvOk G ts H T ws g ρ σ ∧
    ∀ H' ws', Stp H ws.flatten H' ws'.flatten → EnvOk G ts H' T ws' g' ρ' σ → Q b H'
theorem RT.re {e : E} {Q : Bool → Hp → Prop} (h : RT t G ts C e σ H Q) : RE t G ts C e σ H fun x H1 => ∃ c, x = .bl c ∧ Q c H1 := by
  obtain ⟨T, ws, g, ρ, m, g', b, ρ', h1, h2, h3, env, p⟩ := h
  refine ⟨T, ws, g, ρ, m, g', _, ρ', h1, h3, env, fun v H' w ws' st env' r _ _ => ?_⟩
  obtain ⟨rfl, rfl⟩ := r.isBl b rfl
  exact ⟨b, rfl, p H' ws' (by simpa using st) (env'.less fun a z => .inl z)⟩
theorem PT.ofV {x : Expr} {e : E} (h : PE X x (RE t G ts C e)) (he : ∀ whole, isTrue x X.env whole = (do let v ← whole; standAt x.pos; holding [v] (truthy v))) : PT X x (RT t G ts C e) :=
  PT.of (pt_val h he) fun σ H Q q => q.re
/-- one value reckoned -/
theorem RE.un {a : E} {ma : M} {g1 : Md} {x : D} {ρ1 : Rho} {R : V → Hp → Prop} (hca : ck t a g = some (ma, g1)) (hea : ev C a ρ = some (x, ρ1)) (env : EnvOk G ts H T ws g ρ σ)
    (k : ∀ v1 H1 w1 ws1, Stp H ws.flatten H1 (w1 ++ ws1.flatten) → EnvOk G ts H1 (uni T w1) ws1 g1 ρ1 σ → Rt G H1 (uni (uni T w1) ws1.flatten) ma x v1 w1 → w1.Nodup → (∀ a ∈ w1, ¬ T a) → R v1 H1) : RE t G ts C a σ H R :=
  ⟨T, ws, g, ρ, ma, g1, x, ρ1, hca, hea, env, k⟩
theorem sd_neg {a : E} {l : Expr} {pos : Pos} (ha : PE X l (RE t G ts C a)) : PE X (.UnaryOp .USub l pos) (RE t G ts C (.neg a)) := by
  refine PE.of (pe_un un_neg ha) ?_
  rintro σ H Q ⟨T, ws, g, ρ, m, g', d, ρ', hc, he, env, p⟩
  simp only [ck, ev] at hc he
  split at hc
  · rename_i ma g1 e1
    split at hc
    · rename_i f1
      cases hc
      split at he
      · rename_i i ρ1 e2
        cases he
        refine RE.un e1 e2 env fun v1 H1 w1 ws1 st env1 r n1 d1 => ?_
        obtain ⟨rfl, rfl⟩ := r.isInt i rfl
        exact ⟨i, rfl, p.fz (by simpa using st) (env1.less fun a z => .inl z) (.int _)⟩
      · cases he
    · cases hc
  · cases hc
theorem nt_parts {a : E} {m : M} {g' : Md} {d : D} {ρ' : Rho} (hc : ck t (.nt a) g = some (m, g')) (he : ev C (.nt a) ρ = some (d, ρ')) : ∃ ma b, ck t a g = some (ma, g') ∧ ma.fzb = true ∧ m = .z ∧ ev C a ρ = some (.bl b, ρ') ∧ d = .bl (!b) := by
  simp only [ck, ev] at hc he
  split at hc
  · rename_i ma g1 e1
    split at hc
    · rename_i f1
      cases hc
      split at he
      · rename_i b ρ1 e2
        cases he
        exact ⟨ma, b, e1, f1, rfl, e2, rfl⟩
      · cases he
    · cases hc
  · cases hc
theorem sd_nt {a : E} {l : Expr} {pos : Pos} (ha : PE X l (RE t G ts C a)) : PE X (.UnaryOp .Not l pos) (RE t G ts C (.nt a)) := by
  refine PE.of (pe_not ha) ?_
  rintro σ H Q ⟨T, ws, g, ρ, m, g', d, ρ', hc, he, env, p⟩
  obtain ⟨ma, b, e1, f1, rfl, e2, rfl⟩ := nt_parts hc he
  refine RE.un e1 e2 env fun v1 H1 w1 ws1 st env1 r n1 d1 => ?_
  obtain ⟨rfl, rfl⟩ := r.isBl b rfl
  exact ⟨b, rfl, p.fz (by simpa using st) (env1.less fun a z => .inl z) (.bl _)⟩
theorem sd_ntT {a : E} {l : Expr} {pos : Pos} (ha : PT X l (RT t G ts C a)) : PT X (.UnaryOp .Not l pos) (RT t G ts C (.nt a)) := by
  refine PT.of (pt_not ha) ?_
  rintro σ H Q ⟨T, ws, g, ρ, m, g', b, ρ', hc, hf, he, env, p⟩
  obtain ⟨ma, b', e1, f1, rfl, e2, e3⟩ := nt_parts hc he
  cases e3
  exact ⟨T, ws, g, ρ, ma, g', b', ρ', e1, f1, e2, env, p⟩
/-! ### and, or -/
theorem an_parts {a b : E} {m : M} {g' : Md} {d : D} {ρ' : Rho} (hc : ck t (.an a b) g = some (m, g')) (he : ev C (.an a b) ρ = some (d, ρ')) :
    ∃ ma mb, ck t a g = some (ma, g') ∧ ck t b g' = some (mb, g') ∧ ma.fzb = true ∧ mb.fzb = true ∧ m = .z ∧ ((ev C a ρ = some (.bl false, ρ') ∧ d = .bl false) ∨ ∃ ρ1 y, ev C a ρ = some (.bl true, ρ1) ∧ ev C b ρ1 = some (.bl y, ρ') ∧ d = .bl y) := by
  simp only [ck, ev] at hc he
  split at hc
  · rename_i ma g1 e1
    split at hc
    · rename_i mb g2 e2
      split at hc
      · rename_i f
        cases hc
        simp only [Bool.and_eq_true, decide_eq_true_eq] at f
        obtain ⟨⟨f1, f2⟩, rfl⟩ := f
        refine ⟨ma, mb, e1, e2, f1, f2, rfl, ?_⟩
        split at he
        · rename_i ρ1 e3
          split at he
          · rename_i y ρ2 e4
            cases he
            exact .inr ⟨_, y, e3, e4, rfl⟩
          · cases he
        · rename_i ρ1 e3
          cases he
          exact .inl ⟨e3, rfl⟩
        · cases he
      · cases hc
    · cases hc
  · cases hc
theorem orr_parts {a b : E} {m : M} {g' : Md} {d : D} {ρ' : Rho} (hc : ck t (.orr a b) g = some (m, g')) (he : ev C (.orr a b) ρ = some (d, ρ')) :
    ∃ ma mb, ck t a g = some (ma, g') ∧ ck t b g' = some (mb, g') ∧ ma.fzb = true ∧ mb.fzb = true ∧ m = .z ∧ ((ev C a ρ = some (.bl true, ρ') ∧ d = .bl true) ∨ ∃ ρ1 y, ev C a ρ = some (.bl false, ρ1) ∧ ev C b ρ1 = some (.bl y, ρ') ∧ d = .bl y) := by
  simp only [ck, ev] at hc he
  split at hc
  · rename_i ma g1 e1
    split at hc
    · rename_i mb g2 e2
      split at hc
      · rename_i f
        cases hc
        simp only [Bool.and_eq_true, decide_eq_true_eq] at f
        obtain ⟨⟨f1, f2⟩, rfl⟩ := f
        refine ⟨ma, mb, e1, e2, f1, f2, rfl, ?_⟩
        split at he
        · rename_i ρ1 e3
          split at he
          · rename_i y ρ2 e4
            cases he
            exact .inr ⟨_, y, e3, e4, rfl⟩
          · cases he
        · rename_i ρ1 e3
          cases he
          exact .inl ⟨e3, rfl⟩
        · cases he
      · cases hc
    · cases hc
  · cases hc
theorem sd_an {a b : E} {x y : Expr} {r : List Expr} {pos : Pos} (ha : PE X x (RE t G ts C a)) (hb : PE X (.BoolOp .And (y :: r) pos) (RE t G ts C b)) : PE X (.BoolOp .And (x :: y :: r) pos) (RE t G ts C (.an a b)) := by
  refine PE.of (pe_and ha hb) ?_
  rintro σ H Q ⟨T, ws, g, ρ, m, g', d, ρ', hc, he, env, p⟩
  obtain ⟨ma, mb, e1, e2, f1, f2, rfl, ⟨e3, rfl⟩ | ⟨ρ1, y, e3, e4, rfl⟩⟩ := an_parts hc he
  · refine RE.un e1 e3 env fun v1 H1 w1 ws1 st env1 rr n1 d1 => ?_
    obtain ⟨rfl, rfl⟩ := rr.isBl _ rfl
    exact ⟨false, rfl, p.fz (by simpa using st) (env1.less fun a z => .inl z) (.bl _)⟩
  · refine RE.un e1 e3 env fun v1 H1 w1 ws1 st env1 rr n1 d1 => ?_
    obtain ⟨rfl, rfl⟩ := rr.isBl _ rfl
    refine ⟨true, rfl, ⟨T, ws1, g', ρ1, mb, g', _, ρ', e2, e4, env1.less fun a z => .inl z, fun v2 H2 w2 ws2 st2 env2 r2 n2 d2 => ?_⟩⟩
    obtain ⟨rfl, rfl⟩ := r2.isBl _ rfl
    exact p.fz (Stp.trans st.drop1 (fun x z => z) st2.drop1) (env2.less fun a z => .inl z) (.bl _)
theorem sd_orr {a b : E} {x y : Expr} {r : List Expr} {pos : Pos} (ha : PE X x (RE t G ts C a)) (hb : PE X (.BoolOp .Or (y :: r) pos) (RE t G ts C b)) : PE X (.BoolOp .Or (x :: y :: r) pos) (RE t G ts C (.orr a b)) := by
  refine PE.of (pe_or ha hb) ?_
  rintro σ H Q ⟨T, ws, g, ρ, m, g', d, ρ', hc, he, env, p⟩
  obtain ⟨ma, mb, e1, e2, f1, f2, rfl, ⟨e3, rfl⟩ | ⟨ρ1, y, e3, e4, rfl⟩⟩ := orr_parts hc he
  · refine RE.un e1 e3 env fun v1 H1 w1 ws1 st env1 rr n1 d1 => ?_
    obtain ⟨rfl, rfl⟩ := rr.isBl _ rfl
    exact ⟨true, rfl, p.fz (by simpa using st) (env1.less fun a z => .inl z) (.bl _)⟩
  · refine RE.un e1 e3 env fun v1 H1 w1 ws1 st env1 rr n1 d1 => ?_
    obtain ⟨rfl, rfl⟩ := rr.isBl _ rfl
    refine ⟨false, rfl, ⟨T, ws1, g', ρ1, mb, g', _, ρ', e2, e4, env1.less fun a z => .inl z, fun v2 H2 w2 ws2 st2 env2 r2 n2 d2 => ?_⟩⟩
    obtain ⟨rfl, rfl⟩ := r2.isBl _ rfl
    exact p.fz (Stp.trans st.drop1 (fun x z => z) st2.drop1) (env2.less fun a z => .inl z) (.bl _)
theorem sd_anT {a b : E} {x y : Expr} {r : List Expr} {pos : Pos} (ha : PT X x (RT t G ts C a)) (hb : PW X (.BoolOp .And (y :: r) pos) (RT t G ts C b)) : PW X (.BoolOp .And (x :: y :: r) pos) (RT t G ts C (.an a b)) := by
  refine ⟨fun wh pins s σ H Q I h => (pw_and ha hb).run wh pins s σ H Q I ?_⟩
  obtain ⟨T, ws, g, ρ, m, g', bb, ρ', hc, hf, he, env, p⟩ := h
  obtain ⟨ma, mb, e1, e2, f1, f2, rfl, ⟨e3, e⟩ | ⟨ρ1, y, e3, e4, e⟩⟩ := an_parts hc he
  · cases e
    exact ⟨T, ws, g, ρ, ma, g', _, ρ', e1, f1, e3, env, fun H1 ws1 st env1 => p H1 ws1 st env1⟩
  · cases e
    exact ⟨T, ws, g, ρ, ma, g', _, ρ1, e1, f1, e3, env, fun H1 ws1 st env1 => ⟨T, ws1, g', ρ1, mb, g', _, ρ', e2, f2, e4, env1, fun H2 ws2 st2 env2 => p H2 ws2 (Stp.trans st (fun x z => z) st2) env2⟩⟩
theorem sd_orrT {a b : E} {x y : Expr} {r : List Expr} {pos : Pos} (ha : PT X x (RT t G ts C a)) (hb : PW X (.BoolOp .Or (y :: r) pos) (RT t G ts C b)) : PW X (.BoolOp .Or (x :: y :: r) pos) (RT t G ts C (.orr a b)) := by
  refine ⟨fun wh pins s σ H Q I h => (pw_or ha hb).run wh pins s σ H Q I ?_⟩
  obtain ⟨T, ws, g, ρ, m, g', bb, ρ', hc, hf, he, env, p⟩ := h
  obtain ⟨ma, mb, e1, e2, f1, f2, rfl, ⟨e3, e⟩ | ⟨ρ1, y, e3, e4, e⟩⟩ := orr_parts hc he
  · cases e
    exact ⟨T, ws, g, ρ, ma, g', _, ρ', e1, f1, e3, env, fun H1 ws1 st env1 => p H1 ws1 st env1⟩
  · cases e
    exact ⟨T, ws, g, ρ, ma, g', _, ρ1, e1, f1, e3, env, fun H1 ws1 st env1 => ⟨T, ws1, g', ρ1, mb, g', _, ρ', e2, f2, e4, env1, fun H2 ws2 st2 env2 => p H2 ws2 (Stp.trans st (fun x z => z) st2) env2⟩⟩
/-- a if c else b -/
theorem sd_ite {c a b : E} {x y z : Expr} {pos : Pos} (hc0 : PT X x (RT t G ts C c)) (ha : PE X y (RE t G ts C a)) (hb : PE X z (RE t G ts C b)) : PE X (.IfExp x y z pos) (RE t G ts C (.ite c a b)) := by
  refine PE.of (pe_ifExp hc0 ha hb) ?_
  rintro σ H Q ⟨T, ws, g, ρ, m, g', d, ρ', hc, he, env, p⟩
  simp only [ck, ev] at hc he
  split at hc
  · rename_i mc g1 e1
    split at hc
    · rename_i ma g2 e2
      split at hc
      · rename_i mb g3 e3
        split at hc
        · rename_i f
          simp only [Bool.and_eq_true, decide_eq_true_eq] at f
          obtain ⟨f1, rfl⟩ := f
          have gm : g' = g3 ∧ (ma = m ∨ (ma.fzb = true ∧ m = .z)) ∧ (mb = m ∨ (mb.fzb = true ∧ m = .z)) := by
            split at hc
            · rename_i e; cases hc; exact ⟨rfl, .inl rfl, .inl e.symm⟩
            · split at hc
              · rename_i f2
                cases hc
                rw [Bool.and_eq_true] at f2
                exact ⟨rfl, .inr ⟨f2.1, rfl⟩, .inr ⟨f2.2, rfl⟩⟩
              · cases hc
          obtain ⟨rfl, k1, k2⟩ := gm
          have fin : ∀ {m0 : M} {e : E} {ρ1 : Rho}, ck t e g1 = some (m0, g') → ev C e ρ1 = some (d, ρ') → (m0 = m ∨ (m0.fzb = true ∧ m = .z)) → ∀ H1 ws1, Stp H ws.flatten H1 ws1.flatten → EnvOk G ts H1 T ws1 g1 ρ1 σ → RE t G ts C e σ H1 Q := by
            intro m0 e ρ1 k1 k2 k3 H1 ws1 st env1
            refine ⟨T, ws1, g1, ρ1, m0, g', d, ρ', k1, k2, env1, fun v2 H2 w2 ws2 st2 env2 r2 n2 d2 => ?_⟩
            rcases k3 with rfl | ⟨k3, rfl⟩
            · exact p v2 H2 w2 ws2 (Stp.trans st (fun x z => z) st2) env2 r2 n2 d2
            · exact p.fz (Stp.trans st (fun x z => z) st2.drop1) (env2.less fun a z => .inl z) (r2.freeze k3 (fun a z => z.imp .inl id) fun a ha z => z.elim (d2 a ha) fun q => env2.dj a q (.inr ha))
          split at he
          · rename_i ρ1 e4
            exact ⟨T, ws, g, ρ, mc, g1, true, ρ1, e1, f1, e4, env, fun H1 ws1 st env1 => iteT (fin e2 he k1 H1 ws1 st env1)⟩
          · rename_i ρ1 e4
            exact ⟨T, ws, g, ρ, mc, g1, false, ρ1, e1, f1, e4, env, fun H1 ws1 st env1 => iteF (fin e3 he k2 H1 ws1 st env1)⟩
          · cases he
        · cases hc
      · cases hc
    · cases hc
  · cases hc
end
end DI
end
section
set_option Elab.async false
set_option linter.all false
set_option maxRecDepth 100000
/-! Soundness of expressions, part 5: comparisons. -/
namespace DI
open PySem PySem.Spec L2
section
variable {G : CT} {ts : List Addr} {H H' : Hp} {T T' : Tl} {ws ws' : List (List Addr)} {g : Md} {ρ : Rho} {σ : St}
variable {t : Tb} {C : Calls} {X : Cx} {mc : Mc} {k : Nat}
mutual
theorem Fz.dp {N : Sets} : ∀ {d : D} {v : V}, Fz G H N d v → lay d = true → Dp G.K H v (toPy d)
  | _, _, .non, _ => by simp only [toPy]; exact .non
  | _, _, .bl b, _ => by simp only [toPy]; exact .bl b
  | _, _, .int i, _ => by simp only [toPy]; exact .int i
  | _, _, .str x, _ => by simp only [toPy]; exact .str x
  | _, _, .tup h a, l => by simp only [toPy]; exact .tup h (FzA.dp a (by simpa [lay] using l))
  | _, _, .lst h _ a, l => by simp only [toPy]; exact .lst (.inl h) (FzA.dp a (by simpa [lay] using l))
  | _, _, .lstK h a, l => by simp only [toPy]; exact .lst (h H) (FzA.dp a (by simpa [lay] using l))
  | _, _, .dct h _, l => by simp [lay] at l
theorem FzA.dp {N : Sets} : ∀ {ds : List D} {vs : List V}, FzA G H N ds vs → layA ds = true → DpAll G.K H vs (toPyA ds)
  | _, _, .nil, _ => by simp only [toPyA]; exact .nil
  | _, _, .cons h t, l => by
    have l' := l
    simp only [layA, Bool.and_eq_true] at l'
    simp only [toPyA]; exact .cons (Fz.dp h l'.1) (FzA.dp t l'.2)
end
theorem Rp.dp {N B : Sets} {o : Bool} {m : M} {d : D} {v : V} {w : List Addr} (h : Rp G H N B o m d v w) (hm : m.rdb = true) (hl : lay d = true) : Dp G.K H v (toPy d) := by
  have hm' : m.fzb = true ∨ ∃ m', m = .w m' ∧ m'.fzb = true := by
    unfold M.rdb at hm
    rw [Bool.or_eq_true] at hm
    refine hm.imp id fun q => ?_
    split at q
    · exact ⟨_, rfl, q⟩
    · cases q
  revert hm' hl
  refine Rp.rec (motive_1 := fun o m d v w _ => lay d = true → (m.fzb = true ∨ ∃ m', m = .w m' ∧ m'.fzb = true) → Dp G.K H v (toPy d)) (motive_2 := fun o m ds vs w _ => layA ds = true → m.fzb = true → DpAll G.K H vs (toPyA ds))
    (motive_3 := fun o m ds vs w _ => layA ds = true → m.fzb = true → DpAll G.K H vs (toPyA ds)) ?_ ?_ ?_ ?_ ?_ ?_ ?_ ?_ ?_ ?_ h
  · intro o d v h l _; exact h.dp l
  · intro m d v ff h l _; exact h.dp l
  · intro o m ds a xs w h _ _ ih l f
    have f' : m.fzb = true := by
      rcases f with f | ⟨m', e, _⟩
      · exact f
      · cases e
    simp only [toPy]; exact .lst (.of h) (ih (by simpa [lay] using l) f')
  · intro o m ds a xs w h r ih l f
    have f' : m.fzb = true := by
      rcases f with f | ⟨m', e, _⟩
      · exact f
      · subst e; cases r
    simp only [toPy]; exact .tup h (ih (by simpa [lay] using l) f')
  · intro o c k ds a dx fs w _ _ _ _ _ l f
    rcases f with f | ⟨m', e, _⟩
    · cases f
    · cases e
  · intro o m d v h ih l f
    rcases f with f | ⟨m', e, f⟩
    · cases f
    · cases e; exact ih l (.inl f)
  · intro o m _ _; simp only [toPyA]; exact .nil
  · intro o m d ds v vs w1 w2 _ _ i1 i2 l f
    simp only [layA, Bool.and_eq_true] at l
    simp only [toPyA]; exact .cons (i1 l.1 (.inl f)) (i2 l.2 f)
  · intro o _ _; simp only [toPyA]; exact .nil
  · intro o m r d ds v vs w1 w2 _ _ i1 i2 l f
    simp only [layA, Bool.and_eq_true] at l
    have f' : (m.fzb && r.fzb) = true := f
    rw [Bool.and_eq_true] at f'
    simp only [toPyA]; exact .cons (i1 l.1 (.inl f'.1)) (i2 l.2 f'.2)
mutual
theorem canLay_py : ∀ d : D, lay d = true → (toPy d).canLay0 = true
  | .non, _ => by simp [toPy, PyData.canLay0]
  | .bl _, _ => by simp [toPy, PyData.canLay0]
  | .int _, _ => by simp [toPy, PyData.canLay0]
  | .str x, l => by simpa [toPy, lay] using l
  | .tup xs, l => by
    simp only [toPy, PyData.canLay0]
    exact canLayA_py xs (by simpa [lay] using l)
  | .lst xs, l => by
    simp only [toPy, PyData.canLay0]
    exact canLayA_py xs (by simpa [lay] using l)
  | .dct _, l => by simp [lay] at l
theorem canLayA_py : ∀ ds : List D, layA ds = true → PyData.canLayAll0 (toPyA ds) = true
  | [], _ => by simp [toPyA, PyData.canLayAll0]
  | d :: ds, l => by
    simp only [layA, Bool.and_eq_true] at l
    simp only [toPyA, PyData.canLayAll0, Bool.and_eq_true]
    exact ⟨canLay_py d l.1, canLayA_py ds l.2⟩
end
mutual
theorem dep_py : ∀ d : D, (toPy d).depth ≤ dep d
  | .non => by simp [toPy, PyData.depth]
  | .bl _ => by simp [toPy, PyData.depth]
  | .int _ => by simp [toPy, PyData.depth]
  | .str x => by simp [toPy, PyData.depth]
  | .tup xs => by simp only [toPy, PyData.depth, dep]; exact Nat.succ_le_succ (depA_py xs)
  | .lst xs => by simp only [toPy, PyData.depth, dep]; exact Nat.succ_le_succ (depA_py xs)
  | .dct _ => by simp [toPy, PyData.depth, PyData.depthKv, dep]
theorem depA_py : ∀ ds : List D, PyData.depthAll (toPyA ds) ≤ depA ds
  | [] => by simp [toPyA, PyData.depthAll]
  | d :: ds => by
    simp only [toPyA, PyData.depthAll, depA]
    have h1 := dep_py d
    have h2 := depA_py ds
    omega
end
theorem shaped_py {d : D} (l : lay d = true) (h : dep d ≤ 60) : SeqAt.shaped (toPy d) = true := by
  unfold SeqAt.shaped
  rw [Bool.and_eq_true]
  exact ⟨canLay_py d l, decide_eq_true (Nat.le_trans (dep_py d) (by omega))⟩
theorem toPyA_map : ∀ ds : List D, toPyA ds = ds.map toPy
  | [] => rfl
  | d :: ds => by simp only [toPyA, List.map_cons, toPyA_map ds]
/-- x in a tuple of data -/
def rInT (K : PySem.W.Frag) (neg : Bool) : R2 := fun x y H Q => ∃ d ds, Dp K H x d ∧ Dp K H y (.tuple ds) ∧ SeqAt.shaped d = true ∧ SeqAt.shaped (.tuple ds) = true ∧ Q (.bl (if neg then !ds.any fun z => PyData.eqv z d else ds.any fun z => PyData.eqv z d)) H
theorem room_inT {A : Around} {d : PyData} {ds : List PyData} (hd : SeqAt.shaped d = true) (hu : A.units + 65 < cLine) : A.units + 1 + min (PyData.depthAll ds) d.depth < cLine := by
  have h1 := SeqAt.depth_of_shaped hd
  omega
theorem op_inT {X : Cx} (hu : X.A.units + 65 < cLine) : OpR X (compareOp .In) (rInT X.K false) := by
  intro pins s σ H x y v u Q I rx ry h
  obtain ⟨d, ds, hd, he, sd, se, q⟩ := h
  obtain ⟨as, r1⟩ := Dp.reads I d x v hd rx
  obtain ⟨bs, r2⟩ := Dp.reads I (.tuple ds) y u he ry
  exact SeqAt.in_tuple_reads r2 r1 (SeqAt.canLay_of_shaped se) (SeqAt.canLay_of_shaped sd) (room_inT sd hu) ⟨.bl _, H, I, rfl, q⟩
theorem op_notInT {X : Cx} (hu : X.A.units + 65 < cLine) : OpR X (compareOp .NotIn) (rInT X.K true) := by
  intro pins s σ H x y v u Q I rx ry h
  obtain ⟨d, ds, hd, he, sd, se, q⟩ := h
  obtain ⟨as, r1⟩ := Dp.reads I d x v hd rx
  obtain ⟨bs, r2⟩ := Dp.reads I (.tuple ds) y u he ry
  exact SeqAt.notIn_tuple_reads r2 r1 (SeqAt.canLay_of_shaped se) (SeqAt.canLay_of_shaped sd) (room_inT sd hu) ⟨.bl _, H, I, rfl, q⟩
def cpR (K : PySem.W.Frag) : Cp → R2
  | .lt => rI0 fun i j => .bl (decide (i < j))
  | .le => rI0 fun i j => .bl (decide (i ≤ j))
  | .gt => rI0 fun i j => .bl (decide (j < i))
  | .ge => rI0 fun i j => .bl (decide (j ≤ i))
  | .eq => fun x y H Q => rEq x y H Q ∨ rEqD K x y H Q
  | .ne => fun x y H Q => rNe x y H Q ∨ rNeD K x y H Q
  | .isN => fun x y H Q => y = .non ∧ Q (.bl (decide (x = .non))) H
  | .notN => fun x y H Q => y = .non ∧ Q (.bl (!decide (x = .non))) H
  | .inn => fun x y H Q => rInD K x y H Q ∨ rInT K false x y H Q
  | .nin => fun x y H Q => rNotInD K x y H Q ∨ rInT K true x y H Q
theorem op_cp {X : Cx} (hu : X.A.units + 65 < cLine) : ∀ o : Cp, OpR X (compareOp (cpB o)) (cpR X.K o)
  | .lt => op_lt
  | .le => op_le
  | .gt => op_gt
  | .ge => op_ge
  | .eq => op_eq.or (op_eqD (by omega))
  | .ne => op_ne.or (op_neD (by omega))
  | .isN => op_isN
  | .notN => op_notN
  | .inn => (op_inD hu).or (op_inT hu)
  | .nin => (op_notInD hu).or (op_notInT hu)
/-- what the comparison of the deep values says holds of the machine's -/
theorem cpR_ok {N B : Sets} {o : Cp} {m1 m2 : M} {x y : D} {v1 v2 : V} {w1 w2 : List Addr} {z : Bool} {Q : VK} (r1 : Rp G H N B true m1 x v1 w1) (r2 : Rp G H N B true m2 y v2 w2) (h1 : m1.rdb = true) (h2 : m2.rdb = true) (h : cpD o x y = some z)
    (q : Q (.bl z) H) : cpR G.K o v1 v2 H Q := by
  have i2 : ∀ {f : Int → Int → Bool}, (∃ i j, x = .int i ∧ y = .int j ∧ z = f i j) → rI0 (fun i j => .bl (f i j)) v1 v2 H Q := fun {f} ⟨i, j, e1, e2, e3⟩ => by
    subst e1 e2 e3
    exact ⟨i, j, (r1.isInt i rfl).1, (r2.isInt j rfl).1, q⟩
  have eqs : ∀ {z' : Bool}, eqD x y = some z' → (scal v1 v2 = true ∧ z' = decide (v1 = v2)) ∨ (lay x = true ∧ lay y = true ∧ dep x ≤ 60 ∧ dep y ≤ 60 ∧ z' = PyData.eqv (toPy x) (toPy y)) := fun {z'} h => by
    have gen : (if lay x && lay y && (decide (dep x ≤ 60) && decide (dep y ≤ 60)) then some (PySem.PyData.eqv (toPy x) (toPy y)) else none) = some z' → lay x = true ∧ lay y = true ∧ dep x ≤ 60 ∧ dep y ≤ 60 ∧ z' = PyData.eqv (toPy x) (toPy y) := fun h => by
      split at h
      · rename_i hh
        cases h
        simp only [Bool.and_eq_true, decide_eq_true_eq] at hh
        exact ⟨hh.1.1, hh.1.2, hh.2.1, hh.2.2, rfl⟩
      · cases h
    cases x <;> cases y <;> first
      | exact .inr (gen h)
      | (cases h; rw [(r1.isInt _ rfl).1, (r2.isInt _ rfl).1]; exact .inl ⟨rfl, by simp⟩)
      | (cases h; rw [(r1.isBl _ rfl).1, (r2.isBl _ rfl).1]; exact .inl ⟨rfl, by simp⟩)
      | (cases h; rw [(r1.isStr _ rfl).1, (r2.isStr _ rfl).1]; exact .inl ⟨rfl, by simp⟩)
  cases o with
  | lt =>
    refine i2 ?_
    cases x <;> cases y <;> simp only [cpD] at h <;> try cases h
    exact ⟨_, _, rfl, rfl, rfl⟩
  | le =>
    refine i2 ?_
    cases x <;> cases y <;> simp only [cpD] at h <;> try cases h
    exact ⟨_, _, rfl, rfl, rfl⟩
  | gt =>
    refine i2 ?_
    cases x <;> cases y <;> simp only [cpD] at h <;> try cases h
    exact ⟨_, _, rfl, rfl, rfl⟩
  | ge =>
    refine i2 ?_
    cases x <;> cases y <;> simp only [cpD] at h <;> try cases h
    exact ⟨_, _, rfl, rfl, rfl⟩
  | eq =>
    rcases eqs (show eqD x y = some z from h) with ⟨s, e⟩ | ⟨l1, l2, d1, d2, e⟩
    · exact .inl ⟨s, by rw [← e]; exact q⟩
    · exact .inr ⟨_, _, r1.dp h1 l1, r2.dp h2 l2, shaped_py l1 d1, shaped_py l2 d2, by rw [← e]; exact q⟩
  | ne =>
    have h' : (eqD x y).map (!·) = some z := h
    rw [Option.map_eq_some_iff] at h'
    obtain ⟨z', hz, rfl⟩ := h'
    rcases eqs hz with ⟨s, e⟩ | ⟨l1, l2, d1, d2, e⟩
    · exact .inl ⟨s, by rw [← e]; exact q⟩
    · exact .inr ⟨_, _, r1.dp h1 l1, r2.dp h2 l2, shaped_py l1 d1, shaped_py l2 d2, by rw [← e]; exact q⟩
  | isN =>
    have e2 : y = .non := by cases y <;> first | rfl | (simp [cpD] at h)
    subst e2
    refine ⟨(r2.isNon rfl).1, ?_⟩
    have k := r1.nonIff
    have e : decide (v1 = .non) = z := by
      simp only [cpD] at h
      split at h
      · cases h; exact decide_eq_true (k.mpr rfl)
      · rename_i hne
        cases h; exact decide_eq_false fun e => hne (k.mp e)
    rw [e]; exact q
  | notN =>
    have e2 : y = .non := by cases y <;> first | rfl | (simp [cpD] at h)
    subst e2
    refine ⟨(r2.isNon rfl).1, ?_⟩
    have k := r1.nonIff
    have e : (!decide (v1 = .non)) = z := by
      simp only [cpD] at h
      split at h
      · cases h; rw [decide_eq_true (k.mpr rfl)]; rfl
      · rename_i hne
        cases h; rw [decide_eq_false fun e => hne (k.mp e)]; rfl
    rw [e]; exact q
  | inn =>
    have h' : inD x y = some z := h
    unfold inD at h'
    split at h'
    · rename_i ys hy
      split at h'
      · rename_i hh
        cases h'
        simp only [Bool.and_eq_true, decide_eq_true_eq] at hh
        obtain ⟨l1, l2, d1, d2⟩ := hh
        have e : (toPyA ys).any (fun z => PyData.eqv z (toPy x)) = ys.any fun z => PyData.eqv (toPy z) (toPy x) := by rw [toPyA_map, List.any_map]; rfl
        cases y <;> simp only [seqOf] at hy <;> try cases hy
        · have l2' : lay (.tup ys) = true := by simpa [lay] using l2
          have k := r2.dp h2 l2'
          have s2 : SeqAt.shaped (toPy (.tup ys)) = true := by
            unfold SeqAt.shaped
            rw [Bool.and_eq_true]
            exact ⟨canLay_py _ l2', decide_eq_true (Nat.le_trans (dep_py _) (by simp only [dep]; omega))⟩
          simp only [toPy] at k s2
          exact .inr ⟨_, _, r1.dp h1 l1, k, shaped_py l1 d1, s2, by rw [if_neg Bool.false_ne_true, e]; exact q⟩
        · have l2' : lay (.lst ys) = true := by simpa [lay] using l2
          have k := r2.dp h2 l2'
          have s2 : SeqAt.shaped (toPy (.lst ys)) = true := by
            unfold SeqAt.shaped
            rw [Bool.and_eq_true]
            exact ⟨canLay_py _ l2', decide_eq_true (Nat.le_trans (dep_py _) (by simp only [dep]; omega))⟩
          simp only [toPy] at k s2
          exact .inl ⟨_, _, r1.dp h1 l1, k, shaped_py l1 d1, s2, by rw [e]; exact q⟩
      · cases h'
    · cases h'
  | nin =>
    have h' : (inD x y).map (!·) = some z := h
    rw [Option.map_eq_some_iff] at h'
    obtain ⟨z', hz, rfl⟩ := h'
    unfold inD at hz
    split at hz
    · rename_i ys hy
      split at hz
      · rename_i hh
        cases hz
        simp only [Bool.and_eq_true, decide_eq_true_eq] at hh
        obtain ⟨l1, l2, d1, d2⟩ := hh
        have e : (toPyA ys).any (fun z => PyData.eqv z (toPy x)) = ys.any fun z => PyData.eqv (toPy z) (toPy x) := by rw [toPyA_map, List.any_map]; rfl
        cases y <;> simp only [seqOf] at hy <;> try cases hy
        · have l2' : lay (.tup ys) = true := by simpa [lay] using l2
          have k := r2.dp h2 l2'
          have s2 : SeqAt.shaped (toPy (.tup ys)) = true := by
            unfold SeqAt.shaped
            rw [Bool.and_eq_true]
            exact ⟨canLay_py _ l2', decide_eq_true (Nat.le_trans (dep_py _) (by simp only [dep]; omega))⟩
          simp only [toPy] at k s2
          exact .inr ⟨_, _, r1.dp h1 l1, k, shaped_py l1 d1, s2, by rw [if_pos rfl, e]; exact q⟩
        · have l2' : lay (.lst ys) = true := by simpa [lay] using l2
          have k := r2.dp h2 l2'
          have s2 : SeqAt.shaped (toPy (.lst ys)) = true := by
            unfold SeqAt.shaped
            rw [Bool.and_eq_true]
            exact ⟨canLay_py _ l2', decide_eq_true (Nat.le_trans (dep_py _) (by simp only [dep]; omega))⟩
          simp only [toPy] at k s2
          exact .inl ⟨_, _, r1.dp h1 l1, k, shaped_py l1 d1, s2, by rw [e]; exact q⟩
      · cases hz
    · cases hz
theorem cp_parts {o : Cp} {a b : E} {m : M} {g' : Md} {d : D} {ρ' : Rho} (hc : ck t (.cp o a b) g = some (m, g')) (he : ev C (.cp o a b) ρ = some (d, ρ')) :
    ∃ ma mb g1 x y ρ1 z, ck t a g = some (ma, g1) ∧ ck t b g1 = some (mb, g') ∧ ma.rdb = true ∧ mb.rdb = true ∧ m = .z ∧ ev C a ρ = some (x, ρ1) ∧ ev C b ρ1 = some (y, ρ') ∧ cpD o x y = some z ∧ d = .bl z := by
  simp only [ck, ev] at hc he
  split at hc
  · rename_i ma g1 e1
    split at hc
    · rename_i mb g2 e2
      split at hc
      · rename_i f
        cases hc
        rw [Bool.and_eq_true] at f
        split at he
        · rename_i x ρ1 e3
          split at he
          · rename_i y ρ2 e4
            rw [Option.map_eq_some_iff] at he
            obtain ⟨z, hz, ez⟩ := he
            cases ez
            exact ⟨ma, mb, g1, x, y, ρ1, z, e1, e2, f.1, f.2, rfl, e3, e4, hz, rfl⟩
          · cases he
        · cases he
      · cases hc
    · cases hc
  · cases hc
theorem behind_no {o : CmpOp} {r : Expr} (h : isSetX r = false) : behindInMarks o r = false := by
  cases r <;> first | rfl | cases h
theorem sd_cp {o : Cp} {a b : E} {l r : Expr} {pos : Pos} (hK : X.K = G.K) (hu : X.A.units + 65 < cLine) (hr : isSetX r = false) (ha : PE X l (RE t G ts C a)) (hb : PE X r (RE t G ts C b)) : PE X (.Compare l [cpB o] [r] pos) (RE t G ts C (.cp o a b)) := by
  refine PE.of (pe_cmpR (op_cp hu o) ha hb (behind_no hr)) ?_
  rintro σ H Q ⟨T, ws, g, ρ, m, g', d, ρ', hc, he, env, p⟩
  obtain ⟨ma, mb, g1, x, y, ρ1, z, e1, e2, f1, f2, rfl, e3, e4, hz, rfl⟩ := cp_parts hc he
  refine RE.bin e1 e2 e3 e4 env fun v1 v2 H2 w1 w2 ws2 w => ?_
  rw [hK]
  exact cpR_ok w.r1 w.r2 f1 f2 hz (p.fz w.stp w.env0 (.bl _))
theorem sd_cpT {o : Cp} {a b : E} {l r : Expr} {pos : Pos} (hK : X.K = G.K) (hu : X.A.units + 65 < cLine) (hr : isSetX r = false) (ha : PE X l (RE t G ts C a)) (hb : PE X r (RE t G ts C b)) : PT X (.Compare l [cpB o] [r] pos) (RT t G ts C (.cp o a b)) := by
  refine PT.of (pt_cmpR (op_cp hu o) ha hb (behind_no hr)) ?_
  rintro σ H Q ⟨T, ws, g, ρ, m, g', bb, ρ', hc, hf, he, env, p⟩
  obtain ⟨ma, mb, g1, x, y, ρ1, z, e1, e2, f1, f2, rfl, e3, e4, hz, e⟩ := cp_parts hc he
  cases e
  refine RE.bin e1 e2 e3 e4 env fun v1 v2 H2 w1 w2 ws2 w => ?_
  rw [hK]
  exact cpR_ok w.r1 w.r2 f1 f2 hz ⟨bb, rfl, p H2 ws2 w.stp w.env0⟩
end
end DI
end
section
set_option Elab.async false
set_option linter.all false
set_option maxRecDepth 100000
/-! Soundness of expressions, part 6: rows, displays. -/
namespace DI
open PySem PySem.Spec L2
section
variable {G : CT} {ts : List Addr} {H H' : Hp} {T T' : Tl} {ws ws' : List (List Addr)} {g : Md} {ρ : Rho} {σ : St}
variable {t : Tb} {C : Calls} {X : Cx} {mc : Mc} {k : Nat} {N B N' B' S : Sets}
theorem RpT.sets {o : Bool} {m : M} {ds : List D} {vs : List V} {w : List Addr} (r : RpT G H N B o m ds vs w) (hn : ∀ a, H a ≠ none → N' a → N a) (hb : ∀ a, H a ≠ none → B' a → B a) : RpT G H N' B' o m ds vs w :=
  r.next (S := fun _ => False) Kp.refl ⟨fun _ z => z.elim, fun _ z => z.elim, hn, hb⟩ fun _ _ z => z
theorem FzA.sets {ds : List D} {vs : List V} (r : FzA G H N ds vs) (hn : ∀ a, H a ≠ none → N' a → N a) : FzA G H N' ds vs :=
  r.next (S := fun _ => False) (B := fun _ => False) (B' := fun _ => False) Kp.refl ⟨fun _ z => z.elim, fun _ z => z.elim, hn, fun _ _ z => z⟩
theorem RpT.freeze : ∀ {m : M} {ds : List D} {vs : List V} {w : List Addr}, RpT G H N B true m ds vs w → m.fzb = true → (∀ a, N' a → N a) → (∀ a ∈ w, ¬ N' a) → FzA G H N' ds vs
  | _, _, _, _, .nil, _, _, _ => .nil
  | _, _, _, _, .cons (m := m) (r := r) h q, f, hn, hw => by
    have f' : (m.fzb && r.fzb) = true := f
    rw [Bool.and_eq_true] at f'
    exact .cons (h.freeze f'.1 hn fun a ha => hw a (List.mem_append_left _ ha)) (RpT.freeze q f'.2 hn fun a ha => hw a (List.mem_append_right _ ha))
theorem RpT.allz : ∀ {m : M} {ds : List D} {vs : List V} {w : List Addr}, RpT G H N B true m ds vs w → allz m = true → FzA G H N ds vs ∧ w = []
  | _, _, _, _, .nil, _ => ⟨.nil, rfl⟩
  | _, _, _, _, .cons (m := m) (r := r) h q, f => by
    have f' : (decide (m = .z) && DI.allz r) = true := f
    rw [Bool.and_eq_true, decide_eq_true_eq] at f'
    obtain ⟨rfl, f2⟩ := f'
    obtain ⟨q1, rfl⟩ := RpT.allz q f2
    have e := h.z_nil
    subst e
    exact ⟨.cons h.z_fz q1, rfl⟩
theorem RpT.same : ∀ {m a : M} {ds : List D} {vs : List V} {w : List Addr}, RpT G H N B true m ds vs w → same1 a m = true → RpA G H N B true a ds vs w
  | _, _, _, _, _, .nil, _ => .nil
  | _, a, _, _, _, .cons (m := m) (r := r) h q, f => by
    have f' : (decide (m = a) && same1 a r) = true := f
    rw [Bool.and_eq_true, decide_eq_true_eq] at f'
    obtain ⟨rfl, f2⟩ := f'
    exact .cons h (RpT.same q f2)
theorem allz_fzb : ∀ {m : M}, allz m = true → m.fzb = true
  | .tn, _ => rfl
  | .tc m r, f => by
    have f' : (decide (m = .z) && allz r) = true := f
    rw [Bool.and_eq_true, decide_eq_true_eq] at f'
    obtain ⟨rfl, f2⟩ := f'
    show (M.fzb .z && r.fzb) = true
    rw [allz_fzb f2]; rfl
theorem allz_chain : ∀ {m : M}, allz m = true → isChain m = true
  | .tn, _ => rfl
  | .tc m r, f => by
    have f' : (decide (m = .z) && allz r) = true := f
    rw [Bool.and_eq_true] at f'
    exact allz_chain (m := r) f'.2
theorem fzA_of : ∀ {ds : List D} {xs : List V}, ds.length = xs.length → (∀ (i : Nat) d' v', ds[i]? = some d' → xs[i]? = some v' → Rp G H N B true .z d' v' []) → FzA G H N ds xs
  | [], [], _, _ => .nil
  | [], _ :: _, h, _ => by simp at h
  | _ :: _, [], h, _ => by simp at h
  | d :: ds, x :: xs, h, q => .cons (q 0 d x rfl rfl).z_fz (fzA_of (by simpa using h) fun i d' v' e1 e2 => q (i + 1) d' v' (by simpa using e1) (by simpa using e2))
/-- a row of values -/
def RowOk (G : CT) (H : Hp) (N B : Sets) (m : M) (ds : List D) (vs : List V) (w : List Addr) : Prop :=
  (m = .z ∧ FzA G H N ds vs ∧ w = []) ∨ (isChain m = true ∧ RpT G H N B true m ds vs w)
theorem RowOk.len {m : M} {ds : List D} {vs : List V} {w : List Addr} (h : RowOk G H N B m ds vs w) : ds.length = vs.length := by
  rcases h with ⟨_, h, _⟩ | ⟨_, h⟩
  · exact h.length
  · exact h.length
theorem RowOk.freeze {m : M} {ds : List D} {vs : List V} {w : List Addr} (h : RowOk G H N B m ds vs w) (f : m.fzb = true) (hn : ∀ a, N' a → N a) (hw : ∀ a ∈ w, ¬ N' a) : FzA G H N' ds vs := by
  rcases h with ⟨_, h, _⟩ | ⟨_, h⟩
  · exact h.sets fun a _ => hn a
  · exact h.freeze f hn hw
theorem RowOk.vals {m : M} {ds : List D} {vs : List V} {w : List Addr} (h : RowOk G H N B m ds vs w) (f : (DI.allz m || decide (m = .z)) = true) : FzA G H N ds vs ∧ w = [] := by
  rcases h with ⟨_, h, e⟩ | ⟨c, h⟩
  · exact ⟨h, e⟩
  · rw [Bool.or_eq_true, decide_eq_true_eq] at f
    rcases f with f | rfl
    · exact h.allz f
    · cases c
/-- the reading of an argument list -/
def RA (t : Tb) (G : CT) (ts : List Addr) (C : Calls) (e : E) : TA := fun σ H Q =>
  ∃ (T : Tl) (ws : List (List Addr)) (g : Md) (ρ : Rho) (m : M) (g' : Md) (ds : List D) (ρ' : Rho), ck t e g = some (m, g') ∧ ev C e ρ = some (.tup ds, ρ') ∧ EnvOk G ts H T ws g ρ σ ∧
    ∀ (vs : List V) (H' : Hp) (w : List Addr) (ws' : List (List Addr)), Stp H ws.flatten H' (w ++ ws'.flatten) → EnvOk G ts H' (uni T w) ws' g' ρ' σ → RowOk G H' (uni (uni T w) ws'.flatten).s (uni (uni T w) ws'.flatten).b m ds vs w → w.Nodup → (∀ a ∈ w, ¬ T a) → Q vs H'
theorem sd_a0 : PA X [] (RA t G ts C .a0) := by
  refine PA.of pa_nil ?_
  rintro σ H Q ⟨T, ws, g, ρ, m, g', ds, ρ', hc, he, env, p⟩
  simp only [ck, ev] at hc he
  cases hc
  cases he
  exact p [] H [] ws Stp.refl (env.less fun a => uni_nil) (.inr ⟨rfl, .nil⟩) nodup_nil' fun a z => nomatch z
theorem uni_app {w1 w2 : List Addr} {a : Addr} : uni T (w1 ++ w2) a ↔ uni (uni T w1) w2 a := by
  show (T.s a ∨ a ∈ w1 ++ w2) ↔ ((T.s a ∨ a ∈ w1) ∨ a ∈ w2)
  rw [List.mem_append]
  constructor
  · rintro (h | h | h)
    · exact .inl (.inl h)
    · exact .inl (.inr h)
    · exact .inr h
  · rintro ((h | h) | h)
    · exact .inl h
    · exact .inr (.inl h)
    · exact .inr (.inr h)
theorem starE_no {x : Expr} {es : List Expr} {env : Env} (h : isStarX x = false) : starEach (x :: es) env = (false, eval x env) :: starEach es env := by
  cases x <;> first | rfl | cases h
theorem sd_aE {a r : E} {x : Expr} {es : List Expr} (hs : isStarX x = false) (ha : PE X x (RE t G ts C a)) (hr : PA X es (RA t G ts C r)) : PA X (x :: es) (RA t G ts C (.aE a r)) := by
  refine PA.of (pa_cons ha hr (starE_no hs)) ?_
  rintro σ H Q ⟨T, ws, g, ρ, m, g', ds, ρ', hc, he, env, p⟩
  simp only [ck, ev] at hc he
  split at hc
  · rename_i ma g1 e1
    split at hc
    · rename_i mr g2 e2
      rw [Option.map_eq_some_iff] at hc
      obtain ⟨m', hm, em⟩ := hc
      cases em
      split at he
      · rename_i y ρ1 e3
        split at he
        · rename_i ys ρ2 e4
          cases he
          refine ⟨T, ws, g, ρ, ma, g1, y, ρ1, e1, e3, env, fun v1 H1 w1 ws1 st1 env1 r1 n1 d1 => ?_⟩
          refine ⟨uni T w1, ws1, g1, ρ1, mr, g', ys, ρ', e2, e4, env1, fun vs H2 w2 ws2 st2 env2 row n2 d2 => ?_⟩
          have r1' := r1.on env1 st2
          have st := st1.two st2
          unfold rowOf at hm
          split at hm
          · cases hm
          · split at hm
            · rename_i hch
              cases hm
              have row' : RpT G H2 (uni (uni (uni T w1) w2) ws2.flatten).s (uni (uni (uni T w1) w2) ws2.flatten).b true mr ys vs w2 := by
                rcases row with ⟨e, _, _⟩ | ⟨_, h⟩
                · subst e; cases hch
                · exact h
              refine p (v1 :: vs) H2 (w1 ++ w2) ws2 (by rw [List.append_assoc]; exact st) (env2.less fun a z => uni_app.mp z) (.inr ⟨hch, ?_⟩) ?_ fun a ha z => ?_
              · exact (RpT.cons r1' row').sets (fun a _ z => z.imp uni_app.mp id) fun a _ z => ⟨z.1.imp uni_app.mp id, z.2⟩
              · refine List.nodup_append.mpr ⟨n1, n2, fun a ha b hb e => ?_⟩
                subst e
                exact d2 a hb (.inr ha)
              · rcases List.mem_append.mp ha with ha | ha
                · exact d1 a ha z
                · exact d2 a ha (.inl z)
            · split at hm
              · rename_i f
                cases hm
                rw [Bool.and_eq_true, decide_eq_true_eq] at f
                obtain ⟨rfl, f⟩ := f
                obtain ⟨q, rfl⟩ := row.vals (by simp)
                have a1 : ∀ a ∈ w1, ¬ uni T ws2.flatten a := fun a ha z => z.elim (d1 a ha) fun q => env2.dj a q (.inl (.inr ha))
                refine p (v1 :: vs) H2 [] ws2 (by simpa using st.drop2) (env2.less fun a z => .inl (.inl (uni_nil z))) (.inl ⟨rfl, .cons ?_ ?_, rfl⟩) nodup_nil' fun a z => nomatch z
                · exact (r1'.freeze f (N' := uni T ws2.flatten) (fun a z => z.imp (fun q => .inl (.inl q)) id) a1).sets fun a _ z => z.imp uni_nil id
                · exact q.sets fun a _ z => z.imp (fun q => .inl (.inl (uni_nil q))) id
              · cases hm
        · cases he
      · cases he
    · cases hc
  · cases hc
theorem sd_aS {a r : E} {x : Expr} {es : List Expr} {pos : Pos} (hK : X.K = G.K) (ha : PE X x (RE t G ts C a)) (hr : PA X es (RA t G ts C r)) : PA X (.Starred x pos :: es) (RA t G ts C (.aS a r)) := by
  refine PA.of (StX.pa_star ha hr) ?_
  rintro σ H Q ⟨T, ws, g, ρ, m, g', ds, ρ', hc, he, env, p⟩
  simp only [ck, ev] at hc he
  split at hc
  · rename_i ma g1 e1
    split at hc
    · rename_i mr g2 e2
      split at hc
      · rename_i f
        rw [Bool.and_eq_true] at f
        cases hc
        split at he
        · rename_i y ρ1 e3
          split at he
          · rename_i ys hys
            split at he
            · rename_i zs ρ2 e4
              cases he
              refine ⟨T, ws, g, ρ, ma, g1, y, ρ1, e1, e3, env, fun v1 H1 w1 ws1 st1 env1 r1 n1 d1 => ?_⟩
              -- the row is read at once
              have a1 : ∀ a ∈ w1, ¬ uni T ws1.flatten a := fun a ha z => z.elim (d1 a ha) fun q => env1.dj a q (.inr ha)
              have sq := r1.seqR (N' := uni T ws1.flatten) (lz_rd f.1) hys (fun a z => z.imp .inl id) a1
              have fz : ∃ a xs, v1 = .ref a ∧ (SqT G.K H1 a xs ∨ SqL G.K H1 a xs) ∧ FzA G H1 (uni T ws1.flatten) ys xs := by
                cases y <;> simp only [seqOf] at hys <;> try cases hys
                · obtain ⟨a, xs, ds', rfl, h, l, q⟩ := sq
                  rcases h with ⟨e, h⟩ | ⟨e, h⟩
                  · cases e
                    refine ⟨a, xs, rfl, .inl h, ?_⟩
                    exact fzA_of l q
                  · cases e
                · obtain ⟨a, xs, rfl, h, q⟩ := sq.lst'
                  exact ⟨a, xs, rfl, .inr h, q⟩
              obtain ⟨a, xs, rfl, hx, q1⟩ := fz
              refine ⟨a, xs, rfl, by rw [hK]; exact hx, ?_⟩
              refine ⟨T, ws1, g1, ρ1, mr, g', zs, ρ', e2, e4, env1.less fun a z => .inl z, fun vs H2 w2 ws2 st2 env2 row n2 d2 => ?_⟩
              obtain ⟨q2, rfl⟩ := row.vals f.2
              have st2' : Stp H1 ws1.flatten H2 ws2.flatten := st2.drop1
              have q1' : FzA G H2 (uni T ws2.flatten) ys xs := q1.next st2'.kp (N' := uni T ws2.flatten) (B := (· ∈ ws1.flatten)) (B' := fun _ => False) ⟨fun a z => .inr z, fun a z => z, fun a ha z => z.imp id fun z => (st2'.sub a z).elim id fun q => absurd q ha, fun a _ z => z.elim⟩
              refine p (xs ++ vs) H2 [] ws2 (Stp.trans st1.drop1 (fun x z => z) (by simpa using st2')) (env2.less fun a z => .inl (uni_nil z)) (.inl ⟨rfl, FzA.append ?_ ?_, rfl⟩) nodup_nil' fun a z => nomatch z
              · exact q1'.sets fun a _ z => z.imp uni_nil id
              · exact q2.sets fun a _ z => z.imp (fun q => .inl (uni_nil q)) id
            · cases he
          · cases he
        · cases he
      · cases hc
    · cases hc
  · cases hc
/-! ### displays -/
/-- a new own list -/
theorem Post.newOwn {Bs : List Addr} {ds : List D} {m : M} {Q : VK} {xs : List V} {w : List Addr} (p : Post G ts H T Bs g ρ σ (.L m) (.lst ds) Q) (st : Stp H Bs H' (w ++ ws'.flatten)) (e : EnvOk G ts H' (uni T w) ws' g ρ σ)
    (f : RpA G H' (uni (uni T w) ws'.flatten).s (uni (uni T w) ws'.flatten).b true m ds xs w) (nd : w.Nodup) (dj : ∀ a ∈ w, ¬ T a) (q : Addr) (hq : H' q = none) : Q (.ref q) (upd H' q (.lst xs)) := by
  have tw : ∀ a ∈ w, H' a ≠ none := fun a ha => e.tt a (.inr ha)
  have nN : ∀ (a : Addr), H' a ≠ none → uni (uni T (q :: w)) ws'.flatten a → uni (uni T w) ws'.flatten a := fun a ha z => by
    rcases z with (z | z) | z
    · exact .inl (.inl z)
    · rcases List.mem_cons.mp z with z | z
      · exact absurd (z ▸ hq) ha
      · exact .inl (.inr z)
    · exact .inr z
  have f' : RpA G (upd H' q (.lst xs)) (uni (uni T (q :: w)) ws'.flatten).s (uni (uni T (q :: w)) ws'.flatten).b true m ds xs w := f.next (S := fun _ => False) (kp_new hq) ⟨fun a z => z.elim, fun a z => z.elim, nN, fun a ha z => ⟨nN a ha z.1, z.2⟩⟩ fun a _ z => z
  refine p (.ref q) _ (q :: w) ws' ?_ ?_ (Rp.L (w := w) upd_same (fun z => nomatch z) f') (List.nodup_cons.mpr ⟨fun z => tw q z hq, nd⟩) ?_
  · have st2 := Stp.trans st (fun x z => List.mem_append_right w z) (stp_new (o := .lst xs) hq (B := ws'.flatten))
    refine ⟨st2.kp, fun x z => ?_, st2.trk⟩
    rcases List.mem_append.mp z with z | z
    · rcases List.mem_cons.mp z with z | z
      · rw [z]
        cases e0 : H q with
        | none => exact .inr rfl
        | some o => exact absurd hq (st.trk q (by rw [e0]; simp))
      · exact st.sub x (List.mem_append_left _ z)
    · exact st.sub x (List.mem_append_right _ z)
  · refine e.grow (kp_new hq) (fun a z => ?_) (fun a z => ?_) (tabs_new hq e.tb)
    · rcases z with z | z
      · exact trk_new a (e.tt a (.inl z))
      · rcases List.mem_cons.mp z with z | z
        · rw [z, upd_same]; simp
        · exact trk_new a (tw a z)
    · rcases z with z | z
      · exact .inl (.inl z)
      · rcases List.mem_cons.mp z with z | z
        · rw [z]; exact .inr hq
        · exact .inl (.inr z)
  · intro a z z'
    rcases List.mem_cons.mp z with z | z
    · rw [z] at z'
      exact e.tt q (.inl z') hq
    · exact dj a z z'
/-- a new own tuple -/
theorem Post.newRow {Bs : List Addr} {ds : List D} {m : M} {Q : VK} {xs : List V} {w : List Addr} (p : Post G ts H T Bs g ρ σ m (.tup ds) Q) (st : Stp H Bs H' (w ++ ws'.flatten)) (e : EnvOk G ts H' (uni T w) ws' g ρ σ)
    (f : RpT G H' (uni (uni T w) ws'.flatten).s (uni (uni T w) ws'.flatten).b true m ds xs w) (nd : w.Nodup) (dj : ∀ a ∈ w, ¬ T a) (q : Addr) (hq : H' q = none) : Q (.ref q) (upd H' q (.tup xs)) := by
  have f' : RpT G (upd H' q (.tup xs)) (uni (uni T w) ws'.flatten).s (uni (uni T w) ws'.flatten).b true m ds xs w := f.next (S := fun _ => False) (kp_new hq) ⟨fun a z => z.elim, fun a z => z.elim, fun a _ z => z, fun a _ z => z⟩ fun a _ z => z
  have st2 := Stp.trans st (fun x z => List.mem_append_right w z) (stp_new (o := .tup xs) hq (B := ws'.flatten))
  exact p (.ref q) _ w ws' ⟨st2.kp, st.sub, st2.trk⟩ (e.grow (kp_new hq) (fun a z => trk_new a (e.tt a z)) (fun a z => .inl z) (tabs_new hq e.tb)) (.T (.of upd_same) f') nd dj
theorem sd_tup {as : E} {es : List Expr} {kk : Nat} {pos : Pos} (ha : PA X es (RA t G ts C as)) : PE X (.Tuple es kk pos) (RE t G ts C (.tup as)) := by
  refine PE.of (pe_tup ha) ?_
  rintro σ H Q ⟨T, ws, g, ρ, m, g', d, ρ', hc, he, env, p⟩
  simp only [ck, ev] at hc he
  split at hc
  · rename_i ma g1 e1
    split at he
    · rename_i xs ρ1 e2
      split at he
      · rename_i hl
        cases he
        refine ⟨T, ws, g, ρ, ma, g1, xs, _, e1, e2, env, fun vs H' w ws' st env' row nd dj => ⟨by rw [← row.len]; exact Nat.le_trans (lenOk_le hl) line6, fun q hq => ?_⟩⟩
        split at hc
        · rename_i f
          cases hc
          obtain ⟨q1, rfl⟩ := row.vals f
          exact p.newT st.drop1 (env'.less fun a z => .inl z) (q1.sets fun a _ z => z.imp .inl id) q hq
        · rename_i f
          split at hc
          · cases hc
            rcases row with ⟨e, _, _⟩ | ⟨_, row⟩
            · exact absurd (by rw [e]; simp) f
            · exact p.newRow st env' row nd dj q hq
          · cases hc
      · cases he
    · cases he
  · cases hc
theorem sd_lst {as : E} {es : List Expr} {pos : Pos} (ha : PA X es (RA t G ts C as)) : PE X (.List es pos) (RE t G ts C (.lst as)) := by
  refine PE.of (pe_lst ha) ?_
  rintro σ H Q ⟨T, ws, g, ρ, m, g', d, ρ', hc, he, env, p⟩
  simp only [ck, ev] at hc he
  split at hc
  · rename_i ma g1 e1
    split at he
    · rename_i xs ρ1 e2
      split at he
      · rename_i hl
        cases he
        refine ⟨T, ws, g, ρ, ma, g1, xs, _, e1, e2, env, fun vs H' w ws' st env' row nd dj => ⟨by rw [← row.len]; exact Nat.le_trans (lenOk_le hl) line6, fun q hq => ?_⟩⟩
        by_cases f : (allz ma || decide (ma = .z)) = true
        · rw [if_pos f] at hc
          cases hc
          obtain ⟨q1, rfl⟩ := row.vals f
          exact p.newL st.drop1 (env'.less fun a z => .inl z) (q1.sets fun a _ z => z.imp .inl id) q hq
        · rw [if_neg f] at hc
          cases ma with
          | tc a r =>
            have row' : RpT G H' (uni (uni T w) ws'.flatten).s (uni (uni T w) ws'.flatten).b true (.tc a r) xs vs w := by
              rcases row with ⟨e, _, _⟩ | ⟨_, row⟩
              · cases e
              · exact row
            simp only at hc
            split at hc
            · rename_i f
              cases hc
              rw [Bool.and_eq_true] at f
              refine p.newOwn st env' (row'.same (a := a) ?_) nd dj q hq
              show (decide (a = a) && same1 a r) = true
              rw [f.2]; simp
            · split at hc
              · rename_i f
                cases hc
                rw [Bool.and_eq_true] at f
                exact p.newL st.drop1 (env'.less fun a z => .inl z) (row'.freeze f.1 (fun a z => z.imp .inl id) fun a ha z => z.elim (dj a ha) fun q => env'.dj a q (.inr ha)) q hq
              · cases hc
          | _ => cases hc
      · cases he
    · cases he
  · cases hc
/-! ### items, slices, fields -/
theorem plainIx {b : Expr} (h : isSliceX b = false) : PlainIx b := by
  intro o i
  cases b <;> first | rfl | cases h
theorem Fz.lw {o : Bool} {m : M} {d : D} {v : V} (f : m.fzb = true) (h : Fz G H N d v) : Rp G H N B o (lw m) d v [] := by
  unfold DI.lw
  split
  · exact .z h
  · cases f
  · exact .w (.co f h)
/-- a letter of a text that is read -/
theorem Rp.letter {m r : M} (e : rdM m = some r) {x c : Str} {v : V} {w : List Addr} (h : Rp G H N B true m (.str x) v w) : Rp G H N' B' true r (.str c) (.str c) [] := by
  cases m with
  | z => cases e; exact .z (.str c)
  | x => cases e
  | L m =>
    simp only [rdM] at e
    split at e
    · cases e; exact .z (.str c)
    · cases e
  | tn => cases e; exact .z (.str c)
  | tc m r' =>
    simp only [rdM] at e
    split at e
    · cases e; exact .z (.str c)
    · cases e
  | O => cases e
  | w m =>
    cases m with
    | L m =>
      cases e
      cases h with
      | w h =>
        rcases h.lentL rfl rfl with ⟨_, f⟩ | ⟨_, _, _, _, z, _⟩
        · exact Fz.lw f (.str c)
        · cases z
    | _ => cases e
theorem atI_len {α : Type} {xs : List α} {i : Int} {x : α} (h : L2.atI xs i = some x) : ∃ k : Nat, xs[k]? = some x ∧ ∀ {β : Type} (ys : List β), ys.length = xs.length → L2.atI ys i = (ys[k]? : Option β) := by
  unfold L2.atI at h
  cases e : L2.ixN xs.length i with
  | none => rw [e] at h; cases h
  | some k =>
    rw [e] at h
    exact ⟨k, h, fun {β} ys l => by unfold L2.atI; rw [l, e]; rfl⟩
theorem SeqR.at {r : M} {d : D} {v : V} (h : SeqR G H N B r d v) {ds : List D} (hs : seqOf d = some ds) {i : Int} {z : D} (hz : atI ds i = some z) : ∃ a xs x, v = .ref a ∧ (SqT G.K H a xs ∨ SqL G.K H a xs) ∧ atI xs i = some x ∧ Rp G H N B true r z x [] := by
  obtain ⟨a, xs, ds', e, h, l, q⟩ := h
  have hx : ds' = ds ∧ (SqT G.K H a xs ∨ SqL G.K H a xs) := by
    rcases h with ⟨rfl, h⟩ | ⟨rfl, h⟩
    · cases hs; exact ⟨rfl, .inl h⟩
    · cases hs; exact ⟨rfl, .inr h⟩
  obtain ⟨rfl, hx⟩ := hx
  obtain ⟨k, e1, e2⟩ := atI_len hz
  have hk : k < xs.length := by rw [← l]; exact (List.getElem?_eq_some_iff.mp e1).1
  refine ⟨a, xs, xs[k], e, hx, ?_, q k z _ e1 (List.getElem?_eq_getElem hk)⟩
  rw [e2 xs l.symm]
  exact List.getElem?_eq_getElem hk
theorem sd_ix {a i : E} {x y : Expr} {pos : Pos} (hK : X.K = G.K) (hs : isSliceX y = false) (ha : PE X x (RE t G ts C a)) (hb : PE X y (RE t G ts C i)) : PE X (.Subscript x y pos) (RE t G ts C (.ix a i)) := by
  refine PE.of (pe_ix ix_seq ha hb (plainIx hs)) ?_
  rintro σ H Q ⟨T, ws, g, ρ, m, g', d, ρ', hc, he, env, p⟩
  simp only [ck, ev] at hc he
  split at hc
  · rename_i ma g1 e1
    split at hc
    · rename_i mi g2 e2
      split at hc
      · rename_i fi
        rw [Option.map_eq_some_iff] at hc
        obtain ⟨r, hr, em⟩ := hc
        cases em
        split at he
        · rename_i u ρ1 e3
          split at he
          · rename_i v ρ2 e4
            rw [Option.map_eq_some_iff] at he
            obtain ⟨z, hz, ez⟩ := he
            cases ez
            refine RE.bin e1 e2 e3 e4 env fun v1 v2 H2 w1 w2 ws2 w => ?_
            have fin : ∀ v', Rt G H2 (uni T ws2.flatten) m d v' [] → Q v' H2 := fun v' r' =>
              p v' H2 [] ws2 (by simpa using w.stp) (w.env0.less fun a => uni_nil) (Rt.sets r' fun a _ z => z.imp uni_nil id) nodup_nil' fun a z => nomatch z
            unfold rIx
            rw [hK]
            cases u <;> cases v <;> simp only [ixD] at hz <;> try cases hz
            · rename_i s i
              obtain rfl := (w.r2.isInt i rfl).1
              obtain ⟨rfl, _⟩ := w.r1.isStr s rfl
              split at hz
              · rename_i hl
                rw [Option.map_eq_some_iff] at hz
                obtain ⟨c, hc, rfl⟩ := hz
                exact .inr (.inr ⟨s, i, c, rfl, rfl, Nat.le_trans (lenOk_le hl) line6, hc, fin _ (w.r1.letter hr)⟩)
              · cases hz
            · rename_i xs i
              obtain rfl := (w.r2.isInt i rfl).1
              obtain ⟨a, vs, x, rfl, hx, e, r'⟩ := (w.s1 hr rfl).at rfl hz
              rcases hx with hx | hx
              · exact .inr (.inl ⟨a, vs, i, x, rfl, rfl, hx, e, fin x r'⟩)
              · exact .inl ⟨a, vs, i, x, rfl, rfl, hx, e, fin x r'⟩
            · rename_i xs i
              obtain rfl := (w.r2.isInt i rfl).1
              obtain ⟨a, vs, x, rfl, hx, e, r'⟩ := (w.s1 hr rfl).at rfl hz
              rcases hx with hx | hx
              · exact .inr (.inl ⟨a, vs, i, x, rfl, rfl, hx, e, fin x r'⟩)
              · exact .inl ⟨a, vs, i, x, rfl, rfl, hx, e, fin x r'⟩
          · cases he
        · cases he
      · cases hc
    · cases hc
  · cases hc
end
end DI
end
section
set_option Elab.async false
set_option linter.all false
set_option maxRecDepth 100000
/-! Soundness of expressions, part 7: slices, fields, reckonings that own nothing, chains. -/
namespace DI
open PySem PySem.Spec L2
structure GOk (t : Tb) (mc : Mc) (G : CT) : Prop where
  cf : ∀ c, G.cf c = t.cf.getD c []
  mcf : mc.cf = t.cf
  pl : ∀ c q, q ∈ G.cf c → q.2.pl = true
  cls : ∀ c q, q ∈ G.cf c → Cls G.K (G.ca c) ∧ NoAttr G.K (G.ca c) q.1
  nd : ∀ c, ((G.cf c).map (·.1)).Nodup
  rp : ∀ s ∈ t.sg, s.ret.pl = true
section
variable {G : CT} {ts : List Addr} {H H' : Hp} {T T' : Tl} {ws ws' : List (List Addr)} {g : Md} {ρ : Rho} {σ : St}
variable {t : Tb} {C : Calls} {X : Cx} {mc : Mc} {k : Nat} {N B N' B' S : Sets}
theorem chain_pl : ∀ {l : List M}, (∀ m ∈ l, m.pl = true) → (chain l).pl = true
  | [], _ => rfl
  | m :: r, h => by
    show (m.pl && (chain r).pl) = true
    rw [h m (by simp), chain_pl fun x hx => h x (List.mem_cons_of_mem _ hx)]; rfl
theorem Rp.anyB (hG : ∀ c q, q ∈ G.cf c → q.2.pl = true) {m : M} {d : D} {v : V} {w : List Addr} (h : Rp G H N B true m d v w) (hm : m.pl = true) : Rp G H N B' true m d v w := by
  have key : ∀ {o : Bool} {m : M} {d : D} {v : V} {w : List Addr}, Rp G H N B o m d v w → o = true → m.pl = true → Rp G H N B' true m d v w := by
    intro o m d v w h
    refine Rp.rec (motive_1 := fun o m d v w _ => o = true → m.pl = true → Rp G H N B' true m d v w) (motive_2 := fun o m ds vs w _ => o = true → m.pl = true → RpA G H N B' true m ds vs w)
      (motive_3 := fun o m ds vs w _ => o = true → m.pl = true → RpT G H N B' true m ds vs w) ?_ ?_ ?_ ?_ ?_ ?_ ?_ ?_ ?_ ?_ h
    · intro o d v h _ _; exact .z h
    · intro m d v f h e; cases e
    · intro o m ds a xs w h n r ih e f; subst e; exact .L h (fun z => nomatch z) (ih rfl f)
    · intro o m ds a xs w h r ih e f; exact .T h (ih e f)
    · intro o c k ds a dx fs w h n e r ih eo f
      subst eo
      refine .O h (fun z => nomatch z) e (ih rfl (chain_pl fun m hm => ?_))
      obtain ⟨q, hq, rfl⟩ := List.mem_map.mp hm
      exact hG c q (List.mem_of_mem_take hq)
    · intro o m d v h ih e f; cases f
    · intro o m _ _; exact .nil
    · intro o m d ds v vs w1 w2 _ _ i1 i2 e f; exact .cons (i1 e f) (i2 e f)
    · intro o _ _; exact .nil
    · intro o m r d ds v vs w1 w2 _ _ i1 i2 e f
      have f' : (m.pl && r.pl) = true := f
      rw [Bool.and_eq_true] at f'
      exact .cons (i1 e f'.1) (i2 e f'.2)
  exact key h rfl hm
theorem Rp.toLw {o : Bool} {m : M} {d : D} {v : V} {w : List Addr} (h : Rp G H N B false m d v w) : Rp G H N B o (lw m) d v [] := by
  have e := h.lent
  subst e
  unfold lw
  split
  · cases h with
    | z h => exact .z h
    | co _ h => exact .z h
    | T _ r => cases r
  · cases h with
    | co f h => cases f
    | T _ r => cases r
    | w h => exact .w h
  · exact .w h
theorem RpT.at : ∀ {ms : List M} {ds : List D} {vs : List V} {w : List Addr} {j : Nat} {d : D} {m : M}, RpT G H N B false (chain ms) ds vs w → ds[j]? = some d → ms[j]? = some m → ∃ v w', vs[j]? = some v ∧ Rp G H N B false m d v w'
  | [], _, _, _, j, d, m, _, _, e => by simp at e
  | m0 :: ms, _, _, _, 0, d, m, .cons h _, e1, e2 => by simp at e1 e2; subst e1 e2; exact ⟨_, _, rfl, h⟩
  | m0 :: ms, _, _, _, j + 1, d, m, .cons _ r, e1, e2 => by
    obtain ⟨v, w', h1, h2⟩ := RpT.at (j := j) r (by simpa using e1) (by simpa using e2)
    exact ⟨v, w', by simpa using h1, h2⟩
theorem lookup_nth {α : Type} : ∀ {l : List (Str × α)} {j : Nat} {x : Str} {v : α}, (l.map (·.1)).Nodup → (l.map (·.1))[j]? = some x → (l.map (·.2))[j]? = some v → l.lookup x = some v
  | [], _, _, _, _, e, _ => by simp at e
  | (y, u) :: l, 0, x, v, _, e1, e2 => by simp at e1 e2; subst e1 e2; simp [List.lookup]
  | (y, u) :: l, j + 1, x, v, hn, e1, e2 => by
    rw [List.map_cons, List.nodup_cons] at hn
    have e1' : (l.map (·.1))[j]? = some x := by simpa using e1
    have ne : (x == y) = false := by
      rw [beq_eq_false_iff_ne]
      intro e
      subst e
      exact hn.1 (List.mem_of_getElem? e1')
    unfold List.lookup
    rw [ne]
    exact lookup_nth hn.2 e1' (by simpa using e2)
theorem dot_ok {v : Expr} {f : Str} {env : Env} (h : dotX v = true) : attributeBase v f env (eval v env) = eval v env := by
  cases v <;> first | rfl | cases h
theorem sd_fld {a : E} {c j : Nat} {x : Expr} {f : Str} {pos : Pos} (hK : X.K = G.K) (hG : GOk t mc G) (hd : dotX x = true) (hf : ((mc.cf.getD c [])[j]?).map (·.1) = some f) (ha : PE X x (RE t G ts C a)) :
    PE X (.Attribute x f pos) (RE t G ts C (.fld a c j)) := by
  refine PE.of (pe_fld ha (dot_ok hd)) ?_
  rintro σ H Q ⟨T, ws, g, ρ, m, g', d, ρ', hc, he, env, p⟩
  simp only [ck, ev] at hc he
  split at hc
  · rename_i c' kk g1 e1
    split at hc
    · rename_i hcj
      rw [Bool.and_eq_true, decide_eq_true_eq, decide_eq_true_eq] at hcj
      obtain ⟨rfl, hj⟩ := hcj
      rw [Option.map_eq_some_iff] at hc
      obtain ⟨q, hq, em⟩ := hc
      cases em
      split at he
      · rename_i fs ρ1 e3
        rw [Option.map_eq_some_iff] at he
        obtain ⟨z, hz, ez⟩ := he
        cases ez
        refine ⟨T, ws, g, ρ, _, g', _, _, e1, e3, env, fun v1 H1 w1 ws1 st1 env1 r1 n1 d1 => ?_⟩
        have hq' : (G.cf c)[j]? = some q := by rw [hG.cf]; exact hq
        have hfq : f = q.1 := by
          rw [hG.mcf, hq] at hf
          exact (Option.some.inj hf).symm
        have hmem : q ∈ G.cf c := List.mem_of_getElem? hq'
        have ew := r1.w_nil
        subst ew
        cases r1 with
        | T _ r => cases r
        | w h =>
          cases h with
          | co f _ => cases f
          | T _ r => cases r
          | @O _ _ _ _ aa dx fvs ww ha hn en rr =>
            have hqt : ((G.cf c).take kk)[j]? = some q := by rw [List.getElem?_take, if_pos hj]; exact hq'
            obtain ⟨v, w', hv, hr⟩ := RpT.at rr hz (m := q.2) (by rw [List.getElem?_map, hqt]; rfl)
            have hl : fvs.lookup f = some v := by
              refine lookup_nth ?_ (j := j) ?_ hv
              · rw [en]
                rw [List.map_take]
                exact List.Nodup.sublist (List.take_sublist _ _) (hG.nd c)
              · rw [en, List.getElem?_map, hqt, hfq]; rfl
            rw [hK]
            refine ⟨aa, G.ca c, dx, fvs, v, rfl, ha, (hG.cls c q hmem).1, by rw [hfq]; exact (hG.cls c q hmem).2, hl, ?_⟩
            exact p v H1 [] ws1 (by simpa using st1) (env1.less fun a z => .inl (uni_nil z)) ((hr.toLw (o := true)).sets (fun a _ z => z.imp (fun z => .inl (uni_nil z)) id) fun a _ z => z) nodup_nil' fun a z => nomatch z
      · cases he
    · cases hc
  · cases hc
/-! ### slices -/
def RO (t : Tb) (G : CT) (ts : List Addr) (C : Calls) (e : E) : TO := fun σ H Q =>
  ∃ (T : Tl) (ws : List (List Addr)) (g : Md) (ρ : Rho) (m : M) (g' : Md) (d : D) (o : Option Int) (ρ' : Rho), ck t e g = some (m, g') ∧ m.fzb = true ∧ ev C e ρ = some (d, ρ') ∧ optI d = some o ∧ EnvOk G ts H T ws g ρ σ ∧
    ∀ H' ws', Stp H ws.flatten H' ws'.flatten → EnvOk G ts H' T ws' g' ρ' σ → Q o H'
theorem PO.of {e : Option Expr} {u u' : TO} (h : PO X e u) (k : ∀ σ H Q, u' σ H Q → u σ H Q) : PO X e u' := ⟨fun pins s σ H Q I q => h.run pins s σ H Q I (k σ H Q q)⟩
theorem po_so : PO X none (RO t G ts C .so) := by
  refine PO.of po_none ?_
  rintro σ H Q ⟨T, ws, g, ρ, m, g', d, o, ρ', hc, hf, he, ho, env, p⟩
  simp only [ck, ev] at hc he
  cases hc; cases he; cases ho
  exact p H ws Stp.refl env
theorem po_v {a : E} {x : Expr} (h : PE X x (RE t G ts C a)) : PO X (some x) (RO t G ts C a) := by
  refine ⟨fun pins s σ H Q I hw => ?_⟩
  obtain ⟨T, ws, g, ρ, m, g', d, o, ρ', hc, hf, he, ho, env, p⟩ := hw
  rw [evalPart_some]
  refine thn (h.run pins s σ H (fun v H1 => (∃ i, v = .int i ∧ o = some i ∨ v = .non ∧ o = none) ∧ Q o H1) I ?_) fun u s1 ⟨x, H1, I1, r1, q1⟩ => ?_
  · refine ⟨T, ws, g, ρ, m, g', d, ρ', hc, he, env, fun v H' w ws' st env' r _ _ => ⟨?_, p H' ws' st.drop1 (env'.less fun a z => .inl z)⟩⟩
    cases d <;> simp only [optI] at ho <;> try cases ho
    · exact ⟨0, .inr ⟨(r.isNon rfl).1, rfl⟩⟩
    · exact ⟨_, .inl ⟨(r.isInt _ rfl).1, rfl⟩⟩
  · obtain ⟨⟨i, h1 | h1⟩, q⟩ := q1
    · obtain ⟨rfl, rfl⟩ := h1
      obtain ⟨t, rfl⟩ := r1
      exact ⟨some i, H1, I1, .int i t, q⟩
    · obtain ⟨rfl, rfl⟩ := h1
      cases r1
      exact ⟨none, H1, I1, .none, q⟩
theorem FzA.take : ∀ {ds : List D} {vs : List V} {n : Nat}, FzA G H N ds vs → FzA G H N (ds.take n) (vs.take n)
  | _, _, 0, _ => by simp; exact .nil
  | _, _, n + 1, .nil => by simp; exact .nil
  | _, _, n + 1, .cons h t => .cons h t.take
theorem FzA.drop : ∀ {ds : List D} {vs : List V} {n : Nat}, FzA G H N ds vs → FzA G H N (ds.drop n) (vs.drop n)
  | _, _, 0, h => by simpa using h
  | _, _, n + 1, .nil => by simp; exact .nil
  | _, _, n + 1, .cons h t => by simpa using t.drop (n := n)
theorem cut_len {α : Type} {xs : List α} {lo hi : Option Int} (h : HT.sIx xs.length 0 lo = 0 ∧ HT.sIx xs.length xs.length hi = xs.length) : cutD xs lo hi = xs := by
  unfold cutD
  rw [h.1, h.2]; simp
/-- a new list that is a value at once -/
theorem Post.newLz {Bs : List Addr} {ds : List D} {Q : VK} {xs : List V} (p : Post G ts H T Bs g ρ σ .z (.lst ds) Q) (st : Stp H Bs H' ws'.flatten) (e : EnvOk G ts H' T ws' g ρ σ) (f : FzA G H' (uni T ws'.flatten) ds xs) (q : Addr) (hq : H' q = none) : Q (.ref q) (upd H' q (.lst xs)) := by
  have f' : FzA G (upd H' q (.lst xs)) (uni T ws'.flatten) ds xs := f.next (S := fun _ => False) (B := fun _ => False) (B' := fun _ => False) (kp_new hq) ⟨fun a z => z.elim, fun a z => z.elim, fun a _ z => z, fun a _ z => z⟩
  refine p.fz (Stp.trans st (fun x z => z) (stp_new hq)) (e.grow (kp_new hq) (fun a z => trk_new a (e.tt a z)) (fun a z => .inl z) (tabs_new hq e.tb)) (.lst (.of upd_same) ?_ f')
  rintro (z | z)
  · exact e.tt q z hq
  · exact e.trk q z hq
theorem sd_sl {a lo hi : E} {x : Expr} {l h : Option Expr} {pos p2 : Pos} (hK : X.K = G.K) (ha : PE X x (RE t G ts C a)) (hl : PO X l (RO t G ts C lo)) (hh : PO X h (RO t G ts C hi)) : PE X (.Subscript x (.Slice l h none p2) pos) (RE t G ts C (.sl a lo hi)) := by
  refine PE.of (pe_slice (sl_tupA.or sl_list) ha hl hh) ?_
  rintro σ H Q ⟨T, ws, g, ρ, m, g', d, ρ', hc, he, env, p⟩
  simp only [ck, ev] at hc he
  split at hc
  · rename_i ma g1 e1
    split at hc
    · rename_i ml g2 e2
      split at hc
      · rename_i mh g3 e3
        split at hc
        · rename_i f
          simp only [Bool.and_eq_true] at f
          obtain ⟨⟨f1, f2⟩, f3⟩ := f
          cases hc
          split at he
          · rename_i u ρ1 e4
            split at he
            · rename_i l' ρ2 e5
              split at he
              · rename_i h' ρ3 e6
                split at he
                · rename_i o1 o2 ho1 ho2
                  rw [Option.map_eq_some_iff] at he
                  obtain ⟨z, hz, ez⟩ := he
                  cases ez
                  refine ⟨T, ws, g, ρ, ma, g1, u, ρ1, e1, e4, env, fun v1 H1 w1 ws1 st1 env1 r1 n1 d1 => ?_⟩
                  refine ⟨uni T w1, ws1, g1, ρ1, ml, g2, l', o1, ρ2, e2, f2, e5, ho1, env1, fun H2 ws2 st2 env2 => ?_⟩
                  refine ⟨uni T w1, ws2, g2, ρ2, mh, g', h', o2, ρ', e3, f3, e6, ho2, env2, fun H3 ws3 st3 env3 => ?_⟩
                  have st23 : Stp H1 ws1.flatten H3 ([] ++ ws3.flatten) := by simpa using Stp.trans st2 (fun x z => z) st3
                  have r3 := r1.on env1 st23
                  have st : Stp H ws.flatten H3 ws3.flatten := (st1.two st23).drop2
                  have a1 : ∀ a ∈ w1, ¬ uni T ws3.flatten a := fun a ha z => z.elim (d1 a ha) fun q => env3.dj a q (.inr ha)
                  have env0 : EnvOk G ts H3 T ws3 g' ρ' σ := env3.less fun a z => .inl z
                  rw [hK]
                  cases u with
                  | tup xs =>
                    simp only [slD] at hz
                    cases hz
                    obtain ⟨a, vs, ds, rfl, hx | hx, hl, q⟩ := r3.seqR (lz_rd f1) rfl (N' := uni T ws3.flatten) (fun a z => z.imp (fun z => .inl (.inl z)) id) a1
                    · obtain ⟨ez, hx⟩ := hx
                      cases ez
                      have fa : FzA G H3 (uni T ws3.flatten) xs vs := fzA_of hl q
                      refine .inl ⟨a, vs, rfl, hx, fun hw => ?_, fun hw q hq => ?_⟩
                      · have : cutD xs o1 o2 = xs := cut_len (by rw [hl]; exact hw)
                        rw [this] at p
                        exact p.fz st env0 (.tup hx fa)
                      · refine p.newT st env0 ?_ q hq
                        unfold cutD L2.cutV
                        rw [hl]
                        exact fa.drop.take
                    · cases hx.1
                  | lst xs =>
                    simp only [slD] at hz
                    cases hz
                    obtain ⟨a, vs, rfl, hx, fa⟩ := (r3.seqR (lz_rd f1) rfl (N' := uni T ws3.flatten) (fun a z => z.imp (fun z => .inl (.inl z)) id) a1).lst'
                    refine .inr ⟨a, vs, rfl, hx, fun q hq => ?_⟩
                    refine p.newLz st env0 ?_ q hq
                    unfold cutD L2.cutV
                    rw [fa.length]
                    exact fa.drop.take
                  | _ => cases hz
                · cases he
              · cases he
            · cases he
          · cases he
        · cases hc
      · cases hc
    · cases hc
  · cases hc
end
end DI
end
section
set_option Elab.async false
set_option linter.all false
set_option maxRecDepth 100000
/-! Soundness of expressions, part 8: what owns nothing meanwhile; chains; places. -/
namespace DI
open PySem PySem.Spec L2
section
variable {G : CT} {ts : List Addr} {H H' : Hp} {T T' : Tl} {ws ws' : List (List Addr)} {g : Md} {ρ : Rho} {σ : St}
variable {t : Tb} {C : Calls} {X : Cx} {mc : Mc} {k : Nat} {N B N' B' S : Sets}
/-! ### the frame, all of it lent -/
theorem Rp.x_no {o : Bool} {d : D} {v : V} {w : List Addr} : ¬ Rp G H N B o .x d v w := fun h => by
  cases h with
  | co f _ => cases f
  | T _ r => cases r
theorem nil_flat {n : Nat} : (List.replicate n ([] : List Addr)).flatten = [] := by
  induction n with
  | zero => rfl
  | succ n ih => rw [List.replicate_succ, List.flatten_cons, ih]; rfl
theorem getD_rep {n i : Nat} : (List.replicate n ([] : List Addr)).getD i [] = [] := by
  rw [List.getD_eq_getElem?_getD]
  cases h : (List.replicate n ([] : List Addr))[i]? with
  | none => rfl
  | some x => exact (List.mem_replicate.mp (List.mem_of_getElem? h)).2
/-- cells aside from now on, to read alone -/
def lent (T : Tl) (l : List Addr) : Tl := ⟨fun a => T.s a ∨ a ∈ l, fun a => T.l a ∨ a ∈ l, fun a z => z.imp (T.h a) id⟩
theorem EnvOk.borrow (e : EnvOk G ts H T ws g ρ σ) : EnvOk G ts H (lent T ws.flatten) (List.replicate g.length []) (bor g) ρ σ := by
  have hl : (bor g).length = g.length := by simp [DI.bor]
  refine ⟨by rw [hl]; exact e.lr, by rw [hl]; exact e.ls, by rw [hl, List.length_replicate], by rw [nil_flat]; exact List.nodup_nil, fun a z => z.elim (e.tt a) (e.trk a), fun a h => absurd h (by rw [nil_flat]; simp), fun i m hm => ?_, e.tb⟩
  unfold DI.bor at hm
  rw [List.getElem?_map, Option.map_eq_some_iff] at hm
  obtain ⟨m0, h0, rfl⟩ := hm
  rw [getD_rep, nil_flat]
  have toN : ∀ a, (uni (lent T ws.flatten) []) a → uni T ws.flatten a := fun a z => z.elim id fun z => nomatch z
  rcases e.sl i m0 h0 with ⟨rfl, _⟩ | ⟨v, hv, r⟩
  · exact .inl ⟨rfl, rfl⟩
  · have key : m0 ≠ .x → (m0 = .z ∨ (∃ m', m0 = .w m') ∨ bor1 m0 = .w m0) := fun h => by cases m0 <;> simp_all [bor1]
    rcases key (fun z => by subst z; exact Rp.x_no r) with rfl | ⟨m', rfl⟩ | e1
    · have e2 := r.z_nil
      rw [e2] at r
      exact .inr ⟨v, hv, Rt.sets r (fun a _ z => toN a z) fun a z => .inl z⟩
    · have e2 := r.w_nil
      rw [e2] at r
      exact .inr ⟨v, hv, Rt.sets r (fun a _ z => toN a z) fun a z => .inl z⟩
    · rw [e1]
      refine .inr ⟨v, hv, .w ?_⟩
      refine (r.lend (B' := (uni (lent T ws.flatten) []).b) (fun a z => ?_) fun a ha z => ?_).sets (fun a _ z => toN a z) fun a _ z => z
      · exact ⟨toN a z.1, fun q => z.2 (.inl q)⟩
      · exact z.2 (.inr (mem_flat ha))
/-- back from it: nothing own was written -/
theorem EnvOk.back {w : List Addr} {l : List Addr} (e : EnvOk G ts H T ws g ρ σ) (st : Stp H [] H' l) (tb : Tabs ts H') (hw : ∀ a ∈ w, a ∈ l) (hd : ∀ a ∈ w, ¬ uni T ws.flatten a) (ht : ∀ a ∈ w, H' a ≠ none) : EnvOk G ts H' (uni T w) ws g ρ σ := by
  have nw : ∀ a ∈ w, H a = none := fun a ha => (st.sub a (hw a ha)).elim (fun z => nomatch z) id
  refine ⟨e.lr, e.ls, e.lw, e.nd, fun a z => z.elim (fun z => st.trk a (e.tt a z)) (ht a), fun a h z => z.elim (e.dj a h) fun z => hd a z (.inr h), fun i m hm => ?_, tb⟩
  refine (e.sl i m hm).imp id fun ⟨v, h1, h2⟩ => ⟨v, h1, Rt.next h2 st.kp (fun a z => (nomatch z)) (fun a ha z => ?_) fun a _ z => nomatch z⟩
  rcases z with (z | z) | z
  · exact .inl z
  · exact absurd (nw a z) ha
  · exact .inr z
theorem sd_pur {e : E} {x : Expr} (hG : GOk t mc G) (h : PE X x (RE t G ts C e)) : PE X x (RE t G ts C (.pur e)) := by
  refine PE.of h ?_
  rintro σ H Q ⟨T, ws, g, ρ, m, g', d, ρ', hc, he, env, p⟩
  simp only [ck, ev] at hc he
  split at hc
  · rename_i m0 g0 e1
    split at hc
    · rename_i hp
      cases hc
      split at he
      · rename_i d0 ρ0 e2
        cases he
        refine ⟨lent T ws.flatten, _, bor g, ρ, m, g0, d, ρ0, e1, e2, env.borrow, fun v H' w ws' st env' r nd dj => ?_⟩
        rw [nil_flat] at st
        refine p v H' w ws ⟨st.kp.mono (fun a z => nomatch z), fun a ha => ?_, st.trk⟩ (env.back st env'.tb (fun a ha => List.mem_append_left _ ha) dj fun a ha => env'.tt a (.inr ha)) ?_ nd fun a ha z => dj a ha (.inl z)
        · rcases List.mem_append.mp ha with ha | ha
          · exact (st.sub a (List.mem_append_left _ ha)).elim (fun z => nomatch z) .inr
          · exact .inl ha
        · refine Rp.sets (r.anyB hG.pl hp) (fun a _ z => ?_) fun a _ z => z
          rcases z with (z | z) | z
          · exact .inl (.inl (.inl z))
          · exact .inl (.inr z)
          · exact .inl (.inl (.inr z))
      · cases he
    · cases hc
  · cases hc
/-! ### a op b op c -/
theorem cmpR_int {o : Cp} (ho : cmpI o = true) {x y : D} {v1 v2 : V} {z : Bool} {Q : VK} (f1 : Fz G H N x v1) (f2 : Fz G H N y v2) (h : cpD o x y = some z) (q : Q (.bl z) H) : cpR G.K o v1 v2 H Q :=
  cpR_ok (N := N) (B := fun _ => False) (m1 := .z) (m2 := .z) (.z f1) (.z f2) rfl rfl h q
theorem cmpR_imp {o : Cp} (ho : cmpI o = true) {x y : D} {v1 v2 : V} {z : Bool} {Q : VK} (f1 : Fz G H N x v1) (f2 : Fz G H N y v2) (h : cpD o x y = some z) : (∃ i j, v1 = .int i ∧ v2 = .int j) := by
  cases o <;> simp only [cmpI] at ho <;> first | cases ho | skip
  all_goals
    cases x <;> cases y <;> simp only [cpD] at h <;> first | cases h | skip
    exact ⟨_, _, f1.int', f2.int'⟩
theorem ch_parts {o1 o2 : Cp} {a b c : E} {m : M} {g' : Md} {d : D} {ρ' : Rho} (hc : ck t (.ch o1 o2 a b c) g = some (m, g')) (he : ev C (.ch o1 o2 a b c) ρ = some (d, ρ')) :
    ∃ ma mb mc g1 x y ρ1 ρ2, ck t a g = some (ma, g1) ∧ ck t b g1 = some (mb, g') ∧ ck t c g' = some (mc, g') ∧ ma.fzb = true ∧ mb.fzb = true ∧ mc.fzb = true ∧ m = .z ∧ ev C a ρ = some (x, ρ1) ∧ ev C b ρ1 = some (y, ρ2) ∧
      ((∃ z u, cpD o1 x y = some true ∧ ev C c ρ2 = some (z, ρ') ∧ cpD o2 y z = some u ∧ d = .bl u) ∨ (cpD o1 x y = some false ∧ d = .bl false ∧ ρ' = ρ2)) := by
  simp only [ck, ev] at hc he
  split at hc
  · rename_i ma g1 e1
    split at hc
    · rename_i mb g2 e2
      split at hc
      · rename_i mc g3 e3
        split at hc
        · rename_i f
          simp only [Bool.and_eq_true, decide_eq_true_eq] at f
          obtain ⟨⟨⟨f1, f2⟩, f3⟩, rfl⟩ := f
          cases hc
          split at he
          · rename_i x ρ1 e4
            split at he
            · rename_i y ρ2 e5
              refine ⟨ma, mb, mc, g1, x, y, ρ1, ρ2, e1, e2, e3, f1, f2, f3, rfl, e4, e5, ?_⟩
              split at he
              · rename_i e6
                split at he
                · rename_i z ρ3 e7
                  rw [Option.map_eq_some_iff] at he
                  obtain ⟨u, hu, eu⟩ := he
                  cases eu
                  exact .inl ⟨z, u, e6, e7, hu, rfl⟩
                · cases he
              · rename_i e6
                cases he
                exact .inr ⟨e6, rfl, rfl⟩
              · cases he
            · cases he
          · cases he
        · cases hc
      · cases hc
    · cases hc
  · cases hc
theorem Fz.on {H1 H2 : Hp} {ws1 ws2 : List (List Addr)} {d : D} {v : V} (f : Fz G H1 (uni T ws1.flatten) d v) (st : Stp H1 ws1.flatten H2 ws2.flatten) : Fz G H2 (uni T ws2.flatten) d v :=
  f.next (S := (· ∈ ws1.flatten)) (B := (· ∈ ws1.flatten)) (B' := fun _ => False) st.kp ⟨fun a z => .inr z, fun a z => z, fun a ha z => z.imp id fun z => (st.sub a z).elim id fun q => absurd q ha, fun a _ z => z.elim⟩
theorem tch {o1 o2 : Cp} {a b c : E} {m : M} {d : D} {ρ' : Rho} {g' : Md} {Q : VK} (h1 : cmpI o1 = true) (h2 : cmpI o2 = true) (hc : ck t (.ch o1 o2 a b c) g = some (m, g')) (he : ev C (.ch o1 o2 a b c) ρ = some (d, ρ')) (env : EnvOk G ts H T ws g ρ σ)
    (p : ∀ H' ws', Stp H ws.flatten H' ws'.flatten → EnvOk G ts H' T ws' g' ρ' σ → ∀ v, (∃ u, v = .bl u ∧ d = .bl u) → Q v H') : tChain (cpR G.K o1) (cpR G.K o2) (RE t G ts C a) (RE t G ts C b) (RE t G ts C c) σ H Q := by
  obtain ⟨ma, mb, mc, g1, x, y, ρ1, ρ2, e1, e2, e3, f1, f2, f3, rfl, e4, e5, h⟩ := ch_parts hc he
  refine RE.bin e1 e2 e4 e5 env fun v1 v2 H2 w1 w2 ws2 w => ?_
  have F1 := w.f1 f1
  have F2 := w.f2 f2
  have st := w.stp
  have env2 := w.env0
  rcases h with ⟨z, u, c1, e6, c2, rfl⟩ | ⟨c1, rfl, rfl⟩
  · refine cmpR_int h1 F1 F2 c1 ⟨true, rfl, ?_⟩
    rw [if_pos rfl]
    refine ⟨T, ws2, g', ρ2, mc, g', z, ρ', e3, e6, env2, fun v3 H3 w3 ws3 st3 env3 r3 n3 d3 => ?_⟩
    have F3 : Fz G H3 (uni T ws3.flatten) z v3 := r3.freeze f3 (fun a z => z.imp .inl id) fun a ha z => z.elim (d3 a ha) fun q => env3.dj a q (.inr ha)
    exact cmpR_int h2 (F2.on st3.drop1) F3 c2 (p H3 ws3 (Stp.trans st (fun x z => z) st3.drop1) (env3.less fun a z => .inl z) _ ⟨u, rfl, rfl⟩)
  · refine cmpR_int h1 F1 F2 c1 ⟨false, rfl, ?_⟩
    rw [if_neg Bool.false_ne_true]
    exact p H2 ws2 st env2 _ ⟨false, rfl, rfl⟩
theorem chM {o1 o2 : Cp} {b c : Expr} (h1 : cmpI o1 = true) (h2 : cmpI o2 = true) (hb : isSetX b = false) (hc : isSetX c = false) : lastMarks [cpB o1, cpB o2] [b, c] = false :=
  behind_no hc
theorem sd_ch {o1 o2 : Cp} {a b c : E} {x y z : Expr} {pos : Pos} (hK : X.K = G.K) (hu : X.A.units + 65 < cLine) (h1 : cmpI o1 = true) (h2 : cmpI o2 = true) (hy : isSetX y = false) (hz : isSetX z = false)
    (ha : PE X x (RE t G ts C a)) (hb : PE X y (RE t G ts C b)) (hc : PE X z (RE t G ts C c)) : PE X (.Compare x [cpB o1, cpB o2] [y, z] pos) (RE t G ts C (.ch o1 o2 a b c)) := by
  refine PE.of (pe_chain (op_cp hu o1) (op_cp hu o2) ha hb hc (chM h1 h2 hy hz)) ?_
  rintro σ H Q ⟨T, ws, g, ρ, m, g', d, ρ', hc, he, env, p⟩
  rw [hK]
  refine tch h1 h2 hc he env fun H' ws' st env' v hv => ?_
  obtain ⟨u, rfl, rfl⟩ := hv
  have hm : m = .z := by obtain ⟨_, _, _, _, _, _, _, _, _, _, _, _, _, _, h, _⟩ := ch_parts hc he; exact h
  subst hm
  exact p.fz st env' (.bl _)
theorem sd_chT {o1 o2 : Cp} {a b c : E} {x y z : Expr} {pos : Pos} (hK : X.K = G.K) (hu : X.A.units + 65 < cLine) (h1 : cmpI o1 = true) (h2 : cmpI o2 = true) (hy : isSetX y = false) (hz : isSetX z = false)
    (ha : PE X x (RE t G ts C a)) (hb : PE X y (RE t G ts C b)) (hc : PE X z (RE t G ts C c)) : PT X (.Compare x [cpB o1, cpB o2] [y, z] pos) (RT t G ts C (.ch o1 o2 a b c)) := by
  refine PT.of (pt_chain (op_cp hu o1) (op_cp hu o2) ha hb hc (chM h1 h2 hy hz)) ?_
  rintro σ H Q ⟨T, ws, g, ρ, m, g', bb, ρ', hc, hf, he, env, p⟩
  rw [hK]
  refine tch h1 h2 hc he env fun H' ws' st env' v hv => ?_
  obtain ⟨u, rfl, e⟩ := hv
  cases e
  exact ⟨bb, rfl, p H' ws' st env'⟩
end
end DI
end
section
set_option Elab.async false
set_option linter.all false
set_option maxRecDepth 100000
/-! Places: where a path stands; what is put back there. -/
namespace DI
open PySem PySem.Spec L2
section
variable {G : CT} {ts : List Addr} {H H' : Hp} {T T' : Tl} {ws ws' : List (List Addr)} {g : Md} {ρ : Rho} {σ : St}
variable {t : Tb} {C : Calls} {X : Cx} {mc : Mc} {k : Nat} {N B N' B' S : Sets}
def PathV (G : CT) (σ : St) (H : Hp) : E → V → Prop
  | .var i, v => σ[i]? = some (some v)
  | .fld p c j, v => ∃ a dx fs q, PathV G σ H p (.ref a) ∧ H a = some (.ins (G.ca c) dx fs) ∧ (G.cf c)[j]? = some q ∧ fs.lookup q.1 = some v
  | _, _ => False
def tPath (G : CT) (p : E) : TE := fun σ H Q => ∃ v, PathV G σ H p v ∧ Q v H
theorem sd_path (hX : CxM mc X k) (hK : X.K = G.K) (hG : GOk t mc G) : ∀ {p : E} {x : Expr}, isPath p = true → mat mc p x = true → PE X x (tPath G p)
  | .var i, .Name x pos, _, hm => by
    obtain ⟨h1, h2, h3, h4⟩ := okN_ok (by simpa only [mat] using hm)
    exact PE.of (pe_var (i := i) (by rw [hX.hN]; exact h1) (hX.vis x h2) h3 h4) fun σ H Q ⟨v, h, q⟩ => ⟨v, h, q⟩
  | .fld p c j, .Attribute v f pos, hp, hm => by
    simp only [mat, Bool.and_eq_true, decide_eq_true_eq] at hm
    obtain ⟨hd, hf, hm⟩ := hm
    refine PE.of (pe_fld (sd_path hX hK hG (p := p) hp hm) (dot_ok hd)) ?_
    rintro σ H Q ⟨u, ⟨a, dx, fs, q, h1, h2, h3, h4⟩, hq⟩
    refine ⟨_, h1, a, G.ca c, dx, fs, u, rfl, h2, ?_⟩
    have e : f = q.1 := by
      rw [hG.mcf, ← hG.cf, h3] at hf
      exact (Option.some.inj hf).symm
    rw [hK, e]
    have := hG.cls c q (List.mem_of_getElem? h3)
    exact ⟨this.1, this.2, h4, hq⟩
/-- the part (m, d, v, w) of (mr, dr, vr, wr), and what another part there makes -/
def Sub (G : CT) (H : Hp) (N B : Sets) (m : M) (d : D) (v : V) (w : List Addr) (mr : M) (vr : V) (wr : List Addr) (up : D → D) : Prop :=
  Rp G H N B true m d v w ∧ ∃ rest : List Addr, wr.Perm (w ++ rest) ∧ ∀ (H' : Hp) (N' B' S : Sets) (d' : D) (w' : List Addr), Kp H H' S → Nx H S N B N' B' → (∀ a ∈ rest, ¬ S a) → Rp G H' N' B' true m d' v w' →
    ∃ wr', Rp G H' N' B' true mr (up d') vr wr' ∧ wr'.Perm (w' ++ rest)
theorem RpT.put : ∀ {ms : List M} {ds : List D} {vs : List V} {w : List Addr} {j : Nat} {d : D} {m : M}, RpT G H N B true (chain ms) ds vs w → ds[j]? = some d → ms[j]? = some m →
    ∃ v wj rest, vs[j]? = some v ∧ Rp G H N B true m d v wj ∧ w.Perm (wj ++ rest) ∧ ∀ (H' : Hp) (N' B' S : Sets) (d' : D) (v' : V) (w' : List Addr), Kp H H' S → Nx H S N B N' B' → (∀ a ∈ rest, ¬ S a) → Rp G H' N' B' true m d' v' w' →
      ∃ w2, RpT G H' N' B' true (chain ms) (ds.set j d') (vs.set j v') w2 ∧ w2.Perm (w' ++ rest)
  | [], _, _, _, j, d, m, _, _, e => by simp at e
  | m0 :: ms, _, _, _, 0, d, m, .cons (w1 := w1) (w2 := w2) h r, e1, e2 => by
    simp at e1 e2
    subst e1 e2
    refine ⟨_, w1, w2, rfl, h, List.Perm.refl _, fun H' N' B' S d' v' w' kp nx hr h' => ⟨w' ++ w2, .cons h' (r.next kp nx hr), List.Perm.refl _⟩⟩
  | m0 :: ms, _, _, _, j + 1, d, m, .cons (w1 := w1) (w2 := w2) h r, e1, e2 => by
    obtain ⟨v, wj, rest, h1, h2, h3, h4⟩ := RpT.put (j := j) r (by simpa using e1) (by simpa using e2)
    refine ⟨v, wj, w1 ++ rest, by simpa using h1, h2, ?_, fun H' N' B' S d' v' w' kp nx hr h' => ?_⟩
    · refine (List.Perm.append_left w1 h3).trans ?_
      rw [← List.append_assoc, ← List.append_assoc]
      exact List.Perm.append_right _ List.perm_append_comm
    · obtain ⟨w2', h5, h6⟩ := h4 H' N' B' S d' v' w' kp nx (fun a ha => hr a (List.mem_append_right _ ha)) h'
      refine ⟨w1 ++ w2', .cons (h.next kp nx fun a ha => hr a (List.mem_append_left _ ha)) h5, ?_⟩
      refine (List.Perm.append_left w1 h6).trans ?_
      rw [← List.append_assoc, ← List.append_assoc]
      exact List.Perm.append_right _ List.perm_append_comm
theorem set_same {α : Type} {l : List α} {j : Nat} {v : α} (h : l[j]? = some v) : l.set j v = l := by
  obtain ⟨hj, e⟩ := List.getElem?_eq_some_iff.mp h
  rw [← e]; exact List.set_getElem_self hj
/-- a field of an own instance -/
theorem Sub.fld (hG : GOk t mc G) {c kk j : Nat} {ds : List D} {v : V} {w : List Addr} {mr : M} {vr : V} {wr : List Addr} {up : D → D} (h : Sub G H N B (.O c kk) (.tup ds) v w mr vr wr up) {q : Str × M} (hq : (G.cf c)[j]? = some q) (hj : j < kk) {x : D} (hx : ds[j]? = some x) :
    ∃ a dx fs u w', v = .ref a ∧ H a = some (.ins (G.ca c) dx fs) ∧ a ∈ wr ∧ fs.lookup q.1 = some u ∧ Sub G H N B q.2 x u w' mr vr wr fun d' => up (.tup (ds.set j d')) := by
  obtain ⟨r, rest, hp, put⟩ := h
  cases r with
  | T _ r => cases r
  | @O _ _ _ _ a dx fs wf ha hn en rr =>
    have hqt : ((G.cf c).take kk)[j]? = some q := by rw [List.getElem?_take, if_pos hj]; exact hq
    obtain ⟨u, wj, rest2, h1, h2, h3, h4⟩ := RpT.put rr hx (m := q.2) (by rw [List.getElem?_map, hqt]; rfl)
    have hl : fs.lookup q.1 = some u := by
      refine lookup_nth ?_ (j := j) ?_ h1
      · rw [en, List.map_take]
        exact List.Nodup.sublist (List.take_sublist _ _) (hG.nd c)
      · rw [en, List.getElem?_map, hqt]; rfl
    refine ⟨a, dx, fs, u, wj, rfl, ha, hp.symm.subset (by simp [own1]), hl, h2, a :: (rest2 ++ rest), ?_, fun H' N' B' S d' w' kp nx hr h' => ?_⟩
    · have e : wr.Perm ((a :: wf) ++ rest) := hp
      refine e.trans ?_
      have e2 : ((a :: wf) ++ rest).Perm ((a :: (wj ++ rest2)) ++ rest) := List.Perm.append_right _ (h3.cons a)
      refine e2.trans ?_
      simp only [List.cons_append, List.append_assoc]
      exact List.perm_middle.symm
    · obtain ⟨w2, h5, h6⟩ := h4 H' N' B' S d' u w' kp nx (fun a' ha' => hr a' (List.mem_cons_of_mem _ (List.mem_append_left _ ha'))) h'
      have na : ¬ S a := hr a (by simp)
      have hO : Rp G H' N' B' true (.O c kk) (.tup (ds.set j d')) (.ref a) (a :: w2) := by
        refine Rp.O (w := w2) (kp.keep _ _ ha (fun ps z => by cases z) na) (fun z => nomatch z) en ?_
        rw [set_same h1] at h5
        exact h5
      obtain ⟨wr', h7, h8⟩ := put H' N' B' S (.tup (ds.set j d')) (a :: w2) kp nx (fun a' ha' => hr a' (List.mem_cons_of_mem _ (List.mem_append_right _ ha'))) hO
      refine ⟨wr', h7, h8.trans ?_⟩
      refine (List.Perm.append_right rest (h6.cons a)).trans ?_
      simp only [List.cons_append, List.append_assoc]
      exact List.perm_middle.symm
/-- the place of a path -/
structure Foc (G : CT) (ts : List Addr) (H : Hp) (T : Tl) (ws : List (List Addr)) (g : Md) (ρ : Rho) (σ : St) (p : E) (m : M) (x : D) (up : D → Rho) (v : V) (w : List Addr) (mr : M) (vr : V) (ur : D → D) : Prop where
  hi : g[root p]? = some mr
  nw : mr.isW = false
  hv : σ[root p]? = some (some vr)
  sub : Sub G H (uni T ws.flatten).s (uni T ws.flatten).b m x v w mr vr (ws.getD (root p) []) ur
  at_ : ∀ (H' : Hp) (S : Sets), Kp H H' S → (∀ a ∈ ws.getD (root p) [], ¬ S a) → PathV G σ H' p v
  up : ∀ d, up d = ρ.set (root p) (ur d)
  same : ur x = ρ.getD (root p) .non
theorem foc (hG : GOk t mc G) (env : EnvOk G ts H T ws g ρ σ) : ∀ {p : E} {m : M} {x : D} {up : D → Rho}, isPath p = true → pmode t g p = some m → m.isW = false → loc ρ p = some (x, up) → ∃ v w mr vr ur, Foc G ts H T ws g ρ σ p m x up v w mr vr ur
  | .var i, m, x, up, _, hm, hw, hl => by
    simp only [pmode] at hm
    simp only [loc] at hl
    cases hl
    rcases env.sl i m hm with ⟨e, _⟩ | ⟨v, hv, r⟩
    · subst e; cases hw
    · refine ⟨v, ws.getD i [], m, v, id, hm, hw, hv, ⟨r, [], List.Perm.of_eq (List.append_nil _).symm, fun H' N' B' S d' w' _ _ _ h' => ⟨w', h', List.Perm.of_eq (List.append_nil _).symm⟩⟩, fun _ _ _ _ => hv, fun d => rfl, rfl⟩
  | .fld p c j, m, x, up, hp, hm, hw, hl => by
    simp only [pmode] at hm
    simp only [loc] at hl
    split at hm
    · rename_i c' kk e1
      split at hm
      · rename_i hcj
        rw [Bool.and_eq_true, decide_eq_true_eq, decide_eq_true_eq] at hcj
        obtain ⟨rfl, hj⟩ := hcj
        rw [Option.map_eq_some_iff] at hm
        obtain ⟨q, hq, rfl⟩ := hm
        split at hl
        · rename_i fs up0 e2
          rw [Option.map_eq_some_iff] at hl
          obtain ⟨z, hz, e3⟩ := hl
          cases e3
          obtain ⟨v, w, mr, vr, ur, f⟩ := foc hG env (p := p) hp e1 rfl e2
          have hq' : (G.cf c)[j]? = some q := by rw [hG.cf]; exact hq
          obtain ⟨a, dx, fvs, u, w', rfl, ha, hin, hl, hs⟩ := f.sub.fld hG hq' hj hz
          refine ⟨u, w', mr, vr, _, f.hi, f.nw, f.hv, hs, fun H' S kp hs' => ⟨a, dx, fvs, q, f.at_ H' S kp hs', kp.keep _ _ ha (fun ps z => by cases z) (hs' a hin), hq', hl⟩, fun d => f.up _, ?_⟩
          show ur (.tup (fs.set j x)) = _
          rw [set_same hz]
          exact f.same
        · cases hl
      · cases hm
    · cases hm
end
end DI
end
section
set_option Elab.async false
set_option linter.all false
set_option maxRecDepth 100000
/-! What is lent to a callee, and what comes back. -/
namespace DI
open PySem PySem.Spec L2
section
variable {G : CT} {ts : List Addr} {H H' : Hp} {T T' : Tl} {ws ws' : List (List Addr)} {g : Md} {ρ : Rho} {σ : St}
variable {t : Tb} {C : Calls} {X : Cx} {mc : Mc} {k : Nat} {N B N' B' S : Sets}
theorem mem_set_flat {ws : List (List Addr)} {i : Nat} {w : List Addr} {a : Addr} (h : a ∈ (ws.set i w).flatten) : a ∈ ws.flatten ∨ a ∈ w := by
  obtain ⟨l, hl, ha⟩ := List.mem_flatten.mp h
  rcases List.mem_or_eq_of_mem_set hl with q | q
  · exact .inl (List.mem_flatten.mpr ⟨l, q, ha⟩)
  · exact .inr (q ▸ ha)
theorem flat_put {ws : List (List Addr)} {i : Nat} {w : List Addr} (hi : i < ws.length) : (ws.set i w).flatten.Perm (w ++ (ws.set i []).flatten) := by
  have h := flat_split (ws := ws.set i w) (i := i) (by rw [List.length_set]; exact hi)
  rw [getD_set_eq hi, List.set_set] at h
  exact h
theorem set_flat_nodup {ws : List (List Addr)} {i : Nat} {w : List Addr} (hn : ws.flatten.Nodup) (nd : w.Nodup) (dj : ∀ a ∈ w, a ∉ ws.flatten) : (ws.set i w).flatten.Nodup := by
  by_cases hi : i < ws.length
  · refine (flat_put hi).symm.nodup ?_
    refine List.nodup_append.mpr ⟨nd, hn.sublist flat_set_nil, fun a ha b hb e => ?_⟩
    subst e
    exact dj a ha (flat_set_nil.subset hb)
  · rw [List.set_eq_of_length_le (by omega)]; exact hn
/-- a value that stands aside goes into a slot -/
theorem EnvOk.give {i : Nat} {m : M} {d : D} {v : V} {w : List Addr} (e : EnvOk G ts H (uni T w) ws g ρ σ) (hi : i < g.length) (r : Rt G H (uni (uni T w) ws.flatten) m d v w) (nd : w.Nodup) (dj : ∀ a ∈ w, ¬ T a) :
    EnvOk G ts H T (ws.set i w) (g.set i m) (ρ.set i d) (σ.set i (some v)) := by
  have hw : i < ws.length := by rw [e.lw]; exact hi
  have sub : ∀ a, uni T (ws.set i w).flatten a → uni (uni T w) ws.flatten a := fun a z => by
    rcases z with z | z
    · exact .inl (.inl z)
    · exact (mem_set_flat z).elim .inr fun q => .inl (.inr q)
  refine ⟨by simp [e.lr], by simp [e.ls], by simp [e.lw], set_flat_nodup e.nd nd fun a ha z => e.dj a z (.inr ha), fun a z => e.tt a (.inl z), fun a h z => ?_, fun j m' hm => ?_, e.tb⟩
  · exact (mem_set_flat h).elim (fun q => e.dj a q (.inl z)) fun q => dj a q z
  · by_cases hj : i = j
    · subst hj
      rw [List.getElem?_set_self hi] at hm
      cases hm
      rw [getD_set_eq hw, getD_set_eq (by rw [e.lr]; exact hi), List.getElem?_set_self (by rw [e.ls]; exact hi)]
      exact .inr ⟨v, rfl, Rt.sets r fun a _ z => sub a z⟩
    · rw [List.getElem?_set_ne hj] at hm
      rw [getD_set_ne hj, getD_set_ne hj, List.getElem?_set_ne hj]
      exact (e.sl j m' hm).imp id fun ⟨v, h1, h2⟩ => ⟨v, h1, Rt.sets h2 fun a _ z => sub a z⟩
/-- the arguments as they stand behind their reckoning -/
def AR (t : Tb) (G : CT) (σ : St) (H : Hp) (T : Tl) (ws : List (List Addr)) (g : Md) (ρ : Rho) : E → List PK → List D → List V → Prop
  | .a0, [], [], [] => True
  | .aE _ r, .z :: ps, d :: ds, v :: vs => Fz G H (uni T ws.flatten) d v ∧ AR t G σ H T ws g ρ r ps ds vs
  | .aE _ r, .bw m :: ps, d :: ds, v :: vs => Rp G H (uni T ws.flatten).s (uni T ws.flatten).b false m d v [] ∧ AR t G σ H T ws g ρ r ps ds vs
  | .abw p r, .bw m :: ps, d :: ds, v :: vs => (isPath p = true ∧ m.isW = false ∧ pmode t g p = some m ∧ PathV G σ H p v ∧ ∃ up, loc ρ p = some (d, up)) ∧ AR t G σ H T ws g ρ r ps ds vs
  | .aio p r, .io m :: ps, d :: ds, v :: vs => (isPath p = true ∧ m.pl = true ∧ pmode t g p = some m ∧ PathV G σ H p v ∧ ∃ up, loc ρ p = some (d, up)) ∧ AR t G σ H T ws g ρ r ps ds vs
  | _, _, _, _ => False
/-- what the callee is handed -/
inductive PR (G : CT) (H : Hp) (N Bc : Sets) : List PK → List D → List V → List (List Addr) → Prop
  | nil : PR G H N Bc [] [] [] []
  | z {ps ds vs wss d v} : Fz G H N d v → PR G H N Bc ps ds vs wss → PR G H N Bc (.z :: ps) (d :: ds) (v :: vs) ([] :: wss)
  | bw {ps ds vs wss m d v} : Rp G H N Bc false m d v [] → PR G H N Bc ps ds vs wss → PR G H N Bc (.bw m :: ps) (d :: ds) (v :: vs) ([] :: wss)
  | io {ps ds vs wss m d v w} : m.pl = true → Rp G H N Bc true m d v w → PR G H N Bc ps ds vs wss → PR G H N Bc (.io m :: ps) (d :: ds) (v :: vs) (w :: wss)
/-- what the callee has left in what was lent to write -/
inductive OR (G : CT) (H : Hp) (N : Sets) : List PK → List V → List D → List (List Addr) → Prop
  | nil : OR G H N [] [] [] []
  | z {ps vs v os wss} : OR G H N ps vs os wss → OR G H N (.z :: ps) (v :: vs) os ([] :: wss)
  | bw {ps vs m v os wss} : OR G H N ps vs os wss → OR G H N (.bw m :: ps) (v :: vs) os ([] :: wss)
  | io {ps vs m v os wss d w} : Rp G H N (fun _ => False) true m d v w → OR G H N ps vs os wss → OR G H N (.io m :: ps) (v :: vs) (d :: os) (w :: wss)
theorem OR.sets {ps : List PK} {vs : List V} {os : List D} {wss : List (List Addr)} (h : OR G H N ps vs os wss) (hn : ∀ a, H a ≠ none → N' a → N a) : OR G H N' ps vs os wss := by
  induction h with
  | nil => exact .nil
  | z _ ih => exact .z ih
  | bw _ ih => exact .bw ih
  | io r _ ih => exact .io (r.sets hn fun _ _ z => z) ih
theorem pmode_root : ∀ {p : E} {m : M}, isPath p = true → pmode t g p = some m → m.isW = false → ∃ mr, g[root p]? = some mr ∧ mr.isW = false
  | .var i, m, _, h, hw => ⟨m, h, hw⟩
  | .fld p c j, m, hp, h, hw => by
    simp only [pmode] at h
    split at h
    · rename_i e; exact pmode_root (p := p) hp e rfl
    · cases h
theorem pmode_set : ∀ {p : E} {i : Nat} {m0 : M}, isPath p = true → root p ≠ i → pmode t (g.set i m0) p = pmode t g p
  | .var j, i, m0, _, h => List.getElem?_set_ne fun e => h e.symm
  | .fld p c j, i, m0, hp, h => by
    simp only [pmode]
    rw [pmode_set (p := p) hp h]
theorem loc_set : ∀ {p : E} {i : Nat} {d0 x : D} {up : D → Rho}, isPath p = true → root p ≠ i → loc ρ p = some (x, up) → ∃ up', loc (ρ.set i d0) p = some (x, up')
  | .var j, i, d0, x, up, _, h, e => by
    simp only [loc] at e ⊢
    cases e
    have h2 : (ρ.set i d0).getD j .non = ρ.getD j .non := getD_set_ne fun e => h e.symm
    rw [h2]
    exact ⟨_, rfl⟩
  | .fld p c j, i, d0, x, up, hp, h, e => by
    simp only [loc] at e ⊢
    split at e
    · rename_i fs up0 e0
      obtain ⟨up1, h1⟩ := loc_set (d0 := d0) (p := p) hp h e0
      rw [h1]
      rw [Option.map_eq_some_iff] at e
      obtain ⟨z, hz, ez⟩ := e
      cases ez
      exact ⟨_, by simp only [hz]; rfl⟩
    · cases e
theorem loc_at : ∀ {p : E} {ρ2 : Rho} {x : D} {up : D → Rho}, isPath p = true → ρ2.getD (root p) .non = ρ.getD (root p) .non → loc ρ p = some (x, up) → ∃ up', loc ρ2 p = some (x, up') ∧ ∃ ur : D → D, (∀ d, up d = ρ.set (root p) (ur d)) ∧ ∀ d, up' d = ρ2.set (root p) (ur d)
  | .var j, ρ2, x, up, _, h, e => by
    simp only [loc] at e ⊢
    cases e
    have h2 : ρ2.getD j .non = ρ.getD j .non := h
    rw [h2]
    exact ⟨_, rfl, id, fun _ => rfl, fun _ => rfl⟩
  | .fld p c j, ρ2, x, up, hp, h, e => by
    simp only [loc] at e ⊢
    split at e
    · rename_i fs up0 e0
      obtain ⟨up1, h1, ur, h2, h3⟩ := loc_at (ρ2 := ρ2) (p := p) hp h e0
      rw [h1]
      rw [Option.map_eq_some_iff] at e
      obtain ⟨z, hz, ez⟩ := e
      cases ez
      exact ⟨_, by simp only [hz]; rfl, fun d => ur (.tup (fs.set j d)), fun d => h2 _, fun d => h3 _⟩
    · cases e
theorem AR.hide {i : Nat} {T1 : Tl} {ws1 : List (List Addr)} (hs : ∀ a, uni T1 ws1.flatten a ↔ uni T ws.flatten a) (hl : ∀ a, T1.l a ↔ T.l a) : ∀ {as : E} {ps : List PK} {ds : List D} {vs : List V}, AR t G σ H T ws g ρ as ps ds vs →
    (i ∉ ioRoots as) → (i ∉ bwRoots as) → AR t G σ H T1 ws1 (g.set i .x) ρ as ps ds vs
  | .a0, [], [], [], _, _, _ => True.intro
  | .aE _ r, .z :: ps, d :: ds, v :: vs, h, hi, hb => ⟨h.1.sets fun a _ z => (hs a).mp z, AR.hide hs hl h.2 hi hb⟩
  | .aE _ r, .bw m :: ps, d :: ds, v :: vs, h, hi, hb => ⟨h.1.sets (fun a _ z => (hs a).mp z) fun a _ z => ⟨(hs a).mp z.1, fun q => z.2 ((hl a).mpr q)⟩, AR.hide hs hl h.2 hi hb⟩
  | .abw p r, .bw m :: ps, d :: ds, v :: vs, h, hi, hb => by
    obtain ⟨⟨h1, h2, h3, h4, h5⟩, h6⟩ := h
    simp only [bwRoots, List.mem_cons, not_or] at hb
    exact ⟨⟨h1, h2, by rw [pmode_set h1 fun e => hb.1 e.symm]; exact h3, h4, h5⟩, AR.hide hs hl h6 hi hb.2⟩
  | .aio p r, .io m :: ps, d :: ds, v :: vs, h, hi, hb => by
    obtain ⟨⟨h1, h2, h3, h4, h5⟩, h6⟩ := h
    simp only [ioRoots, List.mem_cons, not_or] at hi
    exact ⟨⟨h1, h2, by rw [pmode_set h1 fun e => hi.1 e.symm]; exact h3, h4, h5⟩, AR.hide hs hl h6 hi.2 hb⟩
theorem putIo_other : ∀ {as : E} {outs : List D} {ρ ρ2 : Rho} {i : Nat}, ev.putIo ρ as outs = some ρ2 → i ∉ ioRoots as → (∀ {p : E} {ρ : Rho} {x : D} {up : D → Rho} {d : D}, loc ρ p = some (x, up) → root p ≠ i → (up d).getD i .non = ρ.getD i .non) → ρ2.getD i .non = ρ.getD i .non
  | .a0, [], _, _, _, h, _, _ => by simp only [ev.putIo] at h; cases h; rfl
  | .aE _ r, ds, _, _, _, h, hi, hu => by simp only [ev.putIo] at h; exact putIo_other (as := r) h hi hu
  | .abw _ r, ds, _, _, _, h, hi, hu => by simp only [ev.putIo] at h; exact putIo_other (as := r) h hi hu
  | .aio p r, d :: ds, ρ, ρ2, i, h, hi, hu => by
    simp only [ioRoots, List.mem_cons, not_or] at hi
    simp only [ev.putIo] at h
    split at h
    · rename_i ρ1 e1
      split at h
      · rename_i up e2
        cases h
        rw [hu e2 fun e => hi.1 e.symm]
        exact putIo_other (as := r) e1 hi.2 hu
      · cases h
    · cases h
theorem up_other : ∀ {p : E} {ρ : Rho} {x : D} {up : D → Rho} {d : D} {i : Nat}, loc ρ p = some (x, up) → root p ≠ i → (up d).getD i .non = ρ.getD i .non
  | .var j, ρ, x, up, d, i, h, hi => by
    simp only [loc] at h
    cases h
    exact getD_set_ne hi
  | .fld p c j, ρ, x, up, d, i, h, hi => by
    simp only [loc] at h
    split at h
    · rename_i e0
      rw [Option.map_eq_some_iff] at h
      obtain ⟨z, hz, ez⟩ := h
      cases ez
      exact up_other e0 hi
    · cases h
end
end DI
end
section
set_option Elab.async false
set_option linter.all false
set_option maxRecDepth 100000
/-! What is lent to a callee, and what comes back, part 2. -/
namespace DI
open PySem PySem.Spec L2
section
variable {G : CT} {ts : List Addr} {H H' : Hp} {T T' : Tl} {ws ws' : List (List Addr)} {g : Md} {ρ : Rho} {σ : St}
variable {t : Tb} {C : Calls} {X : Cx} {mc : Mc} {k : Nat} {N B N' B' S : Sets}
theorem PR.sets {Bc : Sets} {ps : List PK} {ds : List D} {vs : List V} {wss : List (List Addr)} (h : PR G H N Bc ps ds vs wss) (hn : ∀ a, H a ≠ none → N' a → N a) : PR G H N' Bc ps ds vs wss := by
  induction h with
  | nil => exact .nil
  | z r _ ih => exact .z (r.sets hn) ih
  | bw r _ ih => exact .bw (r.sets hn fun _ _ z => z) ih
  | io p r _ ih => exact .io p (r.sets hn fun _ _ z => z) ih
theorem PathV.inj {p : E} {v u : V} (h : PathV G σ H p v) (h' : PathV G σ H p u) : v = u := by
  induction p generalizing v u with
  | var i =>
    have h1 : σ[i]? = some (some v) := h
    have h2 : σ[i]? = some (some u) := h'
    rw [h1] at h2
    exact Option.some.inj (Option.some.inj h2)
  | fld p c j ih =>
    obtain ⟨a, dx, fs, q, h1, h2, h3, h4⟩ := h
    obtain ⟨a', dx', fs', q', k1, k2, k3, k4⟩ := h'
    have e := ih h1 k1
    cases e
    rw [h2] at k2
    cases k2
    rw [h3] at k3
    cases k3
    rw [h4] at k4
    exact Option.some.inj k4
  | _ => exact False.elim h
theorem mem_set_getD {i j : Nat} {a : Addr} (h : a ∈ (ws.set i []).getD j []) : a ∈ ws.getD j [] ∧ (ws.length ≤ i ∨ i ≠ j) := by
  by_cases hj : i = j
  · subst hj
    by_cases hi : i < ws.length
    · rw [getD_set_eq hi] at h; cases h
    · rw [List.set_eq_of_length_le (by omega)] at h
      exact ⟨h, .inl (by omega)⟩
  · rw [getD_set_ne hj] at h
    exact ⟨h, .inr hj⟩
theorem mem_hid {i j : Nat} {a : Addr} (h : a ∈ ws.getD j []) (hij : i ≠ j) : a ∈ (ws.set i []).flatten := mem_flat (i := j) (by rw [getD_set_ne hij]; exact h)
theorem hid_not (hn : ws.flatten.Nodup) {i : Nat} (hi : i < ws.length) {a : Addr} (h : a ∈ ws.getD i []) : a ∉ (ws.set i []).flatten := by
  have := (flat_split hi).nodup_iff.mp hn
  rw [List.nodup_append] at this
  exact fun z => this.2.2 a h a z rfl
theorem hid_split {i : Nat} (hi : i < ws.length) {a : Addr} : a ∈ ws.flatten ↔ a ∈ ws.getD i [] ∨ a ∈ (ws.set i []).flatten := by
  rw [(flat_split hi).mem_iff, List.mem_append]
theorem uni_hid {i : Nat} (hi : i < ws.length) (a : Addr) : uni (uni T (ws.getD i [])) (ws.set i []).flatten a ↔ uni T ws.flatten a := by
  show ((T.s a ∨ a ∈ ws.getD i []) ∨ a ∈ (ws.set i []).flatten) ↔ (T.s a ∨ a ∈ ws.flatten)
  rw [hid_split hi, or_assoc]
theorem set_getD {α : Type} {l : List α} {i : Nat} {b : α} : l.set i (l.getD i b) = l := by
  by_cases hi : i < l.length
  · rw [List.getD_eq_getElem?_getD, List.getElem?_eq_getElem hi]
    exact List.set_getElem_self hi
  · exact List.set_eq_of_length_le (by omega)
theorem pl_nw {m : M} (h : m.pl = true) : m.isW = false := by
  cases m <;> first | rfl | cases h
/-- nothing written: the frame at another heap -/
theorem EnvOk.pass {T2 : Tl} {H2 : Hp} (e : EnvOk G ts H T ws g ρ σ) (kp : Kp H H2 S) (hS : ∀ a, S a → uni T ws.flatten a ∧ ¬ T.l a) (hw : ∀ a ∈ ws.flatten, ¬ S a) (tr : ∀ a, H a ≠ none → H2 a ≠ none) (tb : Tabs ts H2) (t2 : ∀ a, T2 a → H2 a ≠ none)
    (hn : ∀ a, T2 a → uni T ws.flatten a ∨ H a = none) (dj : ∀ a, T2 a → a ∉ ws.flatten) (hl : ∀ a, T.l a → T2.l a) : EnvOk G ts H2 T2 ws g ρ σ :=
  ⟨e.lr, e.ls, e.lw, e.nd, t2, fun a h z => dj a z h, fun i m hm => (e.sl i m hm).imp id fun ⟨v, h1, h2⟩ => ⟨v, h1, Rt.next h2 kp hS (fun a ha z => z.elim (fun z => (hn a z).elim id fun q => absurd q ha) .inr) (fun a ha => hw a (mem_flat ha)) hl⟩, tb⟩
/-- the arguments handed over, and how the frame is had back -/
theorem lend_args (hG : GOk t mc G) {as : E} : ∀ {ps : List PK} {ds : List D} {vs : List V} {T : Tl} {ws : List (List Addr)} {g : Md} {ρ : Rho}, EnvOk G ts H T ws g ρ σ → AR t G σ H T ws g ρ as ps ds vs → (ioRoots as).Nodup → (∀ i ∈ bwRoots as, i ∉ ioRoots as) →
    ∃ wss : List (List Addr), wss.flatten.Nodup ∧ (∀ a ∈ wss.flatten, ∃ j ∈ ioRoots as, a ∈ ws.getD j []) ∧
      (∀ Bc : Sets, (∀ a, Bc a → a ∈ wss.flatten ∨ (T a ∧ ¬ T.l a)) → PR G H (uni T ws.flatten).s Bc ps ds vs wss) ∧
      ∀ (S : Sets) (H2 : Hp) (T2 : Tl) (outs : List D) (w2s : List (List Addr)), Kp H H2 S → (∀ a, S a → a ∈ wss.flatten ∨ (T a ∧ ¬ T.l a)) → (∀ a, H a ≠ none → H2 a ≠ none) → Tabs ts H2 → (∀ a, T2 a → H2 a ≠ none) →
        (∀ a, T2 a → uni T ws.flatten a ∨ H a = none) → (∀ a, T2 a → a ∈ ws.flatten → a ∈ wss.flatten) → (∀ a, T.l a → T2.l a) →
        (∀ a ∈ w2s.flatten, uni T ws.flatten a ∨ H a = none) → (∀ a ∈ w2s.flatten, a ∈ ws.flatten → a ∈ wss.flatten) → w2s.flatten.Nodup → (∀ a ∈ w2s.flatten, ¬ T2 a) →
        OR G H2 (fun a => T2 a ∨ a ∈ w2s.flatten ∨ (a ∈ ws.flatten ∧ a ∉ wss.flatten)) ps vs outs w2s →
        ∃ ρ2 ws2, ev.putIo ρ as outs = some ρ2 ∧ EnvOk G ts H2 T2 ws2 g ρ2 σ ∧ ∀ a, a ∈ ws2.flatten → a ∈ w2s.flatten ∨ (a ∈ ws.flatten ∧ a ∉ wss.flatten) := by
  induction as with
  | a0 =>
    intro ps ds vs T ws g ρ env ar _ _
    cases ps <;> cases ds <;> cases vs <;> try exact False.elim ar
    refine ⟨[], List.nodup_nil, fun a h => absurd h (by simp), fun Bc _ => .nil, fun S H2 T2 outs w2s kp sc tr tb t2 hn dj hl h1 h2 h3 h4 h5 => ?_⟩
    cases h5
    exact ⟨ρ, ws, rfl, env.pass kp (fun a z => (sc a z).elim (fun q => absurd q (by simp)) fun q => ⟨.inl q.1, q.2⟩) (fun a h z => (sc a z).elim (fun q => absurd q (by simp)) fun q => env.dj a h q.1) tr tb t2 hn (fun a z q => absurd (dj a z q) (by simp)) hl, fun a z => .inr ⟨z, by simp⟩⟩
  | aE a0 r _ ih =>
    intro ps ds vs T ws g ρ env ar nd bi
    cases ps with
    | nil => exact False.elim ar
    | cons q ps =>
      cases ds with
      | nil => cases q <;> exact False.elim ar
      | cons d ds =>
        cases vs with
        | nil => cases q <;> exact False.elim ar
        | cons v vs =>
          cases q with
          | z =>
            obtain ⟨wss, i1, i2, i3, i4⟩ := ih env ar.2 nd bi
            refine ⟨[] :: wss, i1, i2, fun Bc hb => .z ar.1 (i3 Bc hb), fun S H2 T2 outs w2s kp sc tr tb t2 hn dj hl h1 h2 h3 h4 h5 => ?_⟩
            cases h5 with
            | @z _ _ _ _ w2r h5 => exact i4 S H2 T2 outs w2r kp sc tr tb t2 hn dj hl h1 h2 h3 h4 h5
          | bw m =>
            obtain ⟨wss, i1, i2, i3, i4⟩ := ih env ar.2 nd bi
            refine ⟨[] :: wss, i1, i2, fun Bc hb => .bw ?_ (i3 Bc hb), fun S H2 T2 outs w2s kp sc tr tb t2 hn dj hl h1 h2 h3 h4 h5 => ?_⟩
            · refine ar.1.sets (fun _ _ z => z) fun a _ z => ?_
              rcases hb a z with q | ⟨q1, q2⟩
              · obtain ⟨j, _, hj⟩ := i2 a q
                exact ⟨.inr (mem_flat hj), fun l => env.dj a (mem_flat hj) (T.h a l)⟩
              · exact ⟨.inl q1, q2⟩
            · cases h5 with
              | @bw _ _ _ _ _ w2r h5 => exact i4 S H2 T2 outs w2r kp sc tr tb t2 hn dj hl h1 h2 h3 h4 h5
          | io m => exact False.elim ar
          | ini c => exact False.elim ar
  | abw p r _ ih =>
    intro ps ds vs T ws g ρ env ar nd bi
    cases ps with
    | nil => exact False.elim ar
    | cons q ps =>
      cases ds with
      | nil => cases q <;> exact False.elim ar
      | cons d ds =>
        cases vs with
        | nil => cases q <;> exact False.elim ar
        | cons v vs =>
          cases q with
          | bw m =>
            obtain ⟨⟨hp, hw, hm, hv, up, hlc⟩, ar⟩ := ar
            simp only [bwRoots, List.forall_mem_cons] at bi
            obtain ⟨wss, i1, i2, i3, i4⟩ := ih env ar nd bi.2
            obtain ⟨v', w, mr, vr, ur, f⟩ := foc hG env hp hm hw hlc
            obtain rfl := PathV.inj hv (f.at_ H (fun _ => False) Kp.refl fun _ _ z => z)
            obtain ⟨rep, rest, hperm, put⟩ := f.sub
            have hri : root p ∉ ioRoots r := bi.1
            have hwi : root p < ws.length := by rw [env.lw]; exact (List.getElem?_eq_some_iff.mp f.hi).1
            have wmem : ∀ a ∈ w, a ∈ ws.getD (root p) [] := fun a ha => hperm.symm.subset (List.mem_append_left _ ha)
            refine ⟨[] :: wss, i1, i2, fun Bc hb => .bw ?_ (i3 Bc hb), fun S H2 T2 outs w2s kp sc tr tb t2 hn dj hl h1 h2 h3 h4 h5 => ?_⟩
            · refine rep.lend (fun a z => ?_) fun a ha z => ?_
              · rcases hb a z with q | ⟨q1, q2⟩
                · obtain ⟨j, _, hj⟩ := i2 a q
                  exact ⟨.inr (mem_flat hj), fun l => env.dj a (mem_flat hj) (T.h a l)⟩
                · exact ⟨.inl q1, q2⟩
              · rcases hb a z with q | ⟨q1, q2⟩
                · obtain ⟨j, hj0, hj⟩ := i2 a q
                  exact hid_not env.nd hwi (wmem a ha) (mem_hid hj fun e => hri (e ▸ hj0))
                · exact env.dj a (mem_flat (wmem a ha)) q1
            · cases h5 with
              | @bw _ _ _ _ _ w2r h5 => exact i4 S H2 T2 outs w2r kp sc tr tb t2 hn dj hl h1 h2 h3 h4 h5
          | z => exact False.elim ar
          | io m => exact False.elim ar
          | ini c => exact False.elim ar
  | aio p r _ ih =>
    intro ps ds vs T ws g ρ env ar nd bi
    cases ps with
    | nil => exact False.elim ar
    | cons q ps =>
      cases ds with
      | nil => cases q <;> exact False.elim ar
      | cons d ds =>
        cases vs with
        | nil => cases q <;> exact False.elim ar
        | cons v vs =>
          cases q with
          | io m =>
            obtain ⟨⟨hp, hpl, hm, hv, up, hlc⟩, ar⟩ := ar
            simp only [ioRoots, List.nodup_cons] at nd
            have bi' : ∀ i ∈ bwRoots r, i ≠ root p ∧ i ∉ ioRoots r := fun i hi => by
              have := bi i hi
              simp only [ioRoots, List.mem_cons, not_or] at this
              exact this
            obtain ⟨v', w, mr, vr, ur, f⟩ := foc hG env hp hm (pl_nw hpl) hlc
            obtain rfl := PathV.inj hv (f.at_ H (fun _ => False) Kp.refl fun _ _ z => z)
            obtain ⟨fi, fnw, fv, ⟨rep, rest, hperm, put⟩, _, fup, _⟩ := f
            obtain ⟨i, hi⟩ : ∃ i, i = root p := ⟨_, rfl⟩
            rw [← hi] at nd bi' fi fv hperm fup
            have hig : i < g.length := (List.getElem?_eq_some_iff.mp fi).1
            have hwi : i < ws.length := by rw [env.lw]; exact hig
            have envh := env.take (d' := ρ.getD i .non) hig (.inl (rfl : M.x = .x))
            rw [set_getD] at envh
            have arh := AR.hide (i := i) (T1 := uni T (ws.getD i [])) (ws1 := ws.set i []) (fun a => uni_hid hwi a) (fun a => Iff.rfl) ar nd.1 fun z => (bi' i z).1 rfl
            obtain ⟨wss, i1, i2, i3, i4⟩ := ih envh arh nd.2 fun j hj => (bi' j hj).2
            have pnd : (ws.getD i []).Nodup := by
              have := (flat_split hwi).nodup_iff.mp env.nd
              rw [List.nodup_append] at this
              exact this.1
            have wrn := hperm.nodup_iff.mp pnd
            rw [List.nodup_append] at wrn
            have wmem : ∀ a ∈ w, a ∈ ws.getD i [] := fun a ha => hperm.symm.subset (List.mem_append_left _ ha)
            have rmem : ∀ a ∈ rest, a ∈ ws.getD i [] := fun a ha => hperm.symm.subset (List.mem_append_right _ ha)
            have hnot : ∀ a ∈ ws.getD i [], a ∉ (ws.set i []).flatten := fun a ha => hid_not env.nd hwi ha
            have i2h : ∀ a ∈ wss.flatten, a ∈ (ws.set i []).flatten := fun a ha => let ⟨j, _, hj⟩ := i2 a ha; mem_flat hj
            have hsub : ∀ a ∈ (ws.set i []).flatten, a ∈ ws.flatten := fun a ha => flat_set_nil.subset ha
            refine ⟨w :: wss, ?_, fun a ha => ?_, fun Bc hb => ?_, fun S H2 T2 outs w2s kp sc tr tb t2 hn dj hl h1 h2 h3 h4 h5 => ?_⟩
            · rw [List.flatten_cons, List.nodup_append]
              exact ⟨wrn.1, i1, fun a ha b hb e => hnot a (wmem a ha) (i2h a (e ▸ hb))⟩
            · rw [List.flatten_cons] at ha
              rcases List.mem_append.mp ha with ha | ha
              · exact ⟨i, by simp only [ioRoots, hi]; exact List.mem_cons_self, wmem a ha⟩
              · obtain ⟨j, hj, hj2⟩ := i2 a ha
                exact ⟨j, by simp only [ioRoots]; exact List.mem_cons_of_mem _ hj, (mem_set_getD hj2).1⟩
            · refine .io hpl (rep.anyB hG.pl hpl) ((i3 Bc fun a z => ?_).sets fun a _ z => (uni_hid hwi a).mpr z)
              rcases hb a z with q | ⟨q1, q2⟩
              · rw [List.flatten_cons] at q
                rcases List.mem_append.mp q with q | q
                · exact .inr ⟨.inr (wmem a q), fun l => env.dj a (mem_flat (wmem a q)) (T.h a l)⟩
                · exact .inl q
              · exact .inr ⟨.inl q1, q2⟩
            · cases h5 with
              | @io _ _ _ _ os w2r d' w' r0 h5 =>
                rw [List.flatten_cons] at sc dj h1 h2 h3 h4
                rw [List.nodup_append] at h3
                have w1 : ∀ a ∈ w', uni T ws.flatten a ∨ H a = none := fun a ha => h1 a (List.mem_append_left _ ha)
                have w2 : ∀ a ∈ w', a ∈ ws.flatten → a ∈ w ++ wss.flatten := fun a ha => h2 a (List.mem_append_left _ ha)
                have rnot : ∀ a ∈ rest, a ∉ w ++ wss.flatten := fun a ha z => by
                  rcases List.mem_append.mp z with z | z
                  · exact wrn.2.2 a z a ha rfl
                  · exact hnot a (rmem a ha) (i2h a z)
                have hidw : ∀ a ∈ (ws.set i []).flatten, a ∈ w ++ wss.flatten → a ∈ wss.flatten := fun a ha z => by
                  rcases List.mem_append.mp z with z | z
                  · exact absurd ha (hnot a (wmem a z))
                  · exact z
                have hS : ∀ a, a ∈ w ++ wss.flatten → a ∈ ws.flatten := fun a z => (List.mem_append.mp z).elim (fun z => mem_flat (wmem a z)) fun z => hsub a (i2h a z)
                have sN : ∀ a, S a → (uni T ws.flatten).s a ∧ ¬ (uni T ws.flatten).l a := fun a z => by
                  rcases sc a z with q | ⟨q1, q2⟩
                  · exact ⟨.inr (hS a q), fun l => env.dj a (hS a q) (T.h a l)⟩
                  · exact ⟨.inl q1, q2⟩
                have rS : ∀ a ∈ rest, ¬ S a := fun a ha z => by
                  rcases sc a z with q | ⟨q1, q2⟩
                  · exact rnot a ha q
                  · exact env.dj a (mem_flat (rmem a ha)) q1
                have rT2 : ∀ a ∈ rest, ¬ T2 a := fun a ha z => rnot a ha (dj a z (mem_flat (rmem a ha)))
                have wr : ∀ a ∈ w', a ∉ rest := fun a ha hr => rnot a hr (w2 a ha (mem_flat (rmem a hr)))
                have rtrk : ∀ a ∈ rest, H a ≠ none := fun a ha => env.trk a (mem_flat (rmem a ha))
                obtain ⟨ρ2, ws2, e1, env2, sub2⟩ := i4 S H2 (uni T2 (w' ++ rest)) os w2r kp (fun a z => by
                    rcases sc a z with q | ⟨q1, q2⟩
                    · rcases List.mem_append.mp q with q | q
                      · exact .inr ⟨.inr (wmem a q), fun l => env.dj a (mem_flat (wmem a q)) (T.h a l)⟩
                      · exact .inl q
                    · exact .inr ⟨.inl q1, q2⟩) tr tb
                  (fun a z => z.elim (t2 a) fun z => (List.mem_append.mp z).elim (fun z => r0.trk a z) fun z => tr a (rtrk a z))
                  (fun a z => (z.elim (hn a) fun z => (List.mem_append.mp z).elim (w1 a) fun z => .inl (.inr (mem_flat (rmem a z)))).imp (fun z => (uni_hid hwi a).mpr z) id)
                  (fun a z ha => hidw a ha (z.elim (fun z => dj a z (hsub a ha)) fun z => (List.mem_append.mp z).elim (fun z => w2 a z (hsub a ha)) fun z => absurd ha (hnot a (rmem a z)))) hl
                  (fun a z => (h1 a (List.mem_append_right _ z)).imp (fun z => (uni_hid hwi a).mpr z) id)
                  (fun a z ha => hidw a ha (h2 a (List.mem_append_right _ z) (hsub a ha))) h3.2.1
                  (fun a z q => q.elim (h4 a (List.mem_append_right _ z)) fun q => (List.mem_append.mp q).elim (fun q => h3.2.2 a q a z rfl) fun q => rnot a q (h2 a (List.mem_append_right _ z) (mem_flat (rmem a q))))
                  (h5.sets fun a _ z => by
                    rcases z with (z | z) | z | ⟨z1, z2⟩
                    · exact .inl z
                    · rcases List.mem_append.mp z with z | z
                      · exact .inr (.inl (by rw [List.flatten_cons]; exact List.mem_append_left _ z))
                      · exact .inr (.inr ⟨mem_flat (rmem a z), by rw [List.flatten_cons]; exact rnot a z⟩)
                    · exact .inr (.inl (by rw [List.flatten_cons]; exact List.mem_append_right _ z))
                    · exact .inr (.inr ⟨hsub a z1, by rw [List.flatten_cons]; exact fun q => z2 (hidw a z1 q)⟩))
                have hri : root p ∉ ioRoots r := by rw [← hi]; exact nd.1
                have same : ρ2.getD (root p) .non = ρ.getD (root p) .non := putIo_other e1 hri fun h hne => up_other h hne
                obtain ⟨up', hl', ur2, u1, u2⟩ := loc_at (ρ2 := ρ2) hp same hlc
                have hir : i < ρ.length := by rw [env.lr]; exact hig
                have ur_eq : ∀ d, ur2 d = ur d := fun d => by
                  have a1 := u1 d
                  rw [fup d, ← hi] at a1
                  have a2 := congrArg (fun l : Rho => l.getD i .non) a1
                  rw [getD_set_eq hir, getD_set_eq hir] at a2
                  exact a2.symm
                have fin : ∀ a, H2 a ≠ none → ((T2 a ∨ a ∈ w' ++ rest) ∨ a ∈ ws2.flatten) → (T2 a ∨ a ∈ (w' :: w2r).flatten ∨ (a ∈ ws.flatten ∧ a ∉ (w :: wss).flatten)) := fun a _ z => by
                  rw [List.flatten_cons, List.flatten_cons]
                  rcases z with (z | z) | z
                  · exact .inl z
                  · rcases List.mem_append.mp z with z | z
                    · exact .inr (.inl (List.mem_append_left _ z))
                    · exact .inr (.inr ⟨mem_flat (rmem a z), rnot a z⟩)
                  · rcases sub2 a z with z | ⟨z1, z2⟩
                    · exact .inr (.inl (List.mem_append_right _ z))
                    · exact .inr (.inr ⟨hsub a z1, fun q => z2 (hidw a z1 q)⟩)
                have toN : ∀ a, H a ≠ none → ((T2 a ∨ a ∈ w' ++ rest) ∨ a ∈ ws2.flatten) → (uni T ws.flatten).s a := fun a ha z => by
                  rcases z with (z | z) | z
                  · exact (hn a z).elim id fun q => absurd q ha
                  · rcases List.mem_append.mp z with z | z
                    · exact (w1 a z).elim id fun q => absurd q ha
                    · exact .inr (mem_flat (rmem a z))
                  · rcases sub2 a z with z | ⟨z1, z2⟩
                    · exact (h1 a (List.mem_append_right _ z)).elim id fun q => absurd q ha
                    · exact .inr (hsub a z1)
                obtain ⟨wr', r1, pm⟩ := put H2 (fun a => (T2 a ∨ a ∈ w' ++ rest) ∨ a ∈ ws2.flatten) (fun a => ((T2 a ∨ a ∈ w' ++ rest) ∨ a ∈ ws2.flatten) ∧ ¬ T2.l a) S d' w' kp
                  ⟨fun a z => (sN a z).1, sN, fun a ha z => toN a ha z, fun a ha z => ⟨toN a ha z.1, fun q => z.2 (hl a q)⟩⟩ rS (Rp.sets (r0.anyB hG.pl hpl) (fun a ha z => fin a ha z) fun _ _ z => z)
                have nd' : wr'.Nodup := pm.nodup_iff.mpr (List.nodup_append.mpr ⟨h3.1, wrn.2.1, fun a ha b hb e => wr a ha (e ▸ hb)⟩)
                have dj' : ∀ a ∈ wr', ¬ T2 a := fun a ha z => (List.mem_append.mp (pm.subset ha)).elim (fun q => h4 a (List.mem_append_left _ q) z) fun q => rT2 a q z
                have envf := (env2.less (T' := uni T2 wr') fun a z => z.imp id fun z => pm.subset z).give (i := i) (m := mr) (d := ur d') (v := vr) (w := wr') (by simpa using hig)
                  (Rp.sets r1 (fun a _ z => z.imp (fun z => z.imp id fun z => pm.subset z) id) fun a _ z => ⟨z.1.imp (fun z => z.imp id fun z => pm.subset z) id, z.2⟩) nd' dj'
                rw [List.set_set, set_same fi, set_same fv] at envf
                refine ⟨ρ2.set i (ur d'), ws2.set i wr', ?_, envf, fun a ha => ?_⟩
                · simp only [ev.putIo, e1, hl']
                  rw [u2, ur_eq, hi]
                · rw [List.flatten_cons, List.flatten_cons]
                  rcases mem_set_flat ha with z | z
                  · rcases sub2 a z with z | ⟨z1, z2⟩
                    · exact .inl (List.mem_append_right _ z)
                    · exact .inr ⟨hsub a z1, fun q => z2 (hidw a z1 q)⟩
                  · rcases List.mem_append.mp (pm.subset z) with z | z
                    · exact .inl (List.mem_append_left _ z)
                    · exact .inr ⟨mem_flat (rmem a z), rnot a z⟩
          | z => exact False.elim ar
          | bw m => exact False.elim ar
          | ini c => exact False.elim ar
  | _ => 
    intro ps ds vs T ws g ρ env ar nd bi
    exact False.elim ar
end
end DI
end
section
set_option Elab.async false
set_option linter.all false
set_option maxRecDepth 100000
/-! The arguments of a call. -/
namespace DI
open PySem PySem.Spec L2
section
variable {G : CT} {ts : List Addr} {H H' : Hp} {T T' : Tl} {ws ws' : List (List Addr)} {g : Md} {ρ : Rho} {σ : St}
variable {t : Tb} {C : Calls} {X : Cx} {mc : Mc} {k : Nat} {N B N' B' S : Sets}
/-- the reading of a call's arguments -/
def RC (t : Tb) (G : CT) (ts : List Addr) (C : Calls) (as : E) (ps : List PK) : TA := fun σ H Q =>
  ∃ (T : Tl) (ws : List (List Addr)) (g : Md) (ρ : Rho) (g' : Md) (ds : List D) (ρ' : Rho), ck.ckA t as ps g = some g' ∧ ev C as ρ = some (.tup ds, ρ') ∧ EnvOk G ts H T ws g ρ σ ∧
    ∀ (vs : List V) (H' : Hp) (ws' : List (List Addr)), Stp H ws.flatten H' ws'.flatten → EnvOk G ts H' T ws' g' ρ' σ → AR t G σ H' T ws' g' ρ' as ps ds vs → (quiet as = true → H' = H) → Q vs H'
theorem sc_a0 {ps : List PK} : PA X [] (RC t G ts C .a0 ps) := by
  refine PA.of pa_nil ?_
  rintro σ H Q ⟨T, ws, g, ρ, g', ds, ρ', hc, he, env, p⟩
  cases ps with
  | nil =>
    simp only [ck.ckA, ev] at hc he
    cases hc; cases he
    exact p [] H ws Stp.refl env True.intro fun _ => rfl
  | cons => simp only [ck.ckA] at hc; cases hc
/-- what needs no step -/
def AtomV (σ : St) : E → V → Prop
  | .var i, v => σ[i]? = some (some v)
  | .ci i, v => v = .int i
  | .cs s, v => v = .str s
  | .cb b, v => v = .bl b
  | .cn, v => v = .non
  | _, _ => False
def tAtom (a : E) : TE := fun σ H Q => ∃ v, AtomV σ a v ∧ Q v H
theorem atom_ok {a : E} {m : M} {g1 : Md} {d : D} {ρ1 : Rho} (ha : atom a = true) (hc : ck t a g = some (m, g1)) (he : ev C a ρ = some (d, ρ1)) (env : EnvOk G ts H T ws g ρ σ) : g1 = g ∧ ρ1 = ρ ∧ ∃ v, AtomV σ a v ∧ Rt G H (uni T ws.flatten) m d v [] := by
  cases a <;> simp only [atom] at ha <;> first | cases ha | skip
  · rename_i i
    simp only [ck, ev] at hc he
    cases he
    have key : g[i]? = some m ∧ g1 = g ∧ (m = .z ∨ ∃ m', m = .w m') := by
      split at hc
      · cases hc; exact ⟨by assumption, rfl, .inl rfl⟩
      · cases hc; exact ⟨by assumption, rfl, .inr ⟨_, rfl⟩⟩
      · cases hc
    obtain ⟨hg, rfl, hk⟩ := key
    rcases env.sl i m hg with ⟨z, _⟩ | ⟨v, hv, r⟩
    · rcases hk with rfl | ⟨m', rfl⟩ <;> cases z
    · refine ⟨rfl, rfl, v, hv, ?_⟩
      have e : ws.getD i [] = [] := by
        rcases hk with rfl | ⟨m', rfl⟩
        · exact r.z_nil
        · exact r.w_nil
      rw [e] at r
      exact r
  all_goals
    simp only [ck, ev] at hc he
    cases hc; cases he
    refine ⟨rfl, rfl, _, rfl, .z ?_⟩
    constructor
theorem quiet_ck : ∀ {r : E} {ps : List PK} {g g1 : Md}, quiet r = true → ck.ckA t r ps g = some g1 → g1 = g := by
  intro r
  induction r with
  | a0 =>
    intro ps g g1 _ h
    cases ps <;> simp only [ck.ckA] at h <;> cases h
    rfl
  | aE a r _ ih =>
    intro ps g g1 hq h
    simp only [quiet, Bool.and_eq_true] at hq
    have at_ : ∀ {m : M} {g2 : Md}, ck t a g = some (m, g2) → g2 = g := by
      intro m g2 e
      have ha := hq.1
      cases a <;> simp only [atom] at ha <;> first | cases ha | skip
      · simp only [ck] at e
        split at e <;> cases e <;> rfl
      all_goals (simp only [ck] at e; cases e; rfl)
    cases ps with
    | nil => simp only [ck.ckA] at h; cases h
    | cons q ps =>
      cases q <;> simp only [ck.ckA] at h
      · split at h
        · rename_i e
          split at h
          · have := ih hq.2 h
            rw [this, at_ e]
          · cases h
        · cases h
      · cases h
      · split at h
        · rename_i e
          split at h
          · have := ih hq.2 h
            rw [this, at_ e]
          · cases h
        · cases h
      · cases h
  | abw p r _ ih =>
    intro ps g g1 hq h
    cases ps with
    | nil => simp only [ck.ckA] at h; cases h
    | cons q ps =>
      cases q <;> simp only [ck.ckA] at h <;> first | cases h | skip
      split at h
      · rename_i e
        split at h
        · cases h; exact ih hq e
        · cases h
      · cases h
  | aio p r _ ih =>
    intro ps g g1 hq h
    cases ps with
    | nil => simp only [ck.ckA] at h; cases h
    | cons q ps =>
      cases q <;> simp only [ck.ckA] at h <;> first | cases h | skip
      split at h
      · rename_i e
        split at h
        · cases h; exact ih hq e
        · cases h
      · cases h
  | _ => intro ps g g1 hq; cases hq
theorem quiet_ev : ∀ {r : E} {ρ ρ1 : Rho} {d : D}, quiet r = true → ev C r ρ = some (d, ρ1) → ρ1 = ρ := by
  intro r
  induction r with
  | a0 => intro ρ ρ1 d _ h; simp only [ev] at h; cases h; rfl
  | aE a r _ ih =>
    intro ρ ρ1 d hq h
    simp only [quiet, Bool.and_eq_true] at hq
    have at_ : ∀ {d : D} {ρ2 : Rho}, ev C a ρ = some (d, ρ2) → ρ2 = ρ := by
      intro d ρ2 e
      have ha := hq.1
      cases a <;> simp only [atom] at ha <;> first | cases ha | skip
      all_goals (simp only [ev] at e; cases e; rfl)
    simp only [ev] at h
    split at h
    · rename_i e
      split at h
      · rename_i e2
        cases h
        rw [ih hq.2 e2, at_ e]
      · cases h
    · cases h
  | abw p r _ ih =>
    intro ρ ρ1 d hq h
    simp only [ev] at h
    split at h
    · rename_i e
      split at h
      · cases h; exact ih hq e
      · cases h
    · cases h
  | aio p r _ ih =>
    intro ρ ρ1 d hq h
    simp only [ev] at h
    split at h
    · rename_i e
      split at h
      · cases h; exact ih hq e
      · cases h
    · cases h
  | _ => intro ρ ρ1 d hq; cases hq
/-- an instance in it -/
def InsAt (G : CT) (H : Hp) (m : M) (v : V) : Prop := ∀ c kk, m = .O c kk → ∃ a dx fs, v = .ref a ∧ H a = some (.ins (G.ca c) dx fs) ∧ fs.map (·.1) = ((G.cf c).take kk).map (·.1)
theorem Rp.insAt {o : Bool} {m : M} {d : D} {v : V} {w : List Addr} (h : Rp G H N B o m d v w) : InsAt G H m v := by
  intro c kk e
  subst e
  cases h with
  | co f _ => cases f
  | T _ r => cases r
  | O ha hn en rr => exact ⟨_, _, _, rfl, ha, en⟩
theorem RC.lentP (hG : GOk t mc G) {p r : E} {m : M} {ps : List PK} {Q : List V → Hp → Prop} {w : Bool} (h : RC t G ts C (if w then .aio p r else .abw p r) ((if w then PK.io m else PK.bw m) :: ps) σ H Q) :
    tPath G p σ H fun v H1 => InsAt G H1 m v ∧ RC t G ts C r ps σ H1 fun vs H2 => Q (v :: vs) H2 := by
  have main : ∃ (T : Tl) (ws : List (List Addr)) (g : Md) (ρ : Rho) (g' : Md) (ds : List D) (ρ' : Rho) (x : D) (up : D → Rho), ck.ckA t r ps g = some g' ∧ pmode t g p = some m ∧ pmode t g' p = some m ∧ (if w then m.pl = true else m.isW = false) ∧ isPath p = true ∧ (isVar p = true ∨ quiet r = true) ∧
      ev C r ρ = some (.tup ds, ρ') ∧ loc ρ' p = some (x, up) ∧ EnvOk G ts H T ws g ρ σ ∧
      ∀ (vs : List V) (H' : Hp) (ws' : List (List Addr)), Stp H ws.flatten H' ws'.flatten → EnvOk G ts H' T ws' g' ρ' σ → AR t G σ H' T ws' g' ρ' (if w then .aio p r else .abw p r) ((if w then PK.io m else PK.bw m) :: ps) (x :: ds) vs → (quiet r = true → H' = H) → Q vs H' := by
    obtain ⟨T, ws, g, ρ, g', ds, ρ', hc, he, env, p⟩ := h
    cases w with
    | true =>
      simp only [if_true, ck.ckA, ev] at hc he p
      split at hc
      · rename_i g1 e1
        split at hc
        · rename_i f
          cases hc
          simp only [Bool.and_eq_true, decide_eq_true_eq, Bool.or_eq_true, Bool.not_eq_true'] at f
          obtain ⟨f1, f2, f3, f4, f5⟩ := f
          split at he
          · rename_i xs ρ1 e2
            split at he
            · rename_i x up e3
              cases he
              exact ⟨T, ws, g, ρ, g', xs, ρ', x, up, e1, f1, f2, f3, f4, f5, e2, e3, env, p⟩
            · cases he
          · cases he
        · cases hc
      · cases hc
    | false =>
      simp only [Bool.false_eq_true, if_false, ck.ckA, ev] at hc he p
      split at hc
      · rename_i g1 e1
        split at hc
        · rename_i f
          cases hc
          simp only [Bool.and_eq_true, decide_eq_true_eq, Bool.or_eq_true, Bool.not_eq_true'] at f
          obtain ⟨f1, f2, f3, f4, f5⟩ := f
          split at he
          · rename_i xs ρ1 e2
            split at he
            · rename_i x up e3
              cases he
              exact ⟨T, ws, g, ρ, g', xs, ρ', x, up, e1, f1, f2, f3, f4, f5, e2, e3, env, p⟩
            · cases he
          · cases he
        · cases hc
      · cases hc
  obtain ⟨T, ws, g, ρ, g', ds, ρ', x, up, e1, f1, f2, f3, f4, f5, e2, e3, env, q⟩ := main
  have nw : m.isW = false := by
    cases w with
    | true => exact pl_nw f3
    | false => exact f3
  have start : ∃ v, PathV G σ H p v ∧ InsAt G H m v ∧ ∀ H', (quiet r = true → H' = H) → PathV G σ H' p v := by
    by_cases hv : isVar p = true
    · cases p <;> simp only [isVar] at hv <;> first | cases hv | skip
      rename_i i
      simp only [pmode] at f1
      rcases env.sl i m f1 with ⟨z, _⟩ | ⟨v, hv, rr⟩
      · subst z; cases nw
      · exact ⟨v, hv, rr.insAt, fun _ _ => hv⟩
    · have hq : quiet r = true := f5.resolve_left hv
      have eg := quiet_ck hq e1
      have eρ := quiet_ev hq e2
      subst eg eρ
      obtain ⟨v, w', mr, vr, ur, f⟩ := foc hG env f4 f1 nw e3
      have h0 := f.at_ H (fun _ => False) Kp.refl fun _ _ z => z
      exact ⟨v, h0, f.sub.1.insAt, fun H' e => by rw [e hq]; exact h0⟩
  obtain ⟨v, hv, hi, hv2⟩ := start
  refine ⟨v, hv, hi, T, ws, g, ρ, g', ds, ρ', e1, e2, env, fun vs H' ws' st env' ar qq => ?_⟩
  refine q (v :: vs) H' ws' st env' ?_ qq
  cases w with
  | true => exact ⟨⟨f4, f3, f2, hv2 H' qq, up, e3⟩, ar⟩
  | false => exact ⟨⟨f4, f3, f2, hv2 H' qq, up, e3⟩, ar⟩
end
end DI
end
section
set_option Elab.async false
set_option linter.all false
set_option maxRecDepth 100000
/-! Calls. -/
namespace DI
open PySem PySem.Spec L2
section
variable {G : CT} {ts : List Addr} {H H' : Hp} {T T' : Tl} {ws ws' : List (List Addr)} {g : Md} {ρ : Rho} {σ : St}
variable {t : Tb} {C : Calls} {X : Cx} {mc : Mc} {k : Nat} {N B N' B' S : Sets}
theorem RC.valE {a r : E} {p : PK} {ps : List PK} {Q : List V → Hp → Prop} (hna : atom a = false) (h : RC t G ts C (.aE a r) (p :: ps) σ H Q) :
    RE t G ts C a σ H fun v H1 => (∀ m, p = .bw m → InsAt G H1 m v) ∧ RC t G ts C r ps σ H1 fun vs H2 => Q (v :: vs) H2 := by
  obtain ⟨T, ws, g, ρ, g', ds, ρ', hc, he, env, q⟩ := h
  simp only [ev] at he
  split at he
  · rename_i y ρ1 e3
    split at he
    · rename_i ys ρ2 e4
      cases he
      have nq : quiet (.aE a r) = true → False := fun e => by simp only [quiet, hna, Bool.false_and] at e; cases e
      cases p with
      | z =>
        simp only [ck.ckA] at hc
        split at hc
        · rename_i ma g1 e1
          split at hc
          · rename_i f
            refine ⟨T, ws, g, ρ, ma, g1, y, ρ1, e1, e3, env, fun v1 H1 w1 ws1 st1 env1 r1 n1 d1 => ⟨(fun m e => by cases e), ?_⟩⟩
            have a1 : ∀ a ∈ w1, ¬ uni T ws1.flatten a := fun a ha z => z.elim (d1 a ha) fun q => env1.dj a q (.inr ha)
            have F1 : Fz G H1 (uni T ws1.flatten) y v1 := r1.freeze f (fun a z => z.imp .inl id) a1
            refine ⟨T, ws1, g1, ρ1, g', ys, ρ', hc, e4, env1.less fun a z => .inl z, fun vs H2 ws2 st2 env2 ar _ => ?_⟩
            exact q (v1 :: vs) H2 ws2 (Stp.trans st1.drop1 (fun x z => z) st2) env2 ⟨F1.on st2, ar⟩ fun e => (nq e).elim
          · cases hc
        · cases hc
      | bw m' =>
        simp only [ck.ckA] at hc
        split at hc
        · rename_i ma g1 e1
          split at hc
          · rename_i f
            refine ⟨T, ws, g, ρ, ma, g1, y, ρ1, e1, e3, env, fun v1 H1 w1 ws1 st1 env1 r1 n1 d1 => ?_⟩
            have a1 : ∀ a ∈ w1, ¬ uni T ws1.flatten a := fun a ha z => z.elim (d1 a ha) fun q => env1.dj a q (.inr ha)
            have R1 : Rp G H1 (uni T ws1.flatten).s (uni T ws1.flatten).b false m' y v1 [] := by
              rw [Bool.or_eq_true, Bool.and_eq_true, decide_eq_true_eq] at f
              rcases f with ⟨f1, f2⟩ | rfl
              · exact .co f2 (r1.freeze f1 (fun a z => z.imp .inl id) a1)
              · have e := r1.w_nil
                subst e
                have r1' : Rp G H1 (uni (uni T []) ws1.flatten).s (uni (uni T []) ws1.flatten).b true (.w m') y v1 [] := r1
                cases r1' with
                | w h => exact h.sets (fun a _ z => z.imp .inl id) fun a _ z => ⟨z.1.imp .inl id, z.2⟩
                | T _ r => cases r
            refine ⟨fun m e => by cases e; exact R1.insAt, ?_⟩
            refine ⟨T, ws1, g1, ρ1, g', ys, ρ', hc, e4, env1.less fun a z => .inl z, fun vs H2 ws2 st2 env2 ar _ => ?_⟩
            refine q (v1 :: vs) H2 ws2 (Stp.trans st1.drop1 (fun x z => z) st2) env2 ⟨?_, ar⟩ fun e => (nq e).elim
            have hN : ∀ a, H1 a ≠ none → uni T ws2.flatten a → uni T ws1.flatten a := fun a ha z => z.imp id fun z => (st2.sub a z).elim id fun q => absurd q ha
            exact R1.next st2.kp ⟨fun a z => .inr z, fun a z => ⟨.inr z, fun l => env1.dj a z (.inl (T.h a l))⟩, hN, fun a ha z => ⟨hN a ha z.1, z.2⟩⟩ fun a z => nomatch z
          · cases hc
        · cases hc
      | io m' => simp only [ck.ckA] at hc; cases hc
      | ini c => simp only [ck.ckA] at hc; cases hc
    · cases he
  · cases he
theorem RC.valA {a r : E} {p : PK} {ps : List PK} {Q : List V → Hp → Prop} (hna : atom a = true) (h : RC t G ts C (.aE a r) (p :: ps) σ H Q) :
    tAtom a σ H fun v H1 => (∀ m, p = .bw m → InsAt G H1 m v) ∧ RC t G ts C r ps σ H1 fun vs H2 => Q (v :: vs) H2 := by
  obtain ⟨T, ws, g, ρ, g', ds, ρ', hc, he, env, q⟩ := h
  simp only [ev] at he
  split at he
  · rename_i y ρ1 e3
    split at he
    · rename_i ys ρ2 e4
      cases he
      have nq : quiet (.aE a r) = quiet r := by simp only [quiet, hna, Bool.true_and]
      cases p with
      | z =>
        simp only [ck.ckA] at hc
        split at hc
        · rename_i ma g1 e1
          split at hc
          · rename_i f
            obtain ⟨rfl, rfl, v1, hv, r1⟩ := atom_ok hna e1 e3 env
            have F1 : Fz G H (uni T ws.flatten) y v1 := r1.freeze f (fun a z => z) fun a z => nomatch z
            refine ⟨v1, hv, (fun m e => by cases e), T, ws, g1, ρ1, g', ys, ρ', hc, e4, env, fun vs H2 ws2 st2 env2 ar hq => ?_⟩
            exact q (v1 :: vs) H2 ws2 st2 env2 ⟨F1.on st2, ar⟩ fun e => hq (nq ▸ e)
          · cases hc
        · cases hc
      | bw m' =>
        simp only [ck.ckA] at hc
        split at hc
        · rename_i ma g1 e1
          split at hc
          · rename_i f
            obtain ⟨rfl, rfl, v1, hv, r1⟩ := atom_ok hna e1 e3 env
            have R1 : Rp G H (uni T ws.flatten).s (uni T ws.flatten).b false m' y v1 [] := by
              rw [Bool.or_eq_true, Bool.and_eq_true, decide_eq_true_eq] at f
              rcases f with ⟨f1, f2⟩ | rfl
              · exact .co f2 (r1.freeze f1 (fun a z => z) fun a z => nomatch z)
              · have r1' : Rp G H (uni T ws.flatten).s (uni T ws.flatten).b true (.w m') y v1 [] := r1
                cases r1' with
                | w h => exact h
                | T _ r => cases r
            refine ⟨v1, hv, fun m e => by cases e; exact R1.insAt, T, ws, g1, ρ1, g', ys, ρ', hc, e4, env, fun vs H2 ws2 st2 env2 ar hq => ?_⟩
            refine q (v1 :: vs) H2 ws2 st2 env2 ⟨?_, ar⟩ fun e => hq (nq ▸ e)
            have hN : ∀ a, H a ≠ none → uni T ws2.flatten a → uni T ws.flatten a := fun a ha z => z.imp id fun z => (st2.sub a z).elim id fun q => absurd q ha
            exact R1.next st2.kp ⟨fun a z => .inr z, fun a z => ⟨.inr z, fun l => env.dj a z (T.h a l)⟩, hN, fun a ha z => ⟨hN a ha z.1, z.2⟩⟩ fun a z => nomatch z
          · cases hc
        · cases hc
      | io m' => simp only [ck.ckA] at hc; cases hc
      | ini c => simp only [ck.ckA] at hc; cases hc
    · cases he
  · cases he
theorem RC.cons {a r : E} {ps : List PK} {Q : List V → Hp → Prop} (h : RC t G ts C (.aE a r) ps σ H Q) : ∃ p ps', ps = p :: ps' := by
  obtain ⟨T, ws, g, ρ, g', ds, ρ', hc, he, env, q⟩ := h
  cases ps with
  | nil => simp only [ck.ckA] at hc; cases hc
  | cons p ps => exact ⟨p, ps, rfl⟩
theorem sc_aE {a r : E} {x : Expr} {es : List Expr} {ps : List PK} (hs : isStarX x = false) (ha : PE X x (RE t G ts C a)) (hq : atom a = true → PE X x (tAtom a)) (hr : ∀ ps, PA X es (RC t G ts C r ps)) : PA X (x :: es) (RC t G ts C (.aE a r) ps) := by
  cases ps with
  | nil => exact ⟨fun pos pins s σ H Q I h => by obtain ⟨_, _, e⟩ := h.cons; cases e⟩
  | cons p ps =>
    by_cases hat : atom a = true
    · refine PA.of (pa_cons (hq hat) (hr ps) (starE_no hs)) fun σ H Q h => ?_
      obtain ⟨v, hv, _, h⟩ := RC.valA hat h
      exact ⟨v, hv, h⟩
    · refine PA.of (pa_cons ha (hr ps) (starE_no hs)) fun σ H Q h => ?_
      obtain ⟨T, ws, g, ρ, m, g', d, ρ', h1, h2, h3, h4⟩ := RC.valE (by simpa using hat) h
      exact ⟨T, ws, g, ρ, m, g', d, ρ', h1, h2, h3, fun v H' w ws' st e r n dj => (h4 v H' w ws' st e r n dj).2⟩
theorem sc_abw {p r : E} {x : Expr} {es : List Expr} {ps : List PK} (hG : GOk t mc G) (hs : isStarX x = false) (ha : isPath p = true → PE X x (tPath G p)) (hr : ∀ ps, PA X es (RC t G ts C r ps)) : PA X (x :: es) (RC t G ts C (.abw p r) ps) := by
  by_cases hp : isPath p = true ∧ ∃ m ps', ps = .bw m :: ps'
  · obtain ⟨hp, m, ps', rfl⟩ := hp
    refine PA.of (pa_cons (ha hp) (hr ps') (starE_no hs)) fun σ H Q h => ?_
    obtain ⟨v, hv, _, h⟩ := RC.lentP (w := false) hG h
    exact ⟨v, hv, h⟩
  · refine ⟨fun pos pins s σ H Q I h => ?_⟩
    exfalso
    obtain ⟨T, ws, g, ρ, g', ds, ρ', hc, he, env, q⟩ := h
    cases ps with
    | nil => simp only [ck.ckA] at hc; cases hc
    | cons pk ps =>
      cases pk <;> simp only [ck.ckA] at hc <;> first | cases hc | skip
      split at hc
      · split at hc
        · rename_i f
          simp only [Bool.and_eq_true] at f
          exact hp ⟨f.2.2.2.1, _, _, rfl⟩
        · cases hc
      · cases hc
theorem sc_aio {p r : E} {x : Expr} {es : List Expr} {ps : List PK} (hG : GOk t mc G) (hs : isStarX x = false) (ha : isPath p = true → PE X x (tPath G p)) (hr : ∀ ps, PA X es (RC t G ts C r ps)) : PA X (x :: es) (RC t G ts C (.aio p r) ps) := by
  by_cases hp : isPath p = true ∧ ∃ m ps', ps = .io m :: ps'
  · obtain ⟨hp, m, ps', rfl⟩ := hp
    refine PA.of (pa_cons (ha hp) (hr ps') (starE_no hs)) fun σ H Q h => ?_
    obtain ⟨v, hv, _, h⟩ := RC.lentP (w := true) hG h
    exact ⟨v, hv, h⟩
  · refine ⟨fun pos pins s σ H Q I h => ?_⟩
    exfalso
    obtain ⟨T, ws, g, ρ, g', ds, ρ', hc, he, env, q⟩ := h
    cases ps with
    | nil => simp only [ck.ckA] at hc; cases hc
    | cons pk ps =>
      cases pk <;> simp only [ck.ckA] at hc <;> first | cases hc | skip
      split at hc
      · split at hc
        · rename_i f
          simp only [Bool.and_eq_true] at f
          exact hp ⟨f.2.2.2.1, _, _, rfl⟩
        · cases hc
      · cases hc
/-! ### what a def promises -/
def pmE : PK → M
  | .z => .z
  | .bw m => .w m
  | .io m => m
  | .ini c => .O c 0
def pmX (t : Tb) : PK → M
  | .io m => m
  | .ini c => .O c (t.cf.getD c []).length
  | _ => .x
def putP : List PK → List D → List D → List D
  | .io _ :: ps, _ :: ds, o :: os => o :: putP ps ds os
  | .ini _ :: ps, _ :: ds, o :: os => o :: putP ps ds os
  | _ :: ps, d :: ds, os => d :: putP ps ds os
  | _, _, _ => []
def nIo : List PK → Nat
  | .io _ :: ps => nIo ps + 1
  | .ini _ :: ps => nIo ps + 1
  | _ :: ps => nIo ps
  | [] => 0
/-- the promise: the arguments are handed over by their kinds; what is lent comes back -/
def Spf (t : Tb) (G : CT) (ts : List Addr) (C : Calls) (f : Nat) (s : Sig) : Sp := fun vs H Q _ =>
  ∃ (T : Tl) (ws : List (List Addr)) (ds : List D) (r : D) (outs : List D), C f ds = some (r, outs) ∧ outs.length = nIo s.ps ∧ EnvOk G ts H T ws (s.ps.map pmE) ds (vs.map some) ∧ Post G ts H T ws.flatten (s.ps.map (pmX t)) (putP s.ps ds outs) (vs.map some) s.ret r Q
theorem PR.slots {Bc : Sets} (hG : GOk t mc G) {ps : List PK} {ds : List D} {vs : List V} {wss : List (List Addr)} (h : PR G H N Bc ps ds vs wss) : ds.length = ps.length ∧ vs.length = ps.length ∧ wss.length = ps.length ∧ (∀ m, PK.io m ∈ ps → m.pl = true) ∧ (∀ c, PK.ini c ∉ ps) ∧
    ∀ i m, (ps.map pmE)[i]? = some m → ∃ v, (vs.map some)[i]? = some (some v) ∧ Rp G H N Bc true m (ds.getD i .non) v (wss.getD i []) := by
  induction h with
  | nil => exact ⟨rfl, rfl, rfl, fun m h => (nomatch h), fun c h => (nomatch h), fun i m h => by simp at h⟩
  | z r _ ih =>
    obtain ⟨h1, h2, h3, h4, h5, h6⟩ := ih
    refine ⟨by simp [h1], by simp [h2], by simp [h3], fun m h => h4 m (by simpa using h), fun c h => h5 c (by simpa using h), fun i m h => ?_⟩
    cases i with
    | zero => simp [pmE] at h; subst h; exact ⟨_, rfl, .z r⟩
    | succ i => simpa using h6 i m (by simpa using h)
  | bw r _ ih =>
    obtain ⟨h1, h2, h3, h4, h5, h6⟩ := ih
    refine ⟨by simp [h1], by simp [h2], by simp [h3], fun m h => h4 m (by simpa using h), fun c h => h5 c (by simpa using h), fun i m h => ?_⟩
    cases i with
    | zero => simp [pmE] at h; subst h; exact ⟨_, rfl, .w r⟩
    | succ i => simpa using h6 i m (by simpa using h)
  | io p r _ ih =>
    obtain ⟨h1, h2, h3, h4, h5, h6⟩ := ih
    refine ⟨by simp [h1], by simp [h2], by simp [h3], fun m h => ?_, fun c h => h5 c (by simpa using h), fun i m h => ?_⟩
    · rcases List.mem_cons.mp h with e | h
      · cases e; exact p
      · exact h4 m h
    · cases i with
      | zero => simp [pmE] at h; subst h; exact ⟨_, rfl, r⟩
      | succ i => simpa using h6 i m (by simpa using h)
theorem OR.of (hG : GOk t mc G) : ∀ {ps : List PK} {ds : List D} {vs : List V} {outs : List D} {w2 : List (List Addr)}, ds.length = ps.length → vs.length = ps.length → w2.length = ps.length → outs.length = nIo ps → (∀ m, PK.io m ∈ ps → m.pl = true) → (∀ c, PK.ini c ∉ ps) →
    (∀ i m, (ps.map (pmX t))[i]? = some m → (m = .x ∧ w2.getD i [] = []) ∨ ∃ v, (vs.map some)[i]? = some (some v) ∧ Rp G H N B true m ((putP ps ds outs).getD i .non) v (w2.getD i [])) → OR G H N ps vs outs w2
  | [], [], [], outs, [], _, _, _, ho, _, _, _ => by
    cases outs with
    | nil => exact .nil
    | cons => simp [nIo] at ho
  | q :: ps, d :: ds, v :: vs, outs, w :: w2, h1, h2, h3, ho, h4, h5, h => by
    have nx : (∀ m, q = .io m → ∃ o os, outs = o :: os) := fun m e => by
      subst e
      cases outs with
      | nil => simp [nIo] at ho
      | cons o os => exact ⟨o, os, rfl⟩
    cases q with
    | z =>
      have e : w = [] := by
        rcases h 0 .x rfl with ⟨_, e⟩ | ⟨v, _, r⟩
        · simpa using e
        · exact (Rp.x_no r).elim
      subst e
      exact .z (OR.of hG (by simpa using h1) (by simpa using h2) (by simpa using h3) (by simpa [nIo] using ho) (fun m hm => h4 m (List.mem_cons_of_mem _ hm)) (fun c hc => h5 c (List.mem_cons_of_mem _ hc)) fun i m hm => by simpa [putP] using h (i + 1) m (by simpa using hm))
    | bw m0 =>
      have e : w = [] := by
        rcases h 0 .x rfl with ⟨_, e⟩ | ⟨v, _, r⟩
        · simpa using e
        · exact (Rp.x_no r).elim
      subst e
      exact .bw (OR.of hG (by simpa using h1) (by simpa using h2) (by simpa using h3) (by simpa [nIo] using ho) (fun m hm => h4 m (List.mem_cons_of_mem _ hm)) (fun c hc => h5 c (List.mem_cons_of_mem _ hc)) fun i m hm => by simpa [putP] using h (i + 1) m (by simpa using hm))
    | io m0 =>
      obtain ⟨o, os, rfl⟩ := nx m0 rfl
      have pl := h4 m0 List.mem_cons_self
      refine .io ?_ (OR.of hG (by simpa using h1) (by simpa using h2) (by simpa using h3) (by simpa [nIo] using ho) (fun m hm => h4 m (List.mem_cons_of_mem _ hm)) (fun c hc => h5 c (List.mem_cons_of_mem _ hc)) fun i m hm => by simpa [putP] using h (i + 1) m (by simpa using hm))
      rcases h 0 m0 rfl with ⟨e, _⟩ | ⟨u, hu, r⟩
      · subst e; cases pl
      · have : u = v := by simpa using hu.symm
        subst this
        exact (by simpa [putP] using r : Rp G H N B true m0 o u w).anyB hG.pl pl
    | ini c => exact absurd List.mem_cons_self (h5 c)
theorem put_len {r : E} : ∀ {ps : List PK} {ds : List D} {vs : List V} {ρ ρ2 : Rho} {outs : List D}, AR t G σ H T ws g ρ r ps ds vs → ∀ {ρ0}, ev.putIo ρ0 r outs = some ρ2 → outs.length = nIo ps := by
  induction r with
  | a0 =>
    intro ps ds vs ρ ρ2 outs ar ρ0 h
    cases ps <;> cases ds <;> cases vs <;> try exact False.elim ar
    cases outs with
    | nil => rfl
    | cons => simp only [ev.putIo] at h; cases h
  | aE a0 r _ ih =>
    intro ps ds vs ρ ρ2 outs ar ρ0 h
    cases ps with
    | nil => exact False.elim ar
    | cons q ps =>
      cases ds with
      | nil => cases q <;> exact False.elim ar
      | cons d ds =>
        cases vs with
        | nil => cases q <;> exact False.elim ar
        | cons v vs =>
          simp only [ev.putIo] at h
          cases q with
          | z => exact (ih ar.2 h : outs.length = nIo ps)
          | bw m => exact (ih ar.2 h : outs.length = nIo ps)
          | io m => exact False.elim ar
          | ini c => exact False.elim ar
  | abw p r _ ih =>
    intro ps ds vs ρ ρ2 outs ar ρ0 h
    cases ps with
    | nil => exact False.elim ar
    | cons q ps =>
      cases ds with
      | nil => cases q <;> exact False.elim ar
      | cons d ds =>
        cases vs with
        | nil => cases q <;> exact False.elim ar
        | cons v vs =>
          simp only [ev.putIo] at h
          cases q with
          | bw m => exact (ih ar.2 h : outs.length = nIo ps)
          | z => exact False.elim ar
          | io m => exact False.elim ar
          | ini c => exact False.elim ar
  | aio p r _ ih =>
    intro ps ds vs ρ ρ2 outs ar ρ0 h
    cases ps with
    | nil => exact False.elim ar
    | cons q ps =>
      cases ds with
      | nil => cases q <;> exact False.elim ar
      | cons d ds =>
        cases vs with
        | nil => cases q <;> exact False.elim ar
        | cons v vs =>
          cases q with
          | io m =>
            cases outs with
            | nil => simp only [ev.putIo] at h; cases h
            | cons o os =>
              simp only [ev.putIo] at h
              split at h
              · rename_i e
                have := ih ar.2 e
                simp [nIo, this]
              · cases h
          | z => exact False.elim ar
          | bw m => exact False.elim ar
          | ini c => exact False.elim ar
  | _ => intro ps ds vs ρ ρ2 outs ar; exact False.elim ar
end
end DI
end
section
set_option Elab.async false
set_option linter.all false
set_option maxRecDepth 100000
/-! Calls, part 2. -/
namespace DI
open PySem PySem.Spec L2
section
variable {G : CT} {ts : List Addr} {H H' : Hp} {T T' : Tl} {ws ws' : List (List Addr)} {g : Md} {ρ : Rho} {σ : St}
variable {t : Tb} {C : Calls} {X : Cx} {mc : Mc} {k : Nat} {N B N' B' S : Sets}
theorem PR.env {Tc : Tl} {wss : List (List Addr)} (hG : GOk t mc G) {ps : List PK} {ds : List D} {vs : List V} (h : PR G H (uni Tc wss.flatten).s (· ∈ wss.flatten) ps ds vs wss) (tb : Tabs ts H) (tt : ∀ a, Tc a → H a ≠ none) (nd : wss.flatten.Nodup) (dj : ∀ a ∈ wss.flatten, ¬ Tc a)
    (hl : ∀ a, Tc a → Tc.l a) : EnvOk G ts H Tc wss (ps.map pmE) ds (vs.map some) := by
  obtain ⟨h1, h2, h3, h4, h5, h6⟩ := h.slots hG
  refine ⟨by simp [h1], by simp [h2], by simp [h3], nd, tt, dj, fun i m hm => ?_, tb⟩
  obtain ⟨v, hv, r⟩ := h6 i m hm
  exact .inr ⟨v, hv, r.sets (fun _ _ z => z) fun a _ z => z.1.elim (fun q => absurd (hl a q) z.2) id⟩
/-- the cells a callee must leave alone; it may read them all -/
def rest0 (T : Tl) (l w : List Addr) : Tl := ⟨fun a => (T.s a ∨ a ∈ l) ∧ a ∉ w, fun a => (T.s a ∨ a ∈ l) ∧ a ∉ w, fun _ z => z⟩
/-- the call, from the frame behind the arguments -/
theorem call_core (hG : GOk t mc G) {as : E} {s : Sig} {f : Nat} {ds : List D} {vs : List V} {r : D} {outs : List D} {ρ2 : Rho} {Q : VK} {E : XK} (hs : t.sg[f]? = some s) (hap : apart as = true) (env : EnvOk G ts H T ws g ρ σ) (ar : AR t G σ H T ws g ρ as s.ps ds vs)
    (hC : C f ds = some (r, outs)) (hp : ev.putIo ρ as outs = some ρ2) (p : Post G ts H T ws.flatten g ρ2 σ s.ret r Q) : Spf t G ts C f s vs H Q E := by
  unfold apart at hap
  rw [Bool.and_eq_true, decide_eq_true_eq, List.all_eq_true] at hap
  have hap2 : ∀ i ∈ bwRoots as, i ∉ ioRoots as := fun i hi => by
    have := hap.2 i hi
    simp only [Bool.not_eq_true', List.contains_eq_mem, decide_eq_false_iff_not] at this
    exact this
  obtain ⟨wss, i1, i2, i3, i4⟩ := lend_args hG env ar hap.1 hap2
  have hsub : ∀ a ∈ wss.flatten, a ∈ ws.flatten := fun a ha => let ⟨j, _, hj⟩ := i2 a ha; mem_flat hj
  have pr := i3 (· ∈ wss.flatten) fun a z => .inl z
  have hN : ∀ a, uni (rest0 T ws.flatten wss.flatten) wss.flatten a → uni T ws.flatten a := fun a z => z.elim (fun q => q.1) fun q => .inr (hsub a q)
  have prc : PR G H (uni (rest0 T ws.flatten wss.flatten) wss.flatten).s (· ∈ wss.flatten) s.ps ds vs wss := pr.sets fun a _ z => hN a z
  obtain ⟨l1, l2, l3, hpl, hini, _⟩ := pr.slots hG
  have envc : EnvOk G ts H (rest0 T ws.flatten wss.flatten) wss (s.ps.map pmE) ds (vs.map some) :=
    prc.env hG env.tb (fun a z => z.1.elim (env.tt a) (env.trk a)) i1 (fun a ha z => z.2 ha) fun a z => z
  have hlen := put_len (outs := outs) ar hp
  have spl : s.ret.pl = true := hG.rp s (List.mem_of_getElem? hs)
  refine ⟨rest0 T ws.flatten wss.flatten, wss, ds, r, outs, hC, hlen, envc, fun v H2 w ws2 st envd rr nd dj => ?_⟩
  have l4 : ws2.length = s.ps.length := by rw [envd.lw]; simp
  have stw : ∀ a ∈ w, a ∈ wss.flatten ∨ H a = none := fun a ha => st.sub a (List.mem_append_left _ ha)
  have st2 : ∀ a ∈ ws2.flatten, a ∈ wss.flatten ∨ H a = none := fun a ha => st.sub a (List.mem_append_right _ ha)
  have or : OR G H2 (uni (uni (rest0 T ws.flatten wss.flatten) w) ws2.flatten).s s.ps vs outs ws2 := OR.of hG l1 l2 l4 hlen hpl hini fun i m hm => envd.sl i m hm
  have dT : ∀ a ∈ w, ¬ T a := fun a ha z => (stw a ha).elim (fun q => env.dj a (hsub a q) z) fun q => env.tt a z q
  obtain ⟨ρ2', ws2', e1, env2, sub2⟩ := i4 (· ∈ wss.flatten) H2 (uni T w) outs ws2 st.kp (fun a z => .inl z) st.trk envd.tb
    (fun a z => z.elim (fun z => st.trk a (env.tt a z)) fun z => rr.trk a z)
    (fun a z => z.elim (fun z => .inl (.inl z)) fun z => (stw a z).imp (fun q => .inr (hsub a q)) id)
    (fun a z ha => z.elim (fun z => absurd z (env.dj a ha)) fun z => (stw a z).elim id fun q => absurd q (env.trk a ha))
    (fun a z => z)
    (fun a z => (st2 a z).imp (fun q => .inr (hsub a q)) id)
    (fun a z ha => (st2 a z).elim id fun q => absurd q (env.trk a ha))
    envd.nd
    (fun a z q => q.elim (fun q => (st2 a z).elim (fun y => env.dj a (hsub a y) q) fun y => env.tt a q y) fun q => envd.dj a z (.inr q))
    (or.sets fun a _ z => by
      rcases z with (z | z) | z | ⟨z, z2⟩
      · by_cases hw : a ∈ wss.flatten
        · exact absurd z (env.dj a (hsub a hw))
        · exact .inl (.inl ⟨.inl z, hw⟩)
      · exact .inl (.inr z)
      · exact .inr z
      · exact .inl (.inl ⟨.inr z, z2⟩))
  rw [e1] at hp
  cases hp
  refine p v H2 w ws2' ⟨st.kp.mono fun a z => hsub a z, fun a ha => ?_, st.trk⟩ env2 ?_ nd dT
  · rcases List.mem_append.mp ha with ha | ha
    · exact (stw a ha).imp (hsub a) id
    · rcases sub2 a ha with q | q
      · exact (st2 a q).imp (hsub a) id
      · exact .inl q.1
  · refine Rp.sets (rr.anyB hG.pl spl) (fun a _ z => ?_) fun _ _ z => z
    rcases z with (z | z) | z
    · by_cases hw : a ∈ wss.flatten
      · exact absurd z (env.dj a (hsub a hw))
      · exact .inl (.inl ⟨.inl z, hw⟩)
    · exact .inl (.inr z)
    · rcases sub2 a z with q | q
      · exact .inr q
      · exact .inl (.inl ⟨.inr q.1, q.2⟩)
end
end DI
end
section
set_option Elab.async false
set_option linter.all false
set_option maxRecDepth 100000
/-! Calls, part 3: the rules. -/
namespace DI
open PySem PySem.Spec L2
/-- no exception passes -/
def CX0 : CXT := fun _ _ _ _ _ _ => False
structure FA where
  fa : Nat → Addr
  fd : Nat → FuncData
  ps : Nat → List Str
/-- the defs that stand ready, so deep -/
structure FnX (t : Tb) (mc : Mc) (G : CT) (ts : List Addr) (C : Calls) (F : FA) (X : Cx) (k : Nat) : Prop where
  fn : ∀ f q s, mc.fns[f]? = some q → t.sg[f]? = some s → FnOk X.prog X.w X.K X.mg X.base CX0 k (F.fa f) (F.fd f) (F.ps f) (Spf t G ts C f s) ∧ Binds X.K (F.fd f) (F.ps f) []
  gl : ∀ f x, mc.fns[f]? = some (.glob x) → X.mg x = some (.ref (F.fa f)) ∧ PySem.W.keepIn X.K (.ref (F.fa f)) = true ∧ (x == ("__debug__" : Str)) = false
  me : ∀ f c m, mc.fns[f]? = some (.meth c m) → Meth X.K (G.ca c) m (F.fa f) ∧ Cls X.K (G.ca c) ∧ ∀ q ∈ G.cf c, q.1 ≠ m
  sg : ∀ (f c : Nat) (m : Str) (s : Sig), mc.fns[f]? = some (FnAt.meth c m) → t.sg[f]? = some s → ∃ (kk : Nat) (r : List PK), s.ps = .io (.O c kk) :: r ∨ s.ps = .bw (.O c kk) :: r ∨ s.ps = .ini c :: r
  ma : ∀ f c x, mc.cls[c]? = some x → mc.fns[f]? = some (.meth c "__init__") → Mk X.K (G.ca c) (F.fa f) ∧ X.mg x = some (.ref (G.ca c)) ∧ (x == ("__debug__" : Str)) = false
section
variable {G : CT} {ts : List Addr} {H H' : Hp} {T T' : Tl} {ws ws' : List (List Addr)} {g : Md} {ρ : Rho} {σ : St}
variable {t : Tb} {C : Calls} {X : Cx} {mc : Mc} {k : Nat} {N B N' B' S : Sets} {F : FA}
theorem PE.vac {e : Expr} {r : TE} (h : ∀ σ H Q, ¬ r σ H Q) : PE X e r := ⟨fun pins s σ H Q I q => absurd q (h σ H Q)⟩
def plainA : E → Bool
  | .a0 => true
  | .aE _ r => plainA r
  | .abw _ r => plainA r
  | .aio _ r => plainA r
  | _ => false
theorem plain_of : ∀ {as : E} {ps : List PK} {g g1 : Md}, ck.ckA t as ps g = some g1 → plainA as = true := by
  intro as
  induction as with
  | a0 => intros; rfl
  | aE a r _ ih =>
    intro ps g g1 h
    cases ps with
    | nil => simp only [ck.ckA] at h; cases h
    | cons q ps =>
      cases q <;> simp only [ck.ckA] at h <;> first | (cases h; done) | skip
      all_goals
        split at h
        · split at h
          · exact ih h
          · cases h
        · cases h
  | abw p r _ ih =>
    intro ps g g1 h
    cases ps with
    | nil => simp only [ck.ckA] at h; cases h
    | cons q ps =>
      cases q <;> simp only [ck.ckA] at h <;> first | (cases h; done) | skip
      split at h
      · rename_i e
        exact ih e
      · cases h
  | aio p r _ ih =>
    intro ps g g1 h
    cases ps with
    | nil => simp only [ck.ckA] at h; cases h
    | cons q ps =>
      cases q <;> simp only [ck.ckA] at h <;> first | (cases h; done) | skip
      split at h
      · rename_i e
        exact ih e
      · cases h
  | _ => intro ps g g1 h; cases ps <;> first | (simp only [ck.ckA] at h; cases h; done) | (rename_i q ps; cases q <;> (simp only [ck.ckA] at h; cases h))
theorem star_plain {env : Env} {pos : Pos} : ∀ {as : E} {es : List Expr}, plainA as = true → matL mc as es = true → (backTo pos (starEach es env)).any (·.1) = false
  | .a0, [], _, _ => rfl
  | .a0, _ :: _, _, h => by simp only [matL] at h; cases h
  | .aE a r, [], _, h => by simp only [matL] at h; cases h
  | .aE a r, e :: es, hp, h => by
    simp only [matL, Bool.and_eq_true, Bool.not_eq_true'] at h
    rw [starE_no h.1]
    exact star_plain (as := r) hp h.2.2
  | .abw a r, [], _, h => by simp only [matL] at h; cases h
  | .abw a r, e :: es, hp, h => by
    simp only [matL, Bool.and_eq_true, Bool.not_eq_true'] at h
    rw [starE_no h.1]
    exact star_plain (as := r) hp h.2.2
  | .aio a r, [], _, h => by simp only [matL] at h; cases h
  | .aio a r, e :: es, hp, h => by
    simp only [matL, Bool.and_eq_true, Bool.not_eq_true'] at h
    rw [starE_no h.1]
    exact star_plain (as := r) hp h.2.2
theorem star_head {as : E} {e : Expr} {es : List Expr} (hp : plainA as = true) (h : matL mc as (e :: es) = true) : isStarX e = false := by
  cases as <;> simp only [plainA] at hp <;> first | (cases hp; done) | skip
  · simp only [matL] at h; cases h
  all_goals
    simp only [matL, Bool.and_eq_true, Bool.not_eq_true'] at h
    exact h.1
theorem gl_of (hX : CxM mc X k) {x : Str} (h : glB mc.sc x = true) : Gl X x := hX.loc x .globalImplicit (by simp) (of_decide_eq_true h)
theorem pass0 {E : XK} : Passes CX0 X E := fun _ _ _ _ _ _ _ h => h.elim
abbrev noE : XK := fun _ _ _ => False
theorem RE.meq {f : Nat} {as : E} : RE t G ts C (.mcall f as) σ H = RE t G ts C (.call f as) σ H := by
  unfold RE
  simp only [ck, ev]
/-- the call behind its arguments -/
theorem RE.callR (hG : GOk t mc G) {f : Nat} {as : E} {Q : VK} (h : RE t G ts C (.call f as) σ H Q) : ∃ s, t.sg[f]? = some s ∧ plainA as = true ∧ RC t G ts C as s.ps σ H fun vs H1 => Spf t G ts C f s vs H1 Q noE := by
  have main : ∃ (T : Tl) (ws : List (List Addr)) (g : Md) (ρ : Rho) (s : Sig) (g' : Md) (ds : List D) (ρ1 ρ2 : Rho) (r : D) (outs : List D), t.sg[f]? = some s ∧ apart as = true ∧ ck.ckA t as s.ps g = some g' ∧ ev C as ρ = some (.tup ds, ρ1) ∧ C f ds = some (r, outs) ∧ ev.putIo ρ1 as outs = some ρ2 ∧ EnvOk G ts H T ws g ρ σ ∧ Post G ts H T ws.flatten g' ρ2 σ s.ret r Q := by
    obtain ⟨T, ws, g, ρ, m, g', d, ρ', hc, he, env, p⟩ := h
    simp only [ck, ev] at hc he
    split at hc
    · rename_i s hs
      split at hc
      · rename_i hap
        rw [Option.map_eq_some_iff] at hc
        obtain ⟨g1, e1, e2⟩ := hc
        cases e2
        split at he
        · rename_i xs ρ1 e3
          split at he
          · rename_i r outs e4
            rw [Option.map_eq_some_iff] at he
            obtain ⟨ρ2, e5, e6⟩ := he
            cases e6
            exact ⟨T, ws, g, ρ, s, g', xs, ρ1, ρ', d, outs, hs, hap, e1, e3, e4, e5, env, p⟩
          · cases he
        · cases he
      · cases hc
    · cases hc
  obtain ⟨T, ws, g, ρ, s, g', ds, ρ1, ρ2, r, outs, hs, hap, e1, e3, e4, e5, env, p⟩ := main
  refine ⟨s, hs, plain_of e1, T, ws, g, ρ, g', ds, ρ1, e1, e3, env, fun vs H1 ws1 st1 env1 ar _ => ?_⟩
  refine call_core hG hs hap env1 ar e4 e5 fun v H2 w ws2 st2 env2 rr nd dj => ?_
  exact p v H2 w ws2 (Stp.trans st1 (fun x z => z) st2) env2 rr nd dj
theorem RC.nil {ps : List PK} {Q : List V → Hp → Prop} (h : RC t G ts C .a0 ps σ H Q) : Q [] H := by
  obtain ⟨T, ws, g, ρ, g', ds, ρ', hc, he, env, p⟩ := h
  cases ps with
  | nil =>
    simp only [ck.ckA, ev] at hc he
    cases hc; cases he
    exact p [] H ws Stp.refl env True.intro fun _ => rfl
  | cons => simp only [ck.ckA] at hc; cases hc
theorem matL_nil {as : E} (h : matL mc as [] = true) : as = .a0 := by
  cases as <;> first | rfl | (simp only [matL] at h; cases h)
theorem tupS {Q : VK} {sp : Sp} {vs : List V} (h : sp vs H Q noE) : sp (vs ++ []) H Q noE := by rw [List.append_nil]; exact h
/-- a call of a def of the module -/
theorem sd_call (hX : CxM mc X k) (hr : Room k X.A) (hG : GOk t mc G) (hF : FnX t mc G ts C F X k) {f : Nat} {as : E} {x : Str} {p pos : Pos} {es : List Expr} (hf : mc.fns[f]? = some (.glob x)) (hg : glB mc.sc x = true) (hm : matL mc as es = true)
    (ha : ∀ ps, PA X es (RC t G ts C as ps)) : PE X (.Call (.Name x p) es [] pos) (RE t G ts C (.call f as)) := by
  obtain ⟨g1, g2, g3⟩ := hF.gl f x hf
  cases hs : t.sg[f]? with
  | none => exact PE.vac fun σ H Q h => by obtain ⟨s, e, _⟩ := RE.callR hG h; rw [hs] at e; cases e
  | some s =>
    obtain ⟨F1, B1⟩ := hF.fn f _ s hf hs
    cases hpa : plainA as with
    | false => exact PE.vac fun σ H Q h => by obtain ⟨s', _, e, _⟩ := RE.callR hG h; rw [hpa] at e; cases e
    | true =>
      cases es with
      | nil =>
        have e := matL_nil hm
        subst e
        refine PE.of (pe_call0 (E := noE) F1 hr (gl_of hX hg) g1 g2 B1 (dvs := []) .nil pass0 g3) fun σ H Q h => ?_
        obtain ⟨s', hs', _, h⟩ := RE.callR hG h
        rw [hs] at hs'
        cases hs'
        exact h.nil
      | cons e es =>
        refine PE.of (pe_call (E := noE) F1 hr (gl_of hX hg) g1 g2 B1 (dvs := []) .nil pass0 (ha s.ps) g3 (starE_no (star_head hpa hm)) ?_) fun σ H Q h => ?_
        · have h1 := star_plain (mc := mc) (env := X.env) (pos := pos) hpa hm
          rw [starE_no (star_head hpa hm)] at h1
          exact h1
        · obtain ⟨s', hs', _, T, ws, g, ρ, g', ds, ρ1, e1, e3, env, h⟩ := RE.callR hG h
          rw [hs] at hs'
          cases hs'
          exact ⟨T, ws, g, ρ, g', ds, ρ1, e1, e3, env, fun vs H1 ws1 st1 env1 ar hq => tupS (h vs H1 ws1 st1 env1 ar hq)⟩
end
end DI
end
section
set_option Elab.async false
set_option linter.all false
set_option maxRecDepth 100000
/-! Calls, part 4: methods, new instances. -/
namespace DI
open PySem PySem.Spec L2
theorem kw0 {env : Env} {pos : Pos} : backToKw pos (keywordEach [] env) = [] := rfl
theorem form_ok {env : Env} {pos : Pos} {es : List Expr} (h : (backTo pos (starEach es env)).any (·.1) = false) (hl : es.length < 30) : methodCallForm (es.length + 0) (backTo pos (starEach es env)) (backToKw pos (keywordEach [] env)) = true := by
  unfold methodCallForm
  rw [kw0]
  have : (backTo pos (starEach es env)).all (!·.1) = true := by
    rw [List.all_eq_true]
    rw [List.any_eq_false] at h
    intro x hx
    have := h x hx
    simpa using this
  rw [this]
  simp
  omega
theorem meth_tree {o : Expr} {m : Str} {ap pos : Pos} {es : List Expr} {env : Env} (hd : dotX o = true) (h : (backTo pos (starEach es env)).any (·.1) = false) (hl : es.length < 30) (he : ap.endLine = pos.line) :
    eval (.Call (.Attribute o m ap) es [] pos) env = (do
      let ov ← eval o env
      standAt ap.atName
      let (f, first) ← holding [ov] (getMethod ov m (do return (← importBound o env).getD true))
      callWith pos f first (backTo pos (starEach es env)) (backToKw pos (keywordEach [] env))) := by
  have h1 : eval (.Call (.Attribute o m ap) es [] pos) env = (do
      let ov ← attributeBase o m env (eval o env)
      standAt ap.atName
      methodCall o m ap pos env ov (es.length + 0) (backTo pos (starEach es env)) (backToKw pos (keywordEach [] env))) := rfl
  rw [h1, dot_ok hd]
  unfold methodCall
  rw [form_ok h hl]
  have h2 : methodCallPos true o env ap pos = pure pos := by
    unfold methodCallPos
    rw [he]
    simp
  rw [h2]
  rfl
section
variable {G : CT} {ts : List Addr} {H H' : Hp} {T T' : Tl} {ws ws' : List (List Addr)} {g : Md} {ρ : Rho} {σ : St}
variable {t : Tb} {C : Calls} {X : Cx} {mc : Mc} {k : Nat} {N B N' B' S : Sets} {F : FA}
/-- the arguments' own part of a method's list -/
theorem sd_mcall0 {f c : Nat} {m : Str} {r : E} {o : Expr} {es : List Expr} {ap pos : Pos} {ta : TE} {A0 : E} (hX : CxM mc X k) (hr : Room k X.A) (hK : X.K = G.K) (hG : GOk t mc G) (hF : FnX t mc G ts C F X k) (hf : mc.fns[f]? = some (.meth c m)) (hd : dotX o = true) (hl : es.length < 30) (he : ap.endLine = pos.line)
    (hp : plainA A0 = true → plainA r = true) (hm : matL mc r es = true) (ho : PE X o ta) (ha : ∀ ps, PA X es (RC t G ts C r ps))
    (split : ∀ (s : Sig) (ps : List PK) (kk : Nat) (σ : L2.St) (H : Hp) (Q : List V → Hp → Prop), t.sg[f]? = some s → (s.ps = .io (.O c kk) :: ps ∨ s.ps = .bw (.O c kk) :: ps) → RC t G ts C A0 s.ps σ H Q →
      ta σ H fun v H1 => InsAt G H1 (.O c kk) v ∧ RC t G ts C r ps σ H1 fun vs H2 => Q (v :: vs) H2) (hne : ∀ s (ps : List PK), t.sg[f]? = some s → s.ps = .ini c :: ps → ∀ σ H Q, ¬ RC t G ts C A0 s.ps σ H Q)
    (mono : ∀ {σ : L2.St} {H : Hp} {Q Q' : VK}, ta σ H Q → (∀ v H1, Q v H1 → Q' v H1) → ta σ H Q') :
    PE X (.Call (.Attribute o m ap) es [] pos) (RE t G ts C (.mcall f A0)) := by
  obtain ⟨m1, m2, m3⟩ := hF.me f c m hf
  cases hs : t.sg[f]? with
  | none => exact PE.vac fun σ H Q h => by rw [RE.meq] at h; obtain ⟨s, e, _⟩ := RE.callR hG h; rw [hs] at e; cases e
  | some s =>
    obtain ⟨F1, B1⟩ := hF.fn f _ s hf hs
    cases hpa : plainA A0 with
    | false => exact PE.vac fun σ H Q h => by rw [RE.meq] at h; obtain ⟨s', _, e, _⟩ := RE.callR hG h; rw [hpa] at e; cases e
    | true =>
      obtain ⟨kk, ps, hps⟩ := hF.sg f c m s hf hs
      by_cases hini : s.ps = .ini c :: ps
      · refine PE.vac fun σ H Q h => ?_
        rw [RE.meq] at h
        obtain ⟨s', hs', _, h⟩ := RE.callR hG h
        rw [hs] at hs'
        cases hs'
        exact hne s ps hs hini _ _ _ h
      · have hps' : s.ps = .io (.O c kk) :: ps ∨ s.ps = .bw (.O c kk) :: ps := by
          rcases hps with h | h | h
          · exact .inl h
          · exact .inr h
          · exact absurd h hini
        have key : ∀ σ H Q, RE t G ts C (.mcall f A0) σ H Q → tMeth (G.ca c) m (Spf t G ts C f s) [] noE ta (RC t G ts C r ps) σ H Q := by
          intro σ H Q h
          rw [RE.meq] at h
          obtain ⟨s', hs', _, h⟩ := RE.callR hG h
          rw [hs] at hs'
          cases hs'
          refine mono (split s ps kk σ H _ hs hps' h) fun v H1 ⟨hi, hrc⟩ => ?_
          obtain ⟨a, dx, fs, e1, e2, e3⟩ := hi c kk rfl
          refine ⟨a, dx, fs, e1, e2, ?_, ?_⟩
          · cases hlk : fs.lookup m with
            | none => rfl
            | some u =>
              exfalso
              have hin : m ∈ fs.map (·.1) := by
                rw [List.lookup_eq_some_iff] at hlk
                obtain ⟨l1, l2, e, _⟩ := hlk
                rw [e]; simp
              rw [e3] at hin
              obtain ⟨q, hq, eq⟩ := List.mem_map.mp hin
              exact m3 q (List.mem_of_mem_take hq) eq
          · obtain ⟨T, ws, g, ρ, g', ds, ρ1, k1, k2, k3, k4⟩ := hrc
            exact ⟨T, ws, g, ρ, g', ds, ρ1, k1, k2, k3, fun vs H2 ws2 st env ar hq => by
              show Spf t G ts C f s (v :: (vs ++ [])) H2 Q noE
              rw [List.append_nil]
              exact k4 vs H2 ws2 st env ar hq⟩
        have m1' : Meth X.K (G.ca c) m (F.fa f) := m1
        have h1 := star_plain (mc := mc) (env := X.env) (pos := pos) (hp hpa) hm
        cases es with
        | nil =>
          have e := matL_nil hm
          subst e
          refine PE.of (pe_meth0 (E := noE) ho m2 m1' F1 hr B1 (dvs := []) .nil pass0 (meth_tree hd h1 hl he)) fun σ H Q h => ?_
          refine mono (key σ H Q h) fun v H1 ⟨a, dx, fs, e1, e2, e3, q⟩ => ⟨a, dx, fs, e1, e2, e3, q.nil⟩
        | cons e es =>
          refine PE.of (pe_meth (E := noE) ho m2 m1' F1 hr B1 (dvs := []) .nil pass0 (ha ps) (starE_no (star_head (hp hpa) hm)) ?_ (meth_tree hd h1 hl he)) fun σ H Q h => key σ H Q h
          rw [starE_no (star_head (hp hpa) hm)] at h1
          exact h1
theorem RC.no_io {a r : E} {m : M} {ps : List PK} {Q : List V → Hp → Prop} : ¬ RC t G ts C (.aE a r) (.io m :: ps) σ H Q := by
  rintro ⟨T, ws, g, ρ, g', ds, ρ', hc, _⟩
  simp only [ck.ckA] at hc; cases hc
theorem RC.no_ini {A0 : E} {c : Nat} {ps : List PK} {Q : List V → Hp → Prop} (h : ∃ a r, A0 = .aE a r ∨ A0 = .abw a r ∨ A0 = .aio a r) : ¬ RC t G ts C A0 (.ini c :: ps) σ H Q := by
  rintro ⟨T, ws, g, ρ, g', ds, ρ', hc, _⟩
  obtain ⟨a, r, rfl | rfl | rfl⟩ := h <;> (simp only [ck.ckA] at hc; cases hc)
theorem RC.lent_kind {p r : E} {w : Bool} {q : PK} {ps : List PK} {Q : List V → Hp → Prop} (h : RC t G ts C (if w then .aio p r else .abw p r) (q :: ps) σ H Q) : ∃ m, q = (if w then PK.io m else PK.bw m) := by
  obtain ⟨T, ws, g, ρ, g', ds, ρ', hc, _⟩ := h
  cases w <;> cases q <;> simp only [if_true, Bool.false_eq_true, if_false, ck.ckA] at hc <;> first | (cases hc; done) | exact ⟨_, rfl⟩
theorem RE.mono {e : E} {Q Q' : VK} (h : RE t G ts C e σ H Q) (q : ∀ v H1, Q v H1 → Q' v H1) : RE t G ts C e σ H Q' := by
  obtain ⟨T, ws, g, ρ, m, g', d, ρ', h1, h2, h3, h4⟩ := h
  exact ⟨T, ws, g, ρ, m, g', d, ρ', h1, h2, h3, fun v H' w ws' st e r n dj => q _ _ (h4 v H' w ws' st e r n dj)⟩
/-- a method of what is lent -/
theorem sd_mcallL {w : Bool} {f c : Nat} {m : Str} {p r : E} {o : Expr} {es : List Expr} {ap pos : Pos} (hX : CxM mc X k) (hr : Room k X.A) (hK : X.K = G.K) (hG : GOk t mc G) (hF : FnX t mc G ts C F X k) (hf : mc.fns[f]? = some (.meth c m)) (hd : dotX o = true) (hl : es.length < 30) (he : ap.endLine = pos.line)
    (hm : matL mc r es = true) (ho : isPath p = true → PE X o (tPath G p)) (ha : ∀ ps, PA X es (RC t G ts C r ps)) : PE X (.Call (.Attribute o m ap) es [] pos) (RE t G ts C (.mcall f (if w then .aio p r else .abw p r))) := by
  by_cases hpp : isPath p = true
  · refine sd_mcall0 hX hr hK hG hF hf hd hl he (fun h => by cases w <;> exact h) hm (ho hpp) ha (fun s ps kk σ H Q hs hps h => ?_) (fun s ps hs e σ H Q h => ?_) fun {σ H Q Q'} ⟨v, hv, q⟩ h => ⟨v, hv, h _ _ q⟩
    · obtain ⟨q0, e, hq⟩ : ∃ q0, s.ps = q0 :: ps ∧ (q0 = .io (.O c kk) ∨ q0 = .bw (.O c kk)) := by
        rcases hps with e | e
        · exact ⟨_, e, .inl rfl⟩
        · exact ⟨_, e, .inr rfl⟩
      rw [e] at h
      obtain ⟨m0, rfl⟩ := h.lent_kind
      have em : m0 = .O c kk := by cases w <;> rcases hq with q | q <;> cases q <;> rfl
      subst em
      exact RC.lentP hG h
    · rw [e] at h
      exact RC.no_ini ⟨p, r, by cases w; exact .inr (.inl rfl); exact .inr (.inr rfl)⟩ h
  · refine PE.vac fun σ H Q h => ?_
    rw [RE.meq] at h
    obtain ⟨s, _, _, T, ws, g, ρ, g', ds, ρ1, hc, _⟩ := RE.callR hG h
    cases hps : s.ps with
    | nil => rw [hps] at hc; cases w <;> (simp only [if_true, Bool.false_eq_true, if_false, ck.ckA] at hc; cases hc)
    | cons q ps =>
      rw [hps] at hc
      cases w <;> cases q <;> simp only [if_true, Bool.false_eq_true, if_false, ck.ckA] at hc <;> first | (cases hc; done) | skip
      all_goals
        split at hc
        · split at hc
          · rename_i ff
            simp only [Bool.and_eq_true] at ff
            exact hpp ff.2.2.2.1
          · cases hc
        · cases hc
/-- a method of what is read -/
theorem sd_mcallE {f c : Nat} {m : Str} {a r : E} {o : Expr} {es : List Expr} {ap pos : Pos} (hX : CxM mc X k) (hr : Room k X.A) (hK : X.K = G.K) (hG : GOk t mc G) (hF : FnX t mc G ts C F X k) (hf : mc.fns[f]? = some (.meth c m)) (hd : dotX o = true) (hl : es.length < 30) (he : ap.endLine = pos.line)
    (hm : matL mc r es = true) (ho : PE X o (RE t G ts C a)) (hq : atom a = true → PE X o (tAtom a)) (ha : ∀ ps, PA X es (RC t G ts C r ps)) : PE X (.Call (.Attribute o m ap) es [] pos) (RE t G ts C (.mcall f (.aE a r))) := by
  by_cases hat : atom a = true
  · refine sd_mcall0 (r := r) (A0 := .aE a r) hX hr hK hG hF hf hd hl he (fun h => h) hm (hq hat) ha (fun s ps kk σ H Q hs hps h => ?_) (fun s ps hs e σ H Q h => ?_) fun {σ H Q Q'} ⟨v, hv, q⟩ h => ⟨v, hv, h _ _ q⟩
    · rcases hps with e | e
      · rw [e] at h; exact (RC.no_io h).elim
      · rw [e] at h
        obtain ⟨v, hv, h1, h2⟩ := RC.valA hat h
        exact ⟨v, hv, h1 _ rfl, h2⟩
    · rw [e] at h
      exact RC.no_ini ⟨a, r, .inl rfl⟩ h
  · refine sd_mcall0 (r := r) (A0 := .aE a r) hX hr hK hG hF hf hd hl he (fun h => h) hm ho ha (fun s ps kk σ H Q hs hps h => ?_) (fun s ps hs e σ H Q h => ?_) fun {σ H Q Q'} h q => h.mono q
    · rcases hps with e | e
      · rw [e] at h; exact (RC.no_io h).elim
      · rw [e] at h
        exact (RC.valE (by simpa using hat) h).mono fun v H1 q => ⟨q.1 _ rfl, q.2⟩
    · rw [e] at h
      exact RC.no_ini ⟨a, r, .inl rfl⟩ h
end
end DI
end
section
set_option Elab.async false
set_option linter.all false
set_option maxRecDepth 100000
/-! Calls, part 5: new instances. -/
namespace DI
open PySem PySem.Spec L2
section
variable {G : CT} {ts : List Addr} {H H' : Hp} {T T' : Tl} {ws ws' : List (List Addr)} {g : Md} {ρ : Rho} {σ : St}
variable {t : Tb} {C : Calls} {X : Cx} {mc : Mc} {k : Nat} {N B N' B' S : Sets} {F : FA}
theorem PathV.keep (kp : Kp H H' fun _ => False) {p : E} {v : V} (h : PathV G σ H p v) : PathV G σ H' p v := by
  induction p generalizing v with
  | var i => exact h
  | fld p c j ih =>
    obtain ⟨a, dx, fs, q, h1, h2, h3, h4⟩ := h
    exact ⟨a, dx, fs, q, ih h1, kp.keep _ _ h2 (fun ps z => by cases z) (fun z => z), h3, h4⟩
  | _ => exact False.elim h
theorem AR.step (kp : Kp H H' fun _ => False) (hn : ∀ a, H a ≠ none → uni T' ws.flatten a → uni T ws.flatten a) (hl : ∀ a, T.l a → T'.l a) : ∀ {as : E} {ps : List PK} {ds : List D} {vs : List V}, AR t G σ H T ws g ρ as ps ds vs → AR t G σ H' T' ws g ρ as ps ds vs := by
  intro as
  induction as with
  | a0 => intro ps ds vs h; cases ps <;> cases ds <;> cases vs <;> exact h
  | aE a r _ ih =>
    intro ps ds vs h
    cases ps with
    | nil => exact False.elim h
    | cons q ps =>
      cases ds with
      | nil => cases q <;> exact False.elim h
      | cons d ds =>
        cases vs with
        | nil => cases q <;> exact False.elim h
        | cons v vs =>
          cases q with
          | z => exact ⟨h.1.next (S := fun _ => False) (B := fun _ => False) (B' := fun _ => False) kp ⟨fun a z => z.elim, fun a z => z.elim, hn, fun a _ z => z⟩, ih h.2⟩
          | bw m => exact ⟨h.1.next (S := fun _ => False) kp ⟨fun a z => z.elim, fun a z => z.elim, hn, fun a ha z => ⟨hn a ha z.1, fun q => z.2 (hl a q)⟩⟩ (fun a z => nomatch z), ih h.2⟩
          | io m => exact False.elim h
          | ini c => exact False.elim h
  | abw p r _ ih =>
    intro ps ds vs h
    cases ps with
    | nil => exact False.elim h
    | cons q ps =>
      cases ds with
      | nil => cases q <;> exact False.elim h
      | cons d ds =>
        cases vs with
        | nil => cases q <;> exact False.elim h
        | cons v vs =>
          cases q with
          | bw m =>
            obtain ⟨⟨h1, h2, h3, h4, h5⟩, h6⟩ := h
            exact ⟨⟨h1, h2, h3, h4.keep kp, h5⟩, ih h6⟩
          | z => exact False.elim h
          | io m => exact False.elim h
          | ini c => exact False.elim h
  | aio p r _ ih =>
    intro ps ds vs h
    cases ps with
    | nil => exact False.elim h
    | cons q ps =>
      cases ds with
      | nil => cases q <;> exact False.elim h
      | cons d ds =>
        cases vs with
        | nil => cases q <;> exact False.elim h
        | cons v vs =>
          cases q with
          | io m =>
            obtain ⟨⟨h1, h2, h3, h4, h5⟩, h6⟩ := h
            exact ⟨⟨h1, h2, h3, h4.keep kp, h5⟩, ih h6⟩
          | z => exact False.elim h
          | bw m => exact False.elim h
          | ini c => exact False.elim h
  | _ => intro ps ds vs h; exact False.elim h
theorem kp_trans0 {H1 H2 H3 : Hp} (a : Kp H1 H2 fun _ => False) (b : Kp H2 H3 fun _ => False) : Kp H1 H3 fun _ => False :=
  ⟨fun x o e s n => b.keep x o (a.keep x o e s n) s n, fun x xs e => b.tup x xs (a.tup x xs e), fun x o u e => b.frz x o u (a.frz x o u e)⟩
/-- a new instance's first def, from the frame behind the arguments -/
theorem make_core (hG : GOk t mc G) {as : E} {s : Sig} {f c : Nat} {ps : List PK} {ds : List D} {vs : List V} {o : D} {outs : List D} {ρ2 : Rho} {Q : VK} {E : XK} {x dx : Addr} (hs : t.sg[f]? = some s) (hps : s.ps = .ini c :: ps) (hret : s.ret = .z) (hap : apart as = true)
    (env0 : EnvOk G ts H T ws g ρ σ) (ar0 : AR t G σ H T ws g ρ as ps ds vs) (hC : C f (.tup [] :: ds) = some (.non, o :: outs)) (hp : ev.putIo ρ as outs = some ρ2) (p : Post G ts H T ws.flatten g ρ2 σ (.O c (t.cf.getD c []).length) o Q)
    (hx : H x = none) (hdx : H dx = none) (hne : dx ≠ x) : Spf t G ts C f s (.ref x :: vs) (upd (upd H dx (.own x)) x (.ins (G.ca c) dx [])) (fun v H2 => v = .non ∧ Q (.ref x) H2) E := by
  have hx1 : upd H dx (.own x) x = none := by rw [upd_ne (Ne.symm hne)]; exact hx
  have kp1 : Kp H (upd (upd H dx (.own x)) x (.ins (G.ca c) dx [])) fun _ => False := kp_trans0 (kp_new hdx) (kp_new hx1)
  have tr1 : ∀ a, H a ≠ none → upd (upd H dx (.own x)) x (.ins (G.ca c) dx []) a ≠ none := fun a h => trk_new a (trk_new a h)
  have tb1 : Tabs ts (upd (upd H dx (.own x)) x (.ins (G.ca c) dx [])) := tabs_new hx1 (tabs_new hdx env0.tb)
  have hH3 : upd (upd H dx (.own x)) x (.ins (G.ca c) dx []) x = some (.ins (G.ca c) dx []) := upd_same
  generalize upd (upd H dx (.own x)) x (.ins (G.ca c) dx []) = H3 at kp1 tr1 tb1 hH3 ⊢
  have env : EnvOk G ts H3 (uni T [x]) ws g ρ σ := env0.grow kp1 (fun a z => z.elim (fun z => tr1 a (env0.tt a z)) fun z => by rw [List.mem_singleton.mp z, hH3]; simp) (fun a z => z.imp id fun z => by rw [List.mem_singleton.mp z]; exact hx) tb1
  have ar : AR t G σ H3 (uni T [x]) ws g ρ as ps ds vs := AR.step (T := T) (T' := uni T [x]) kp1 (fun a ha z => by
    rcases z with (z | z) | z
    · exact .inl z
    · exact absurd (List.mem_singleton.mp z ▸ hx) ha
    · exact .inr z) (fun a z => z) ar0
  have xT : ¬ T x := fun z => env0.tt x z hx
  have xl : ¬ T.l x := fun z => xT (T.h x z)
  have xw : x ∉ ws.flatten := fun z => env0.trk x z hx
  unfold apart at hap
  rw [Bool.and_eq_true, decide_eq_true_eq, List.all_eq_true] at hap
  have hap2 : ∀ i ∈ bwRoots as, i ∉ ioRoots as := fun i hi => by
    have := hap.2 i hi
    simp only [Bool.not_eq_true', List.contains_eq_mem, decide_eq_false_iff_not] at this
    exact this
  obtain ⟨wss, i1, i2, i3, i4⟩ := lend_args hG env ar hap.1 hap2
  have hsub : ∀ a ∈ wss.flatten, a ∈ ws.flatten := fun a ha => let ⟨j, _, hj⟩ := i2 a ha; mem_flat hj
  have pr := i3 (fun a => a ∈ ([x] :: wss).flatten) fun a z => by
    rw [List.flatten_cons] at z
    rcases List.mem_append.mp z with z | z
    · exact .inr ⟨.inr z, by rw [List.mem_singleton.mp z]; exact xl⟩
    · exact .inl z
  obtain ⟨l1, l2, l3, hpl, hini, sl⟩ := pr.slots hG
  have hlen := put_len (outs := outs) ar hp
  have hflat : ([x] :: wss).flatten = x :: wss.flatten := rfl
  have hN : ∀ a, uni (rest0 T ws.flatten wss.flatten) ([x] :: wss).flatten a → uni (uni T [x]) ws.flatten a := fun a z => by
    rcases z with z | z
    · exact z.1.elim (fun q => .inl (.inl q)) .inr
    · rw [hflat] at z
      rcases List.mem_cons.mp z with z | z
      · exact .inl (.inr (by rw [z]; simp))
      · exact .inr (hsub a z)
  have envc : EnvOk G ts H3 (rest0 T ws.flatten wss.flatten) ([x] :: wss) (s.ps.map pmE) (.tup [] :: ds) ((V.ref x :: vs).map some) := by
    rw [hps]
    refine ⟨by simp [l1], by simp [l2], by simp [l3], ?_, fun a z => tr1 a (z.1.elim (env0.tt a) (env0.trk a)), fun a ha z => ?_, fun i m hm => ?_, tb1⟩
    · rw [hflat]
      exact List.nodup_cons.mpr ⟨fun z => xw (hsub x z), i1⟩
    · rw [hflat] at ha
      rcases List.mem_cons.mp ha with e | ha
      · rw [e] at z
        exact z.1.elim xT xw
      · exact z.2 ha
    · cases i with
      | zero =>
        simp only [List.map_cons, List.getElem?_cons_zero, Option.some.injEq, pmE] at hm
        subst hm
        exact .inr ⟨.ref x, rfl, Rp.O (w := []) hH3 (fun z => nomatch z) rfl .nil⟩
      | succ i =>
        simp only [List.map_cons, List.getElem?_cons_succ] at hm
        obtain ⟨v, hv, r⟩ := sl i m hm
        refine .inr ⟨v, by simpa using hv, ?_⟩
        have r2 : Rp G H3 (uni (rest0 T ws.flatten wss.flatten) ([x] :: wss).flatten).s (uni (rest0 T ws.flatten wss.flatten) ([x] :: wss).flatten).b true m (ds.getD i .non) v (wss.getD i []) :=
          r.sets (fun a _ z => hN a z) fun a _ z => z.1.elim (fun q => absurd q z.2) id
        simpa using r2
  refine ⟨rest0 T ws.flatten wss.flatten, [x] :: wss, .tup [] :: ds, .non, o :: outs, hC, by rw [hps]; simp [nIo, hlen], envc, fun v H2 w ws2 st envd rr nd dj => ?_⟩
  rw [hret] at rr
  have ew := rr.z_nil
  subst ew
  refine ⟨(rr.isNon rfl).1, ?_⟩
  rw [hps] at envd
  have l4 : ws2.length = ps.length + 1 := by rw [envd.lw]; simp
  cases ws2 with
  | nil => simp at l4
  | cons w0 w2 =>
    have l5 : w2.length = ps.length := by simpa using l4
    have r0 : Rt G H2 (uni (uni (rest0 T ws.flatten wss.flatten) []) (w0 :: w2).flatten) (.O c (t.cf.getD c []).length) o (.ref x) w0 := by
      rcases envd.sl 0 (.O c (t.cf.getD c []).length) rfl with ⟨e, _⟩ | ⟨u, hu, r⟩
      · cases e
      · have e : u = .ref x := by simpa using hu.symm
        subst e
        exact r
    have or : OR G H2 (uni (uni (rest0 T ws.flatten wss.flatten) []) (w0 :: w2).flatten).s ps vs outs w2 := by
      refine OR.of hG l1 l2 l5 hlen hpl hini (B := (uni (uni (rest0 T ws.flatten wss.flatten) []) (w0 :: w2).flatten).b) fun i m hm => ?_
      have := envd.sl (i + 1) m (by simpa using hm)
      simpa [putP] using this
    have nd2 := envd.nd
    rw [List.flatten_cons, List.nodup_append] at nd2
    have sub0 : ∀ a ∈ (w0 :: w2).flatten, a ∈ x :: wss.flatten ∨ H3 a = none := fun a ha => by
      have := st.sub a (by simpa using ha)
      rw [hflat] at this
      exact this
    have m0 : ∀ a ∈ w0, a ∈ (w0 :: w2).flatten := fun a ha => by rw [List.flatten_cons]; exact List.mem_append_left _ ha
    have m2 : ∀ a ∈ w2.flatten, a ∈ (w0 :: w2).flatten := fun a ha => by rw [List.flatten_cons]; exact List.mem_append_right _ ha
    have toN : ∀ a ∈ (w0 :: w2).flatten, uni (uni T [x]) ws.flatten a ∨ H3 a = none := fun a ha => (sub0 a ha).imp (fun q => (List.mem_cons.mp q).elim (fun e => .inl (.inr (by rw [e]; simp))) fun q => .inr (hsub a q)) id
    have inw : ∀ a ∈ (w0 :: w2).flatten, a ∈ ws.flatten → a ∈ wss.flatten := fun a ha hw => (sub0 a ha).elim (fun q => (List.mem_cons.mp q).elim (fun e => absurd (e ▸ hw) xw) id) fun q => absurd q (env.trk a hw)
    have noT : ∀ a ∈ (w0 :: w2).flatten, ¬ T a := fun a ha z => (sub0 a ha).elim (fun q => (List.mem_cons.mp q).elim (fun e => xT (e ▸ z)) fun q => env0.dj a (hsub a q) z) fun q => tr1 a (env0.tt a z) q
    obtain ⟨ρ2', ws2', e1, env2, sub2⟩ := i4 (fun a => a ∈ ([x] :: wss).flatten) H2 (uni T w0) outs w2 st.kp (fun a z => by
        rw [hflat] at z
        rcases List.mem_cons.mp z with z | z
        · exact .inr ⟨.inr (by rw [z]; simp), by rw [z]; exact xl⟩
        · exact .inl z) st.trk envd.tb
      (fun a z => z.elim (fun z => st.trk a (tr1 a (env0.tt a z))) fun z => r0.trk a z)
      (fun a z => z.elim (fun z => .inl (.inl (.inl z))) fun z => toN a (m0 a z))
      (fun a z ha => z.elim (fun z => absurd z (env0.dj a ha)) fun z => inw a (m0 a z) ha)
      (fun a z => z)
      (fun a z => toN a (m2 a z))
      (fun a z ha => inw a (m2 a z) ha)
      nd2.2.1
      (fun a z q => q.elim (noT a (m2 a z)) fun q => nd2.2.2 a q a z rfl)
      (or.sets fun a _ z => by
        rcases z with (z | z) | z | ⟨z, z2⟩
        · by_cases hw : a ∈ wss.flatten
          · exact absurd z (env0.dj a (hsub a hw))
          · exact .inl (.inl ⟨.inl z, hw⟩)
        · exact .inr (m0 a z)
        · exact .inr (m2 a z)
        · exact .inl (.inl ⟨.inr z, z2⟩))
    rw [e1] at hp
    cases hp
    refine p (.ref x) H2 w0 ws2' ⟨?_, fun a ha => ?_, fun a h => st.trk a (tr1 a h)⟩ env2 ?_ nd2.1 fun a ha => noT a (m0 a ha)
    · refine ⟨fun a o' e s' n => st.kp.keep a o' (kp1.keep a o' e s' fun z => z) s' fun z => ?_, fun a xs e => st.kp.tup a xs (kp1.tup a xs e), fun a o' u e => st.kp.frz a o' u (kp1.frz a o' u e)⟩
      rw [hflat] at z
      rcases List.mem_cons.mp z with z | z
      · rw [z, hx] at e; cases e
      · exact n (hsub a z)
    · have back : ∀ a ∈ (w0 :: w2).flatten, a ∈ ws.flatten ∨ H a = none := fun a ha => by
        rcases sub0 a ha with q | q
        · rcases List.mem_cons.mp q with q | q
          · exact .inr (by rw [q]; exact hx)
          · exact .inl (hsub a q)
        · cases e : H a with
          | none => exact .inr rfl
          | some u => exact absurd q (tr1 a (by rw [e]; simp))
      rcases List.mem_append.mp ha with ha | ha
      · exact back a (m0 a ha)
      · rcases sub2 a ha with q | q
        · exact back a (m2 a q)
        · exact .inl q.1
    · refine Rp.sets (r0.anyB hG.pl rfl) (fun a _ z => ?_) fun _ _ z => z
      rcases z with (z | z) | z
      · by_cases hw : a ∈ wss.flatten
        · exact absurd z (env0.dj a (hsub a hw))
        · exact .inl (.inl ⟨.inl z, hw⟩)
      · exact .inr (m0 a z)
      · rcases sub2 a z with q | q
        · exact .inr (m2 a q)
        · exact .inl (.inl ⟨.inr q.1, q.2⟩)
/-- a new instance -/
theorem sd_mk (hX : CxM mc X k) (hr : Room (k + 1) X.A) (hG : GOk t mc G) (hF : FnX t mc G ts C F X k) {f c : Nat} {as : E} {x : Str} {p pos : Pos} {es : List Expr} (hc : mc.cls[c]? = some x) (hf : mc.fns[f]? = some (.meth c "__init__")) (hg : glB mc.sc x = true) (hm : matL mc as es = true)
    (ha : ∀ ps, PA X es (RC t G ts C as ps)) : PE X (.Call (.Name x p) es [] pos) (RE t G ts C (.mk c f as)) := by
  obtain ⟨M1, g1, g2⟩ := hF.ma f c x hc hf
  have key : ∀ σ H Q, RE t G ts C (.mk c f as) σ H Q → ∃ s ps, t.sg[f]? = some s ∧ s.ps = .ini c :: ps ∧ plainA as = true ∧ RC t G ts C as ps σ H fun vs H1 => ∀ x dx, H1 x = none → H1 dx = none → dx ≠ x →
      Spf t G ts C f s (.ref x :: (vs ++ [])) (upd (upd H1 dx (.own x)) x (.ins (G.ca c) dx [])) (fun v H2 => v = .non ∧ Q (.ref x) H2) noE := by
    rintro σ H Q ⟨T, ws, g, ρ, m, g', d, ρ', hc, he, env, p⟩
    simp only [ck, ev] at hc he
    split at hc
    · rename_i s hs
      split at hc
      · rename_i c' ps hps
        split at hc
        · rename_i hcc
          simp only [Bool.and_eq_true, decide_eq_true_eq] at hcc
          obtain ⟨⟨rfl, hret⟩, hap⟩ := hcc
          rw [Option.map_eq_some_iff] at hc
          obtain ⟨g1, e1, e2⟩ := hc
          cases e2
          split at he
          · rename_i xs ρ1 e3
            split at he
            · rename_i o outs e4
              rw [Option.map_eq_some_iff] at he
              obtain ⟨ρ2, e5, e6⟩ := he
              cases e6
              refine ⟨s, ps, hs, hps, plain_of e1, T, ws, g, ρ, g', xs, ρ1, e1, e3, env, fun vs H1 ws1 st1 env1 ar _ x dx hx hdx hne => ?_⟩
              rw [List.append_nil]
              refine make_core hG hs hps hret hap env1 ar e4 e5 (fun v H2 w ws2 st2 env2 rr nd dj => ?_) hx hdx hne
              exact p v H2 w ws2 (Stp.trans st1 (fun x z => z) st2) env2 rr nd dj
            · cases he
          · cases he
        · cases hc
      · cases hc
    · cases hc
  by_cases hex : ∃ s ps, t.sg[f]? = some s ∧ s.ps = .ini c :: ps ∧ plainA as = true
  · obtain ⟨s, ps, hs, hps, hpa⟩ := hex
    obtain ⟨F1, B1⟩ := hF.fn f _ s hf hs
    cases es with
    | nil =>
      have e := matL_nil hm
      subst e
      refine PE.of (pe_make0 (E := noE) M1 F1 hr (gl_of hX hg) g1 B1 (dvs := []) .nil pass0 g2) fun σ H Q h => ?_
      obtain ⟨s', ps', hs', hps', _, h⟩ := key σ H Q h
      rw [hs] at hs'
      cases hs'
      exact h.nil
    | cons e es =>
      refine PE.of (pe_make (E := noE) M1 F1 hr (gl_of hX hg) g1 B1 (dvs := []) .nil pass0 (ha ps) g2 (starE_no (star_head hpa hm)) ?_) fun σ H Q h => ?_
      · have h1 := star_plain (mc := mc) (env := X.env) (pos := pos) hpa hm
        rw [starE_no (star_head hpa hm)] at h1
        exact h1
      · obtain ⟨s', ps', hs', hps', _, h⟩ := key σ H Q h
        rw [hs] at hs'
        cases hs'
        rw [hps] at hps'
        cases hps'
        exact h
  · refine PE.vac fun σ H Q h => hex ?_
    obtain ⟨s, ps, h1, h2, h3, _⟩ := key σ H Q h
    exact ⟨s, ps, h1, h2, h3⟩
end
end DI
end
section
set_option Elab.async false
set_option linter.all false
set_option maxRecDepth 100000
/-! Built-ins. -/
namespace DI
open PySem PySem.Spec L2
section
variable {G : CT} {ts : List Addr} {H H' : Hp} {T T' : Tl} {ws ws' : List (List Addr)} {g : Md} {ρ : Rho} {σ : St}
variable {t : Tb} {C : Calls} {X : Cx} {mc : Mc} {k : Nat} {N B N' B' S : Sets} {F : FA}
theorem boot_abs' : bootBuiltins "abs" = some (.builtin "abs") := by decide +kernel
/-- what is wanted behind a built-in's arguments -/
structure BiQ (G : CT) (H : Hp) (N : Sets) (m : M) (z : D) (Q : VK) : Prop where
  fz : m = .z → ∀ v, Fz G H N z v → Q v H
  nt : m = .z → ∀ ds xs, z = .tup ds → FzA G H N ds xs → ∀ q, H q = none → Q (.ref q) (upd H q (.tup xs))
  nl : m = .L .z → ∀ ds xs, z = .lst ds → FzA G H N ds xs → ∀ q, H q = none → Q (.ref q) (upd H q (.lst xs))
theorem sd_biG {b : Bi} {as : E} {x : Str} {e : Expr} {es : List Expr} {p pos : Pos} {r : List V → Hp → VK → Prop} (hpe : ∀ t, PA X (e :: es) t → PE X (.Call (.Name x p) (e :: es) [] pos) (tCB r t)) (ha : PA X (e :: es) (RA t G ts C as))
    (core : ∀ {H : Hp} {N N' B : Sets} {m0 m : M} {ds : List D} {vs : List V} {z : D} {w : List Addr} {Q : VK}, biM b m0 = some m → biD b ds = some z → RowOk G H N' B m0 ds vs w → (∀ a, N a → N' a) → (∀ a ∈ w, ¬ N a) → BiQ G H N m z Q → r vs H Q) :
    PE X (.Call (.Name x p) (e :: es) [] pos) (RE t G ts C (.bi b as)) := by
  refine PE.of (hpe _ ha) ?_
  rintro σ H Q ⟨T, ws, g, ρ, m, g', d, ρ', hc, he, env, p⟩
  simp only [ck, ev] at hc he
  split at hc
  · rename_i m0 g1 e1
    rw [Option.map_eq_some_iff] at hc
    obtain ⟨m1, h1, e2⟩ := hc
    cases e2
    split at he
    · rename_i xs ρ1 e3
      rw [Option.map_eq_some_iff] at he
      obtain ⟨z, h2, e4⟩ := he
      cases e4
      refine ⟨T, ws, g, ρ, m0, g', xs, ρ', e1, e3, env, fun vs H1 w ws1 st env1 row nd dj => ?_⟩
      refine core h1 h2 row (N := uni T ws1.flatten) (fun a z => z.imp .inl id) (fun a ha z => z.elim (dj a ha) fun q => env1.dj a q (.inr ha)) ⟨fun e v f => ?_, fun e ds xs ez f q hq => ?_, fun e ds xs ez f q hq => ?_⟩
      · subst e; exact p.fz st.drop1 (env1.less fun a z => .inl z) f
      · subst e; subst ez; exact p.newT st.drop1 (env1.less fun a z => .inl z) f q hq
      · subst e; subst ez; exact p.newL st.drop1 (env1.less fun a z => .inl z) f q hq
    · cases he
  · cases hc
/-! ### one argument, two -/
theorem RowOk.one {m0 : M} {vs : List V} {w : List Addr} {d : D} (h : RowOk G H N B m0 [d] vs w) {a : M} (e : m0 = .tc a .tn) : ∃ v, vs = [v] ∧ Rp G H N B true a d v w := by
  subst e
  rcases h with ⟨e, _⟩ | ⟨_, h⟩
  · cases e
  · cases h with
    | cons h r =>
      cases r
      exact ⟨_, rfl, by rw [List.append_nil]; exact h⟩
theorem biM_z {b : Bi} {m0 m : M} (h : (if (isChain m0 && m0.fzb) = true then some M.z else none) = some m) : m0.fzb = true ∧ m = .z := by
  split at h
  · rename_i f
    rw [Bool.and_eq_true] at f
    cases h
    exact ⟨f.2, rfl⟩
  · cases h
theorem FzA.ones : ∀ {ds : List D} {vs : List V} {is : List Int}, FzA G H N ds vs → intsOf ds = some is → vs = is.map V.int
  | [], _, is, .nil, h => by simp only [intsOf] at h; cases h; rfl
  | d :: ds, _, is, .cons hd ht, h => by
    cases d <;> simp only [intsOf] at h <;> try cases h
    rw [Option.map_eq_some_iff] at h
    obtain ⟨is', h1, h2⟩ := h
    subst h2
    rw [FzA.ones ht h1, hd.int']
    rfl
theorem intsOf_len : ∀ {ds : List D} {is : List Int}, intsOf ds = some is → ds = is.map D.int
  | [], is, h => by simp only [intsOf] at h; cases h; rfl
  | d :: ds, is, h => by
    cases d <;> simp only [intsOf] at h <;> try cases h
    rw [Option.map_eq_some_iff] at h
    obtain ⟨is', h1, h2⟩ := h
    subst h2
    rw [intsOf_len h1]; rfl
theorem int2 {vs : List V} {i j : Int} (h : FzA G H N [.int i, .int j] vs) : vs = [.int i, .int j] := by
  cases h with
  | cons a r =>
    cases r with
    | cons b r => cases r; rw [a.int', b.int']
theorem int1 {vs : List V} {i : Int} (h : FzA G H N [.int i] vs) : vs = [.int i] := by
  cases h with
  | cons a r => cases r; rw [a.int']
theorem maxI_ok : ∀ (l : List Int) (m : Int), maxI m l ∈ m :: l ∧ ∀ y ∈ m :: l, y ≤ maxI m l
  | [], m => by simp [maxI]
  | x :: l, m => by
    have ih := maxI_ok l (if x > m then x else m)
    unfold maxI
    by_cases h : x > m
    · rw [if_pos h] at ih ⊢
      refine ⟨List.mem_cons_of_mem _ ih.1, fun y hy => ?_⟩
      rcases List.mem_cons.mp hy with rfl | hy
      · have := ih.2 x (by simp); omega
      · exact ih.2 y hy
    · rw [if_neg h] at ih ⊢
      refine ⟨?_, fun y hy => ?_⟩
      · rcases List.mem_cons.mp ih.1 with e | e
        · rw [e]; simp
        · exact List.mem_cons_of_mem _ (List.mem_cons_of_mem _ e)
      · rcases List.mem_cons.mp hy with rfl | hy
        · exact ih.2 y (by simp)
        · rcases List.mem_cons.mp hy with rfl | hy
          · have := ih.2 m (by simp); omega
          · exact ih.2 y (List.mem_cons_of_mem _ hy)
theorem minI_ok : ∀ (l : List Int) (m : Int), minI m l ∈ m :: l ∧ ∀ y ∈ m :: l, minI m l ≤ y
  | [], m => by simp [minI]
  | x :: l, m => by
    have ih := minI_ok l (if x < m then x else m)
    unfold minI
    by_cases h : x < m
    · rw [if_pos h] at ih ⊢
      refine ⟨List.mem_cons_of_mem _ ih.1, fun y hy => ?_⟩
      rcases List.mem_cons.mp hy with rfl | hy
      · have := ih.2 x (by simp); omega
      · exact ih.2 y hy
    · rw [if_neg h] at ih ⊢
      refine ⟨?_, fun y hy => ?_⟩
      · rcases List.mem_cons.mp ih.1 with e | e
        · rw [e]; simp
        · exact List.mem_cons_of_mem _ (List.mem_cons_of_mem _ e)
      · rcases List.mem_cons.mp hy with rfl | hy
        · exact ih.2 y (by simp)
        · rcases List.mem_cons.mp hy with rfl | hy
          · have := ih.2 m (by simp); omega
          · exact ih.2 y (List.mem_cons_of_mem _ hy)
/-- the length of what is read -/
theorem Rp.lenV {o : Bool} {m : M} {d : D} {v : V} {w : List Addr} (h : Rp G H N B o m d v w) (hm : m.rdb = true ∨ ∃ m', m = .w (.L m')) {z : D} (hz : biD .len [d] = some z) : ∃ n : Nat, LenV G.K v H n ∧ z = .int n := by
  have fz : ∀ {v : V}, Fz G H N d v → ∃ n : Nat, LenV G.K v H n ∧ z = .int n := by
    intro v h
    cases h with
    | str x =>
      simp only [biD] at hz
      split at hz
      · rename_i hl
        cases hz
        exact ⟨_, ⟨Nat.le_trans (lenOk_le hl) line6, rfl⟩, rfl⟩
      · cases hz
    | tup hs hf => simp only [biD] at hz; cases hz; exact ⟨_, .inr ⟨_, hs, hf.length⟩, rfl⟩
    | lst hs _ hf => simp only [biD] at hz; cases hz; exact ⟨_, .inl ⟨_, .inl hs, hf.length⟩, rfl⟩
    | lstK hs hf => simp only [biD] at hz; cases hz; exact ⟨_, .inl ⟨_, hs H, hf.length⟩, rfl⟩
    | _ => simp only [biD] at hz; cases hz
  have base : ∀ {o : Bool} {m : M} {w : List Addr}, Rp G H N B o m d v w → (m.fzb = true ∨ ∃ m', m = .L m') → ∃ n : Nat, LenV G.K v H n ∧ z = .int n := by
    intro o m w h hm
    cases h with
    | z h => exact fz h
    | co _ h => exact fz h
    | L hs n r => simp only [biD] at hz; cases hz; exact ⟨_, .inl ⟨_, .of hs, r.length⟩, rfl⟩
    | T hs r => simp only [biD] at hz; cases hz; exact ⟨_, .inr ⟨_, hs, r.length⟩, rfl⟩
    | O => rcases hm with f | ⟨_, e⟩ <;> first | cases f | cases e
    | w => rcases hm with f | ⟨_, e⟩ <;> first | cases f | cases e
  rcases hm with f | ⟨m', rfl⟩
  · unfold M.rdb at f
    rw [Bool.or_eq_true] at f
    rcases f with f | f
    · exact base h (.inl f)
    · split at f
      · rename_i m'
        cases h with
        | w h => exact base h (.inl f)
        | co f' _ => cases f'
        | T _ r => cases r
      · cases f
  · cases h with
    | w h => exact base h (.inr ⟨_, rfl⟩)
    | co f' _ => cases f'
    | T _ r => cases r
theorem core_len {H : Hp} {N N' B : Sets} {m0 m : M} {ds : List D} {vs : List V} {z : D} {w : List Addr} {Q : VK} (h1 : biM .len m0 = some m) (h2 : biD .len ds = some z) (row : RowOk G H N' B m0 ds vs w) (q : BiQ G H N m z Q) :
    ∃ x n, vs = [x] ∧ LenV G.K x H n ∧ Q (.int n) H := by
  have hd : ∃ d, ds = [d] := by
    cases ds with
    | nil => simp only [biD] at h2; cases h2
    | cons d r => cases r with
      | nil => exact ⟨d, rfl⟩
      | cons => cases d <;> (simp only [biD] at h2; cases h2)
  obtain ⟨d, rfl⟩ := hd
  have hm : ∃ a, m0 = .tc a .tn ∧ (a.rdb = true ∨ ∃ m', a = .w (.L m')) ∧ m = .z := by
    cases m0 with
    | tc a r =>
      cases r with
      | tn =>
        simp only [biM] at h1
        by_cases f : (a.rdb || lwB a) = true
        · rw [if_pos f] at h1
          rw [Bool.or_eq_true] at f
          refine ⟨a, rfl, f.imp id fun f => ?_, (Option.some.inj h1).symm⟩
          unfold lwB at f
          split at f
          · exact ⟨_, rfl⟩
          · cases f
        · rw [if_neg f] at h1
          cases h1
      | _ =>
        simp only [biM] at h1
        have := biM_z (b := .len) h1
        rcases row with ⟨e, _⟩ | ⟨_, row⟩
        · cases e
        · cases row with
          | cons _ r => cases r
    | tn =>
      rcases row with ⟨e, _⟩ | ⟨_, row⟩
      · cases e
      · cases row
    | _ => simp only [biM, isChain] at h1; cases h1
  obtain ⟨a, ea, hm, rfl⟩ := hm
  obtain ⟨v, rfl, r⟩ := row.one ea
  obtain ⟨n, hn, rfl⟩ := r.lenV hm h2
  exact ⟨v, n, rfl, hn, q.fz rfl _ (.int _)⟩
/-- a list of values as the one argument -/
theorem one_lz {H : Hp} {N N' B : Sets} {vs : List V} {w : List Addr} {d : D} {a : M} (ha : lz a = true) (row : RowOk G H N' B (.tc a .tn) [d] vs w) (hn : ∀ a, N a → N' a) (hw : ∀ a ∈ w, ¬ N a) {es : List D} (hs : seqOf d = some es) :
    ∃ v, vs = [v] ∧ SeqR G H N B .z d v := by
  obtain ⟨v, rfl, r⟩ := RowOk.one row rfl
  exact ⟨v, rfl, (r.seqR (lz_rd ha) hs hn hw : SeqR G H N B .z d v)⟩
theorem SeqR.any {N B : Sets} {d : D} {v : V} (h : SeqR G H N B .z d v) {es : List D} (hs : seqOf d = some es) : ∃ a xs, v = .ref a ∧ ((d = .lst es ∧ SqL G.K H a xs) ∨ (d = .tup es ∧ SqT G.K H a xs)) ∧ FzA G H N es xs := by
  obtain ⟨a, xs, ds', e, h, l, q⟩ := h
  rcases h with ⟨rfl, h⟩ | ⟨rfl, h⟩
  · cases hs; exact ⟨a, xs, e, .inr ⟨rfl, h⟩, fzA_of l q⟩
  · cases hs; exact ⟨a, xs, e, .inl ⟨rfl, h⟩, fzA_of l q⟩
end
end DI
end
section
set_option Elab.async false
set_option linter.all false
set_option maxRecDepth 100000
/-! Built-ins, part 2. -/
namespace DI
open PySem PySem.Spec L2
section
variable {G : CT} {ts : List Addr} {H H' : Hp} {T T' : Tl} {ws ws' : List (List Addr)} {g : Md} {ρ : Rho} {σ : St}
variable {t : Tb} {C : Calls} {X : Cx} {mc : Mc} {k : Nat} {N B N' B' S : Sets} {F : FA}
theorem ck_plain : ∀ {as : E} {es : List Expr} {g g' : Md} {m : M}, matL mc as es = true → ck t as g = some (m, g') → isChain m = true → plainA as = true := by
  intro as
  induction as with
  | a0 => intros; rfl
  | aE a r _ ih =>
    intro es g g' m hm h hc
    cases es with
    | nil => simp only [matL] at hm; cases hm
    | cons e es =>
      simp only [matL, Bool.and_eq_true] at hm
      simp only [ck] at h
      split at h
      · split at h
        · rename_i mr g2 e2
          rw [Option.map_eq_some_iff] at h
          obtain ⟨m', h1, h2⟩ := h
          cases h2
          have : isChain mr = true := by
            unfold rowOf at h1
            split at h1
            · cases h1
            · split at h1
              · assumption
              · split at h1
                · cases h1; cases hc
                · cases h1
          exact ih hm.2.2 e2 this
        · cases h
      · cases h
  | aS a r _ ih =>
    intro es g g' m hm h hc
    simp only [ck] at h
    split at h
    · split at h
      · split at h
        · cases h; cases hc
        · cases h
      · cases h
    · cases h
  | aio p r _ _ => intros; rename_i h _; simp only [ck] at h; cases h
  | abw p r _ _ => intros; rename_i h _; simp only [ck] at h; cases h
  | _ => intro es g g' m hm; cases es <;> (simp only [matL] at hm; cases hm)
theorem biM_chain0 {m0 m : M} (h : (if (isChain m0 && m0.fzb) = true then some M.z else none) = some m) : isChain m0 = true := by
  split at h
  · rename_i f
    rw [Bool.and_eq_true] at f
    exact f.1
  · cases h
theorem biM_chain {b : Bi} {m0 m : M} (h : biM b m0 = some m) : isChain m0 = true := by
  cases m0 with
  | tn => rfl
  | tc a r =>
    cases r with
    | tn => rfl
    | _ => cases b <;> exact biM_chain0 (m := m) (by simpa only [biM] using h)
  | _ => cases b <;> exact biM_chain0 (m := m) (by simpa only [biM] using h)
theorem sd_bi0 {b : Bi} {as : E} {x : Str} {e : Expr} {es : List Expr} {p pos : Pos} {r : List V → Hp → VK → Prop} (hm : matL mc as (e :: es) = true) (ha : PA X (e :: es) (RA t G ts C as))
    (hpe : ∀ t, starEach (e :: es) X.env = (false, eval e X.env) :: starEach es X.env → (backTo pos (starEach es X.env)).any (·.1) = false → PA X (e :: es) t → PE X (.Call (.Name x p) (e :: es) [] pos) (tCB r t))
    (core : ∀ {H : Hp} {N N' B : Sets} {m0 m : M} {ds : List D} {vs : List V} {z : D} {w : List Addr} {Q : VK}, biM b m0 = some m → biD b ds = some z → RowOk G H N' B m0 ds vs w → (∀ a, N a → N' a) → (∀ a ∈ w, ¬ N a) → BiQ G H N m z Q → r vs H Q) :
    PE X (.Call (.Name x p) (e :: es) [] pos) (RE t G ts C (.bi b as)) := by
  cases hpa : plainA as with
  | false =>
    refine PE.vac fun σ H Q h => ?_
    obtain ⟨T, ws, g, ρ, m, g', d, ρ', hc, he, env, p⟩ := h
    simp only [ck] at hc
    split at hc
    · rename_i m0 g1 e1
      rw [Option.map_eq_some_iff] at hc
      obtain ⟨m1, h1, e2⟩ := hc
      have := ck_plain hm e1 (biM_chain h1)
      rw [hpa] at this
      cases this
    · cases hc
  | true =>
    refine sd_biG (fun t h => hpe t (starE_no (star_head hpa hm)) ?_ h) ha core
    have h1 := star_plain (mc := mc) (env := X.env) (pos := pos) hpa hm
    rw [starE_no (star_head hpa hm)] at h1
    exact h1
theorem bis {ds : List D} {z : D} {i : Int} : True := trivial
/-- the scalar ones -/
theorem core_abs {H : Hp} {N N' B : Sets} {m0 m : M} {ds : List D} {vs : List V} {z : D} {w : List Addr} {Q : VK} (h1 : biM .abs m0 = some m) (h2 : biD .abs ds = some z) (row : RowOk G H N' B m0 ds vs w) (hn : ∀ a, N a → N' a) (hw : ∀ a ∈ w, ¬ N a) (q : BiQ G H N m z Q) :
    ∃ i, vs = [.int i] ∧ Q (.int (if i < 0 then -i else i)) H := by
  obtain ⟨f, rfl⟩ := biM_z (b := .abs) (m0 := m0) (by simpa only [biM] using h1)
  have F1 := row.freeze f hn hw
  cases ds with
  | nil => simp only [biD] at h2; cases h2
  | cons d r =>
    cases r with
    | nil =>
      cases d <;> simp only [biD] at h2 <;> try cases h2
      exact ⟨_, int1 F1, q.fz rfl _ (.int _)⟩
    | cons => cases d <;> (simp only [biD] at h2; cases h2)
theorem two_of {b : Bi} {ds : List D} {z : D} (hb : b = .min2 ∨ b = .max2 ∨ b = .gcd) (h2 : biD b ds = some z) : ∃ i j, ds = [.int i, .int j] := by
  cases ds with
  | nil => rcases hb with rfl | rfl | rfl <;> (simp only [biD] at h2; cases h2)
  | cons d r =>
    cases r with
    | nil => rcases hb with rfl | rfl | rfl <;> cases d <;> (simp only [biD] at h2; cases h2)
    | cons d2 r =>
      cases r with
      | nil =>
        cases d <;> cases d2 <;> first | exact ⟨_, _, rfl⟩ | (rcases hb with rfl | rfl | rfl <;> (simp only [biD] at h2; cases h2))
      | cons => rcases hb with rfl | rfl | rfl <;> cases d <;> cases d2 <;> (simp only [biD] at h2; cases h2)
theorem core_two {b : Bi} {H : Hp} {N N' B : Sets} {m0 m : M} {ds : List D} {vs : List V} {z : D} {w : List Addr} {Q : VK} (hb : b = .min2 ∨ b = .max2 ∨ b = .gcd) (h1 : biM b m0 = some m) (h2 : biD b ds = some z) (row : RowOk G H N' B m0 ds vs w) (hn : ∀ a, N a → N' a) (hw : ∀ a ∈ w, ¬ N a) (q : BiQ G H N m z Q) :
    ∃ i j, vs = [.int i, .int j] ∧ biD b [.int i, .int j] = some z ∧ ∀ n, z = .int n → Q (.int n) H := by
  obtain ⟨f, rfl⟩ : m0.fzb = true ∧ m = .z := by rcases hb with rfl | rfl | rfl <;> exact biM_z (b := .abs) (m0 := m0) (by simpa only [biM] using h1)
  have F1 := row.freeze f hn hw
  obtain ⟨i, j, rfl⟩ := two_of hb h2
  exact ⟨i, j, int2 F1, h2, fun n e => by subst e; exact q.fz rfl _ (.int _)⟩
theorem core_int {H : Hp} {N N' B : Sets} {m0 m : M} {ds : List D} {vs : List V} {z : D} {w : List Addr} {Q : VK} (h1 : biM .intOf m0 = some m) (h2 : biD .intOf ds = some z) (row : RowOk G H N' B m0 ds vs w) (hn : ∀ a, N a → N' a) (hw : ∀ a ∈ w, ¬ N a) (q : BiQ G H N m z Q) :
    ∃ i, vs = [.int i] ∧ Q (.int i) H := by
  obtain ⟨f, rfl⟩ := biM_z (b := .abs) (m0 := m0) (by simpa only [biM] using h1)
  have F1 := row.freeze f hn hw
  cases ds with
  | nil => simp only [biD] at h2; cases h2
  | cons d r =>
    cases r with
    | nil =>
      cases d <;> simp only [biD] at h2 <;> try cases h2
      exact ⟨_, int1 F1, q.fz rfl _ (.int _)⟩
    | cons => cases d <;> (simp only [biD] at h2; cases h2)
/-- those of one row of values -/
theorem one_of {b : Bi} {ds : List D} {z : D} (hb : b = .minL ∨ b = .maxL ∨ b = .sumL ∨ b = .tupleOf ∨ b = .listOf) (h2 : biD b ds = some z) : ∃ d es, ds = [d] ∧ seqOf d = some es ∧ (b = .minL ∨ b = .maxL ∨ b = .sumL → d = .lst es) := by
  cases ds with
  | nil => rcases hb with rfl | rfl | rfl | rfl | rfl <;> (simp only [biD] at h2; cases h2)
  | cons d r =>
    cases r with
    | nil =>
      cases d with
      | lst es => exact ⟨_, es, rfl, rfl, fun _ => rfl⟩
      | tup es => refine ⟨_, es, rfl, rfl, fun h => ?_⟩; rcases h with rfl | rfl | rfl <;> (simp only [biD] at h2; cases h2)
      | _ => rcases hb with rfl | rfl | rfl | rfl | rfl <;> (simp only [biD] at h2; cases h2)
    | cons => rcases hb with rfl | rfl | rfl | rfl | rfl <;> cases d <;> (simp only [biD] at h2; cases h2)
theorem core_one {b : Bi} {H : Hp} {N N' B : Sets} {m0 m : M} {ds : List D} {vs : List V} {z : D} {w : List Addr} (hb : b = .minL ∨ b = .maxL ∨ b = .sumL ∨ b = .tupleOf ∨ b = .listOf) (h1 : biM b m0 = some m) (h2 : biD b ds = some z) (row : RowOk G H N' B m0 ds vs w) (hn : ∀ a, N a → N' a) (hw : ∀ a ∈ w, ¬ N a) :
    ∃ d es a xs, ds = [d] ∧ vs = [.ref a] ∧ ((d = .lst es ∧ SqL G.K H a xs) ∨ (d = .tup es ∧ SqT G.K H a xs)) ∧ FzA G H N es xs ∧ (b = .minL ∨ b = .maxL ∨ b = .sumL → d = .lst es) ∧ m = (if b = .listOf then .L .z else .z) := by
  obtain ⟨d, es, rfl, hs, hl⟩ := one_of hb h2
  have hm : ∃ a, m0 = .tc a .tn ∧ lz a = true ∧ m = (if b = .listOf then .L .z else .z) := by
    rcases row with ⟨e, f, _⟩ | ⟨_, row⟩
    · subst e
      rcases hb with rfl | rfl | rfl | rfl | rfl <;> (simp only [biM, isChain] at h1; cases h1)
    · cases row with
      | cons r0 r =>
        cases r
        refine ⟨_, rfl, ?_⟩
        rcases hb with rfl | rfl | rfl | rfl | rfl <;> simp only [biM] at h1 <;> split at h1 <;> first | (cases h1; done) | (cases h1; rename_i f; exact ⟨f, rfl⟩)
  obtain ⟨a, rfl, hz, em⟩ := hm
  obtain ⟨v, rfl, sq⟩ := one_lz hz row hn hw hs
  obtain ⟨a, xs, rfl, hx, fa⟩ := sq.any hs
  exact ⟨d, es, a, xs, rfl, rfl, hx, fa, hl, em⟩
theorem sd_bi {b : Bi} {as : E} {x : Str} {es : List Expr} {p pos : Pos} (hX : CxM mc X k) (hK : X.K = G.K) (hb : biOk mc b = true) (hx : x = biName b) (hg : glB mc.sc x = true) (hne : es.isEmpty = false) (hm : matL mc as es = true) (ha : PA X es (RA t G ts C as)) : PE X (.Call (.Name x p) es [] pos) (RE t G ts C (.bi b as)) := by
  subst hx
  have gl := gl_of hX hg
  cases es with
  | nil => cases hne
  | cons e es =>
    cases b with
    | len =>
      refine sd_bi0 hm ha (fun t h1 h2 h => pe_callB call_len gl (hX.bn _ (by simp [bnames, biName])) boot_len h (he := h1) (hpl := h2)) fun {H N N' B m0 m ds vs z w Q} h1 h2 row hn hw q => ?_
      rw [hK]
      exact core_len h1 h2 row q
    | abs =>
      refine sd_bi0 hm ha (fun t h1 h2 h => pe_callB call_abs gl (hX.bn _ (by simp [bnames, biName])) boot_abs' h (he := h1) (hpl := h2)) fun {H N N' B m0 m ds vs z w Q} h1 h2 row hn hw q => ?_
      exact core_abs h1 h2 row hn hw q
    | min2 =>
      refine sd_bi0 hm ha (fun t h1 h2 h => pe_callB (call_min2 hX.calm) gl (hX.bn _ (by simp [bnames, biName])) PyProof.Rows.boot_min h (he := h1) (hpl := h2)) fun {H N N' B m0 m ds vs z w Q} h1 h2 row hn hw q => ?_
      obtain ⟨i, j, rfl, h3, q⟩ := core_two (.inl rfl) h1 h2 row hn hw q
      simp only [biD] at h3
      cases h3
      exact ⟨i, j, rfl, q _ rfl⟩
    | max2 =>
      refine sd_bi0 hm ha (fun t h1 h2 h => pe_callB (call_max2 hX.calm) gl (hX.bn _ (by simp [bnames, biName])) PyProof.Rows.boot_max h (he := h1) (hpl := h2)) fun {H N N' B m0 m ds vs z w Q} h1 h2 row hn hw q => ?_
      obtain ⟨i, j, rfl, h3, q⟩ := core_two (.inr (.inl rfl)) h1 h2 row hn hw q
      simp only [biD] at h3
      cases h3
      exact ⟨i, j, rfl, q _ rfl⟩
    | gcd =>
      refine sd_bi0 hm ha (fun t h1 h2 h => pe_callBfun cr_gcd gl (hX.gc hb) h (he := h1) (hpl := h2)) fun {H N N' B m0 m ds vs z w Q} h1 h2 row hn hw q => ?_
      obtain ⟨i, j, rfl, h3, q⟩ := core_two (.inr (.inr rfl)) h1 h2 row hn hw q
      simp only [biD] at h3
      cases h3
      exact ⟨i, j, rfl, q _ rfl⟩
    | intOf =>
      refine sd_bi0 hm ha (fun t h1 h2 h => pe_callTy call_int1 gl (hX.bn _ (by simp [bnames, biName])) PyProof.Rows.boot_int h (he := h1) (hpl := h2)) fun {H N N' B m0 m ds vs z w Q} h1 h2 row hn hw q => ?_
      exact .inl (core_int h1 h2 row hn hw q)
    | minL =>
      refine sd_bi0 hm ha (fun t h1 h2 h => pe_callB (cr_min hX.calm) gl (hX.bn _ (by simp [bnames, biName])) PyProof.Rows.boot_min h (he := h1) (hpl := h2)) fun {H N N' B m0 m ds vs z w Q} h1 h2 row hn hw q => ?_
      obtain ⟨d, es, a, xs, rfl, rfl, hx, fa, hl, em⟩ := core_one (.inl rfl) h1 h2 row hn hw
      obtain rfl := hl (.inl rfl)
      rcases hx with ⟨_, hx⟩ | ⟨e, _⟩
      · simp only [biD] at h2
        split at h2
        · rename_i i r e
          cases h2
          have e2 := fa.ones e
          subst e2
          obtain ⟨m1, m2⟩ := minI_ok r i
          refine ⟨a, i :: r, rfl, by rw [hK]; exact hx, by simp, fun m' h3 h4 => ?_⟩
          have : m' = minI i r := by have := h4 _ m1; have := m2 _ h3; omega
          subst this
          exact q.fz em _ (.int _)
        · cases h2
      · cases e
    | maxL =>
      refine sd_bi0 hm ha (fun t h1 h2 h => pe_callB (cr_max hX.calm) gl (hX.bn _ (by simp [bnames, biName])) PyProof.Rows.boot_max h (he := h1) (hpl := h2)) fun {H N N' B m0 m ds vs z w Q} h1 h2 row hn hw q => ?_
      obtain ⟨d, es, a, xs, rfl, rfl, hx, fa, hl, em⟩ := core_one (.inr (.inl rfl)) h1 h2 row hn hw
      obtain rfl := hl (.inr (.inl rfl))
      rcases hx with ⟨_, hx⟩ | ⟨e, _⟩
      · simp only [biD] at h2
        split at h2
        · rename_i i r e
          cases h2
          have e2 := fa.ones e
          subst e2
          obtain ⟨m1, m2⟩ := maxI_ok r i
          refine ⟨a, i :: r, rfl, by rw [hK]; exact hx, by simp, fun m' h3 h4 => ?_⟩
          have : m' = maxI i r := by have := h4 _ m1; have := m2 _ h3; omega
          subst this
          exact q.fz em _ (.int _)
        · cases h2
      · cases e
    | sumL =>
      refine sd_bi0 hm ha (fun t h1 h2 h => pe_callB (cr_sum hX.calm) gl (hX.bn _ (by simp [bnames, biName])) PyProof.Rows.boot_sum h (he := h1) (hpl := h2)) fun {H N N' B m0 m ds vs z w Q} h1 h2 row hn hw q => ?_
      obtain ⟨d, es, a, xs, rfl, rfl, hx, fa, hl, em⟩ := core_one (.inr (.inr (.inl rfl))) h1 h2 row hn hw
      obtain rfl := hl (.inr (.inr rfl))
      rcases hx with ⟨_, hx⟩ | ⟨e, _⟩
      · simp only [biD] at h2
        rw [Option.map_eq_some_iff] at h2
        obtain ⟨l, e, e3⟩ := h2
        have e2 := fa.ones e
        subst e2 e3
        exact ⟨a, l, rfl, by rw [hK]; exact hx, q.fz em _ (.int _)⟩
      · cases e
    | tupleOf =>
      refine sd_bi0 hm ha (fun t h1 h2 h => pe_callTy call_tuple_of gl (hX.bn _ (by simp [bnames, biName])) PyProof.Rows.boot_tuple h (he := h1) (hpl := h2)) fun {H N N' B m0 m ds vs z w Q} h1 h2 row hn hw q => ?_
      obtain ⟨d, es, a, xs, rfl, rfl, hx, fa, hl, em⟩ := core_one (.inr (.inr (.inr (.inl rfl)))) h1 h2 row hn hw
      rw [hK]
      rcases hx with ⟨rfl, hx⟩ | ⟨rfl, hx⟩
      · simp only [biD] at h2
        cases h2
        exact ⟨a, xs, rfl, .inl ⟨hx, fun l hl => q.nt em _ _ rfl fa l hl⟩⟩
      · simp only [biD] at h2
        cases h2
        exact ⟨a, xs, rfl, .inr ⟨hx, q.fz em _ (.tup hx fa)⟩⟩
    | listOf =>
      refine sd_bi0 hm ha (fun t h1 h2 h => pe_callTy call_list_of gl (hX.bn _ (by simp [bnames, biName])) PyProof.Rows.boot_list h (he := h1) (hpl := h2)) fun {H N N' B m0 m ds vs z w Q} h1 h2 row hn hw q => ?_
      obtain ⟨d, es, a, xs, rfl, rfl, hx, fa, hl, em⟩ := core_one (.inr (.inr (.inr (.inr rfl)))) h1 h2 row hn hw
      rw [hK]
      rcases hx with ⟨rfl, hx⟩ | ⟨rfl, hx⟩
      · simp only [biD] at h2
        cases h2
        exact ⟨a, xs, rfl, .inl hx, fun l hl => q.nl em _ _ rfl fa l hl⟩
      · simp only [biD] at h2
        cases h2
        exact ⟨a, xs, rfl, .inr hx, fun l hl => q.nl em _ _ rfl fa l hl⟩
    | isi => cases hb
    | sorted => cases hb
    | sortSet => cases hb
    | lenSet => cases hb
end
end DI
end
section
set_option Elab.async false
set_option linter.all false
set_option maxRecDepth 100000
/-! isinstance. -/
namespace DI
open PySem PySem.Spec L2
def tyN : D → String
  | .non => "NoneType" | .bl _ => "bool" | .int _ => "int" | .str _ => "str" | .tup _ => "tuple" | .lst _ => "list" | .dct _ => "dict"
def tyS : Ty → String
  | .int => "int" | .bool => "bool" | .str => "str" | .tuple => "tuple" | .list => "list"
section
variable {G : CT} {ts : List Addr} {H H' : Hp} {T T' : Tl} {ws ws' : List (List Addr)} {g : Md} {ρ : Rho} {σ : St}
variable {t : Tb} {C : Calls} {X : Cx} {mc : Mc} {k : Nat} {N B N' B' S : Sets} {F : FA}
theorem kb_n1 : kitB "NoneType" "int" = some false := by decide +kernel
theorem kb_n2 : kitB "NoneType" "bool" = some false := by decide +kernel
theorem kb_n3 : kitB "NoneType" "str" = some false := by decide +kernel
theorem kb_n4 : kitB "NoneType" "tuple" = some false := by decide +kernel
theorem kb_n5 : kitB "NoneType" "list" = some false := by decide +kernel
theorem kb_b1 : kitB "bool" "int" = some true := by decide +kernel
theorem kb_b2 : kitB "bool" "bool" = some true := by decide +kernel
theorem kb_b3 : kitB "bool" "str" = some false := by decide +kernel
theorem kb_b4 : kitB "bool" "tuple" = some false := by decide +kernel
theorem kb_b5 : kitB "bool" "list" = some false := by decide +kernel
theorem kb_i1 : kitB "int" "int" = some true := by decide +kernel
theorem kb_i2 : kitB "int" "bool" = some false := by decide +kernel
theorem kb_i3 : kitB "int" "str" = some false := by decide +kernel
theorem kb_i4 : kitB "int" "tuple" = some false := by decide +kernel
theorem kb_i5 : kitB "int" "list" = some false := by decide +kernel
theorem kb_s1 : kitB "str" "int" = some false := by decide +kernel
theorem kb_s2 : kitB "str" "bool" = some false := by decide +kernel
theorem kb_s3 : kitB "str" "str" = some true := by decide +kernel
theorem kb_s4 : kitB "str" "tuple" = some false := by decide +kernel
theorem kb_s5 : kitB "str" "list" = some false := by decide +kernel
theorem kb_t1 : kitB "tuple" "int" = some false := by decide +kernel
theorem kb_t2 : kitB "tuple" "bool" = some false := by decide +kernel
theorem kb_t3 : kitB "tuple" "str" = some false := by decide +kernel
theorem kb_t4 : kitB "tuple" "tuple" = some true := by decide +kernel
theorem kb_t5 : kitB "tuple" "list" = some false := by decide +kernel
theorem kb_l1 : kitB "list" "int" = some false := by decide +kernel
theorem kb_l2 : kitB "list" "bool" = some false := by decide +kernel
theorem kb_l3 : kitB "list" "str" = some false := by decide +kernel
theorem kb_l4 : kitB "list" "tuple" = some false := by decide +kernel
theorem kb_l5 : kitB "list" "list" = some true := by decide +kernel
theorem kb_d1 : kitB "dict" "int" = some false := by decide +kernel
theorem kb_d2 : kitB "dict" "bool" = some false := by decide +kernel
theorem kb_d3 : kitB "dict" "str" = some false := by decide +kernel
theorem kb_d4 : kitB "dict" "tuple" = some false := by decide +kernel
theorem kb_d5 : kitB "dict" "list" = some false := by decide +kernel
theorem kb_all (d : D) (y : Ty) : kitB (tyN d) (tyS y) = some (tyB y d) := by
  cases d <;> cases y <;> first
    | exact kb_n1 | exact kb_n2 | exact kb_n3 | exact kb_n4 | exact kb_n5 | exact kb_b1 | exact kb_b2 | exact kb_b3 | exact kb_b4 | exact kb_b5
    | exact kb_i1 | exact kb_i2 | exact kb_i3 | exact kb_i4 | exact kb_i5 | exact kb_s1 | exact kb_s2 | exact kb_s3 | exact kb_s4 | exact kb_s5
    | exact kb_t1 | exact kb_t2 | exact kb_t3 | exact kb_t4 | exact kb_t5 | exact kb_l1 | exact kb_l2 | exact kb_l3 | exact kb_l4 | exact kb_l5
    | exact kb_d1 | exact kb_d2 | exact kb_d3 | exact kb_d4 | exact kb_d5
theorem sqT_ty {K : PySem.W.Frag} {a : Addr} {xs : List V} (h : SqT K H a xs) : TyX K H (.ref a) (.type "tuple") := by
  rcases h with (h | ⟨o, h⟩) | ⟨o, its, n, h, hc, _⟩
  · exact .base (.tup h)
  · exact .fTuple h
  · exact .kTuple h hc
theorem Fz.ty {d : D} {v : V} (h : Fz G H N d v) : TyX G.K H v (.type (tyN d)) := by
  cases h with
  | non => exact .base .non
  | bl b => exact .base (.bl b)
  | int i => exact .base (.int i)
  | str x => exact .base (.str x)
  | tup h _ => exact sqT_ty h
  | lst h _ _ =>
    rcases h with h | ⟨o, h⟩
    · exact .base (.lst h)
    · exact .base (.frz h)
  | lstK h _ =>
    rcases h H with (h | ⟨o, h⟩) | ⟨o, its, n, h, hc, _⟩
    · exact .base (.lst h)
    · exact .base (.frz h)
    · exact .kList h hc
  | dct h _ => exact .base (.dK h)
theorem Rp.ty0 {o : Bool} {m : M} {d : D} {v : V} {w : List Addr} (h : Rp G H N B o m d v w) (f : m.fzb = true) : TyX G.K H v (.type (tyN d)) := by
  cases h with
  | z h => exact h.ty
  | co _ h => exact h.ty
  | L h _ _ => exact .base (.lst h)
  | T h _ => exact sqT_ty h
  | O => cases f
  | w => cases f
theorem Rp.ty {o : Bool} {m : M} {d : D} {v : V} {w : List Addr} (h : Rp G H N B o m d v w) (hm : m.rdb = true) : TyX G.K H v (.type (tyN d)) := by
  unfold M.rdb at hm
  rw [Bool.or_eq_true] at hm
  rcases hm with f | f
  · exact h.ty0 f
  · split at f
    · cases h with
      | w h => exact h.ty0 f
      | co f' _ => cases f'
      | T _ r => cases r
    · cases f
theorem boot_ty (y : Ty) : bootBuiltins (tyName y) = some (.type (tyS y)) := by
  cases y
  · exact PyProof.Rows.boot_int
  · exact PyProof.Rows.boot_bool
  · exact PyProof.Rows.boot_str
  · exact PyProof.Rows.boot_tuple
  · exact PyProof.Rows.boot_list
theorem sd_isi {y : Ty} {a : E} {x : Str} {e te : Expr} {p pos : Pos} (hX : CxM mc X k) (hK : X.K = G.K) (hx : x = "isinstance") (hg : glB mc.sc x = true) (hs : isStarX e = false) (hty : tysX mc.sc [y] te = true) (ha : PE X e (RE t G ts C a)) :
    PE X (.Call (.Name x p) [e, te] [] pos) (RE t G ts C (.bi (.isi [y]) (.aE a .a0))) := by
  subst hx
  cases te <;> simp only [tysX] at hty <;> try cases hty
  rename_i x2 p2
  rw [Bool.and_eq_true, decide_eq_true_eq] at hty
  obtain ⟨rfl, hg2⟩ := hty
  have hte : PE X (.Name (tyName y) p2) (tC (.ty (tyS y))) := by
    refine pe_bltn (gl_of hX hg2) (hX.bn _ ?_) (boot_ty y) rfl ?_ ?_
    · cases y <;> simp [bnames, tyName]
    · cases y <;> decide
    · cases y <;> decide
  refine PE.of (pe_callB call_isi (gl_of hX hg) (hX.bn _ (by simp [bnames])) PyProof.Rows.boot_isinstance (pa_cons ha (pa_cons hte pa_nil) (starE_no hs)) (he := starE_no hs)) ?_
  rintro σ H Q ⟨T, ws, g, ρ, m, g', d, ρ', hc, he, env, p⟩
  simp only [ck, ev] at hc he
  split at hc
  · rename_i m0 g1 e1
    rw [Option.map_eq_some_iff] at hc
    obtain ⟨m1, h1, e2⟩ := hc
    cases e2
    split at e1
    · rename_i ma ga k1
      rw [Option.map_eq_some_iff] at e1
      obtain ⟨mr, h3, e4⟩ := e1
      cases e4
      split at he
      · rename_i xs ρ1 e3
        rw [Option.map_eq_some_iff] at he
        obtain ⟨z, h2, e4⟩ := he
        cases e4
        split at e3
        · rename_i y0 ρy e5
          cases e3
          have hm : ma.rdb = true ∧ m = .z := by
            unfold rowOf at h3
            split at h3
            · cases h3
            · rw [if_pos (by rfl)] at h3
              cases h3
              simp only [biM] at h1
              split at h1
              · rename_i f; cases h1; exact ⟨f, rfl⟩
              · cases h1
          obtain ⟨hr, rfl⟩ := hm
          refine ⟨T, ws, g, ρ, ma, g', y0, ρ', k1, e5, env, fun v1 H1 w1 ws1 st1 env1 r1 n1 d1 => ?_⟩
          refine ⟨v1, .ty (tyS y), .type (tyN y0), .type (tyS y), tyB y y0, rfl, .ty _, by rw [hK]; exact r1.ty hr, kit_ty (kb_all y0 y), ?_⟩
          simp only [biD, List.any_cons, List.any_nil, Bool.or_false] at h2
          cases h2
          exact p.fz st1.drop1 (env1.less fun a z => .inl z) (.bl _)
        · cases e3
      · cases he
    · cases e1
  · cases hc
end
end DI
end
section
set_option Elab.async false
set_option linter.all false
set_option maxRecDepth 100000
/-! Turns over rows of either kind: numbered, in pairs. -/
namespace DI
open PySem PySem.Spec L2
open PySem.Sem (wp)
/-- the row at a, a list or a tuple -/
def SqB (l : Bool) (K : PySem.W.Frag) (H : Hp) (a : Addr) (xs : List V) : Prop := if l then SqL K H a xs else SqT K H a xs
def ObX (l : Bool) (h : Heap) (a : Addr) (items : Array Value) : Prop := if l then h.IsList a items else h.IsTuple a items
def ItX (l : Bool) (h : Heap) (it a : Addr) (i : Nat) : Prop := if l then h.IsListIter it a i else h.IsTupleIter it a i
def itO (l : Bool) (a : Addr) : Obj := if l then { cls := .type "list_iterator", data := .fields #[.ref a, .int 0 0] } else { cls := .type "tuple_iterator", data := .fields #[.ref a, .int 0 0] }
theorem SqB.at {X : Cx} {pins : List (Addr × Obj)} {σ : L2.St} {H : Hp} {s : Shared} {l : Bool} {a : Addr} {xs : List V} (I : L2.Inv X pins σ H s) (h : SqB l X.K H a xs) : ∃ its : List Value, Vals xs its ∧ ObX l s.heap a its.toArray ∧ xs.length ≤ sizeLine := by
  cases l with
  | true => obtain ⟨its, r, p, hz⟩ := I.list h; exact ⟨its, r, p.isList, hz⟩
  | false => obtain ⟨its, r, p, hz⟩ := I.tuple h; exact ⟨its, r, (show s.heap.IsTuple a its.toArray from p), hz⟩
theorem SqB.inj {X : Cx} {pins : List (Addr × Obj)} {σ : L2.St} {H : Hp} {s : Shared} {l : Bool} {a : Addr} {xs ys : List V} (I : L2.Inv X pins σ H s) (h : SqB l X.K H a xs) (h' : SqB l X.K H a ys) : xs = ys := by
  cases l with
  | true => exact I.list_inj h h'
  | false => exact I.tuple_inj h h'
theorem rowDraws {P : Program} {w : World} {A : Around} (hh : A.handled = none) (l : Bool) (it a : Addr) (hne : a ≠ it) (items : Array Value) :
    Draws P w A it [it, a] items.size (fun i v => items[i]? = some v) (fun i h => ItX l h it a i ∧ ObX l h a items) := by
  cases l with
  | true => exact Draws.list hh it a hne items
  | false => exact Draws.tuple hh it a hne items
theorem rowBegins (l : Bool) (a : Addr) (items : Array Value) : Begins (.ref a) (itO l a) fun h => ObX l h a items := by
  cases l with
  | true => exact begins_list a items
  | false => exact begins_tuple a items
theorem itX_of {l : Bool} {h : Heap} {it a : Addr} (e : h.get? it = some (itO l a)) : ItX l h it a 0 := by
  cases l with
  | true => exact ⟨_, e, rfl, rfl⟩
  | false => exact ⟨_, e, rfl, rfl⟩
theorem itX_keep {l : Bool} {h h' : Heap} {it a : Addr} {i : Nat} (x : ItX l h it a i) (k : ∀ o, h.get? it = some o → h'.get? it = some o) : ItX l h' it a i := by
  cases l with
  | true => exact (show h.IsListIter it a i from x).at fun o e => k o e
  | false => exact (show h.IsTupleIter it a i from x).at fun o e => k o e
theorem itX_obj {l : Bool} {h : Heap} {it a : Addr} {i : Nat} (x : ItX l h it a i) : ∃ o, h.get? it = some o ∧ ∀ v, o.data ≠ .cell v := by
  cases l with
  | true => obtain ⟨o, e, _, d⟩ := (show h.IsListIter it a i from x); exact ⟨o, e, fun v q => by rw [d] at q; cases q⟩
  | false => obtain ⟨o, e, _, d⟩ := (show h.IsTupleIter it a i from x); exact ⟨o, e, fun v q => by rw [d] at q; cases q⟩
/-- turns by what the library says of an iterator that hands out tuples -/
theorem obX_ne {l : Bool} {h : Heap} {a b : Addr} {items : Array Value} {o : Obj} {c : String} (x : ObX l h a items) (e : h.get? b = some o) (hc : o.cls = .type c) (h1 : c ≠ "list") (h2 : c ≠ "tuple") : a ≠ b := by
  rintro rfl
  cases l with
  | true =>
    obtain ⟨o', e', hc', _⟩ := (show h.IsList a items from x)
    rw [e] at e'; cases e'
    rw [hc] at hc'; cases hc'
    exact h1 rfl
  | false =>
    obtain ⟨o', e', hc', _⟩ := (show h.IsTuple a items from x)
    rw [e] at e'; cases e'
    rw [hc] at hc'; cases hc'
    exact h2 rfl
theorem obX_it {l l' : Bool} {h : Heap} {a a' it : Addr} {i : Nat} {items : Array Value} (x : ObX l h a items) (y : ItX l' h it a' i) : a ≠ it := by
  cases l' with
  | true => obtain ⟨o, e, c, _⟩ := (show h.IsListIter it a' i from y); exact obX_ne x e c (by decide) (by decide)
  | false => obtain ⟨o, e, c, _⟩ := (show h.IsTupleIter it a' i from y); exact obX_ne x e c (by decide) (by decide)
theorem turnW {P : Program} {w : World} {K : PySem.W.Frag} {elts : List Expr} {kk : Nat} {tpos : Pos} {J : It} {own : List Addr} {it : Addr} {tn : Nat → Heap → Prop} {ι : Type} {fp : ι → List Addr} {wr : List Addr} {n : ι → Nat} {Pt : ι → Nat → Array Value → Prop} {St : ι → Nat → Heap → Prop} {Mid : ι → Nat → Addr → Heap → Prop}
    (mem : it ∈ own) (obj : ∀ i h, tn i h → ∀ b ∈ own, ∃ o, h.get? b = some o ∧ ∀ v, o.data ≠ .cell v) (keep : ∀ i h h', tn i h → (∀ b ∈ own, ∀ o, h.get? b = some o → h'.get? b = some o) → tn i h')
    (W : ∀ (A : Around) (c : ι), A.handled = none → WalksT P w A it (fp c) wr (n c) (Pt c) (St c) (Mid c)) (hwr : ∀ b ∈ wr, b ∈ own) (next : ∀ c i h, St c (i + 1) h → tn (i + 1) h)
    (go : ∀ (X : Cx), X.prog = P → X.w = w → X.K = K → ∀ i pins s σ H, L2.Inv X pins σ H s → (∀ b ∈ own, H b = none) → tn i s.heap → J.go i H → ∃ c, St c i s.heap ∧ i < n c ∧ ∀ vals, Pt c i vals → ∃ xs, Vals xs vals.toList ∧ xs.length ≤ sizeLine ∧ ∀ T, H T = none → J.yld i H (.ref T) (upd H T (.tup xs)))
    (stop : ∀ (X : Cx), X.prog = P → X.w = w → X.K = K → ∀ i pins s σ H, L2.Inv X pins σ H s → (∀ b ∈ own, H b = none) → tn i s.heap → J.stop i H → ∃ c, St c i s.heap ∧ n c = i)
    (self : ∀ (A : Around) (i : Nat) (s : Shared) (Q : Value → Shared → Prop) (E : Value → Shared → Prop), tn i s.heap → Q (.ref it) s → wpAny (model P w) A (pyIter (.ref it)) Q E s) : Turn P w K (.Tuple elts kk tpos) J own it tn where
  mem := mem
  obj := obj
  keep := keep
  item := by
    intro X hP hw hK hc i pins s σ H E I hf st hg
    obtain ⟨c, hs, hi, hy⟩ := go X hP hw hK i pins s σ H I (fun b hb => (hf b hb).1) st hg
    have hl : ∀ b ∈ own, b < s.heap.objs.size := fun b hb => let ⟨o, e, _⟩ := obj i _ st b hb; Heap.lt_size e
    subst hP hw hK
    have WW := W X.A c (I.ok.hd hc)
    refine WW.item i s _ _ hi hs fun T vals h' tk hPt hT hI hM hk => ⟨_, rfl, ?_⟩
    refine WW.go elts kk tpos i T { s with heap := h', toks := tk } _ _ hM fun h'' hs' hk' => ?_
    obtain ⟨xs, rv, hz, hJ⟩ := hy vals hPt
    have hTw : T ∉ wr := WW.apart i T h' hM
    have hI' : h''.IsTuple T vals := by
      obtain ⟨o, ho, r⟩ := hI
      exact ⟨o, hk' T o hTw ho, r⟩
    have new : ObjOk X.prog X.w (upd H T (.tup xs)) h'' T (.tup xs) := ⟨hz, vals.toList, rv, by rw [Array.toArray_toList]; exact hI'⟩
    have I1 : L2.Inv X pins σ (upd H T (.tup xs)) { s with heap := h'', toks := tk } :=
      I.turnedNew (ch := wr) (fun b o hb q => hk' b o hb (hk b o hb q)) (fun b hb => hf b (hwr b hb)) hT new
    refine ⟨.ref T, _, I1, rfl, hJ T (I.hok.fresh hT), next c i h'' hs', fun b hb => ?_⟩
    rw [upd_ne (Nat.ne_of_lt (Nat.lt_of_lt_of_le (hl b hb) hT))]
    exact (hf b hb).1
  done := by
    intro X hP hw hK hc i pins s σ H E I hf st hg
    obtain ⟨c, hs, hn⟩ := stop X hP hw hK i pins s σ H I (fun b hb => (hf b hb).1) st hg
    subst hP hw hK
    have WW := W X.A c (I.ok.hd hc)
    refine WW.done s _ _ (by rw [hn]; exact hs) fun h' tk hk => ⟨rfl, ?_⟩
    exact I.turnedL (ch := wr) hk fun b hb => hf b (hwr b hb)
  self := self
/-! ### numbered -/
def Jen (K : PySem.W.Frag) (l : Bool) (a : Addr) (n : Nat) : It :=
  ⟨fun i H => i < n ∧ ∃ xs, SqB l K H a xs ∧ xs.length = n, fun i H v H' => ∃ T x, v = .ref T ∧ H T = none ∧ H' = upd H T (.tup [.int (i : Nat), x]) ∧ ∀ xs, SqB l K H a xs → xs[i]? = some x, fun i H => i = n ∧ ∃ xs, SqB l K H a xs ∧ xs.length = n⟩
theorem turnEn {P : Program} {w : World} {K : PySem.W.Frag} {elts : List Expr} {kk : Nat} {tpos : Pos} (l : Bool) (a e it : Addr) (n : Nat) (hei : e ≠ it) :
    Turn P w K (.Tuple elts kk tpos) (Jen K l a n) [e, it] e (fun i h => (∃ old, IsEnum h e it ((i : Nat) : Int) old) ∧ ItX l h it a i) := by
  refine turnW (ι := {c : Array Value // a ≠ e ∧ a ≠ it}) (fp := fun _ => e :: [it, a]) (wr := [e, it]) (n := fun c => c.1.size) (Pt := fun c i vals => ∃ t x, c.1[i]? = some x ∧ vals = #[.int ((0 : Int) + (i : Int)) t, x])
    (St := fun c i h => (∃ old, IsEnum h e it ((0 : Int) + (i : Int)) old) ∧ (ItX l h it a i ∧ ObX l h a c.1))
    (Mid := fun c i T h => (∃ x, IsEnumOut h e it ((0 : Int) + (i : Int) + 1) x T) ∧ (ItX l h it a (i + 1) ∧ ObX l h a c.1) ∧ T ≠ e ∧ T ≠ it) (by simp) ?_ ?_ ?_ (fun b hb => hb) ?_ ?_ ?_ ?_
  · intro i h st b hb
    obtain ⟨⟨old, he⟩, hx⟩ := st
    have e' : b = e ∨ b = it := by simpa using hb
    rcases e' with z | z
    · rw [z]; exact ⟨_, he, fun v q => nomatch q⟩
    · rw [z]; exact itX_obj hx
  · intro i h h' st k
    obtain ⟨⟨old, he⟩, hx⟩ := st
    exact ⟨⟨old, k e (by simp) _ he⟩, itX_keep hx fun o q => k it (by simp) o q⟩
  · intro A c hh
    exact WalksT.enumFrom 0 (rowDraws (A := A.in1) hh l it a c.2.2 c.1) e hei (by simp [hei, Ne.symm c.2.1]) (by simp)
  · intro c i h st
    obtain ⟨⟨old, he⟩, hx, _⟩ := st
    exact ⟨⟨old, by simpa using he⟩, hx⟩
  · intro X hP hw hK i pins s σ H I hb st hg
    obtain ⟨⟨old, he⟩, hx⟩ := st
    obtain ⟨hi, xs, hq, hn⟩ := hg
    subst hK
    obtain ⟨its, rv, ob, hz⟩ := hq.at I
    have hlen := rv.length
    refine ⟨⟨its.toArray, obX_ne ob he rfl (by decide) (by decide), obX_it ob hx⟩, ⟨⟨old, by simpa using he⟩, hx, ob⟩, by simp only [List.size_toArray]; omega, ?_⟩
    rintro vals ⟨t, u, hu, rfl⟩
    have hxi : i < xs.length := by omega
    obtain ⟨u', hu', ru⟩ := rv.get (List.getElem?_eq_getElem hxi)
    have eu : u' = u := by
      have : its[i]? = some u := by simpa using hu
      rw [hu'] at this
      exact Option.some.inj this
    subst eu
    refine ⟨[.int (i : Nat), xs[i]], (.cons ⟨t, by simp⟩ (.cons ru .nil)), (show 2 ≤ sizeLine by decide), fun T hT => ⟨T, xs[i], rfl, hT, rfl, fun ys hy => ?_⟩⟩
    rw [SqB.inj I hy hq]
    exact List.getElem?_eq_getElem hxi
  · intro X hP hw hK i pins s σ H I hb st hg
    obtain ⟨⟨old, he⟩, hx⟩ := st
    obtain ⟨hi, xs, hq, hn⟩ := hg
    subst hK
    obtain ⟨its, rv, ob, hz⟩ := hq.at I
    have hlen := rv.length
    exact ⟨⟨its.toArray, obX_ne ob he rfl (by decide) (by decide), obX_it ob hx⟩, ⟨⟨old, by simpa using he⟩, hx, ob⟩, by simp only [List.size_toArray]; omega⟩
  · intro A i s Q E st h
    obtain ⟨⟨old, he⟩, _⟩ := st
    exact wpAny_pyIter_enum he h
/-! ### in pairs -/
def Jzp (K : PySem.W.Frag) (l1 l2 : Bool) (a b : Addr) (n : Nat) : It :=
  ⟨fun i H => i < n ∧ ∃ xs ys, SqB l1 K H a xs ∧ SqB l2 K H b ys ∧ min xs.length ys.length = n, fun i H v H' => ∃ T x y, v = .ref T ∧ H T = none ∧ H' = upd H T (.tup [x, y]) ∧ (∀ xs, SqB l1 K H a xs → xs[i]? = some x) ∧ ∀ ys, SqB l2 K H b ys → ys[i]? = some y,
    fun i H => i = n ∧ ∃ xs ys, SqB l1 K H a xs ∧ SqB l2 K H b ys ∧ min xs.length ys.length = n⟩
theorem turnZp {P : Program} {w : World} {K : PySem.W.Frag} {elts : List Expr} {kk : Nat} {tpos : Pos} (l1 l2 : Bool) (a b z TI TO i1 i2 : Addr) (n : Nat) (n1 : TI ≠ z) (n2 : TO ≠ z) (n3 : TI ≠ TO) (n4 : TI ≠ i1) (n5 : TI ≠ i2) (n6 : z ≠ i1) (n7 : z ≠ i2) (n8 : TO ≠ i1) (n9 : TO ≠ i2) (n10 : i1 ≠ i2) :
    Turn P w K (.Tuple elts kk tpos) (Jzp K l1 l2 a b n) [z, TI, TO, i1, i2] z (fun i h => IsZip h z TI TO .none ∧ IsTupOf2 h TI (.ref i1) (.ref i2) ∧ (∃ x y, IsTupOf2 h TO x y) ∧ (a ≠ TO ∧ b ≠ TO) ∧ ItX l1 h i1 a i ∧ ItX l2 h i2 b i) := by
  refine turnW (ι := {c : Array Value × Array Value // (a ≠ z ∧ a ≠ TO ∧ a ≠ i1 ∧ a ≠ i2) ∧ (b ≠ z ∧ b ≠ TO ∧ b ≠ i1 ∧ b ≠ i2)}) (fp := fun _ => z :: TI :: TO :: ([i1, a] ++ [i2, b])) (wr := [z, TO, i1, i2]) (n := fun c => min c.1.1.size c.1.2.size)
    (Pt := fun c i vals => ∃ x1 x2, c.1.1[i]? = some x1 ∧ c.1.2[i]? = some x2 ∧ vals = #[x1, x2])
    (St := fun c i h => IsZip h z TI TO .none ∧ IsTupOf2 h TI (.ref i1) (.ref i2) ∧ (∃ a1 a2, IsTupOf2 h TO a1 a2) ∧ (ItX l1 h i1 a i ∧ ObX l1 h a c.1.1) ∧ (ItX l2 h i2 b i ∧ ObX l2 h b c.1.2))
    (Mid := fun c i T h => IsZip h z TI TO (rawInt T) ∧ IsTupOf2 h TI (.ref i1) (.ref i2) ∧ (∃ a1 a2, IsTupOf2 h TO a1 a2) ∧ (ItX l1 h i1 a (i + 1) ∧ ObX l1 h a c.1.1) ∧ (ItX l2 h i2 b (i + 1) ∧ ObX l2 h b c.1.2) ∧ T ≠ z ∧ T ≠ TO ∧ T ≠ i1 ∧ T ≠ i2) (by simp) ?_ ?_ ?_ ?_ ?_ ?_ ?_ ?_
  · intro i h st c hc
    obtain ⟨hz, hTI, ⟨x, y, hTO⟩, _, h1, h2⟩ := st
    have e' : c = z ∨ c = TI ∨ c = TO ∨ c = i1 ∨ c = i2 := by simpa using hc
    rcases e' with q | q | q | q | q
    · rw [q]; exact ⟨_, hz, fun v q => nomatch q⟩
    · rw [q]; exact ⟨_, hTI, fun v q => nomatch q⟩
    · rw [q]; exact ⟨_, hTO, fun v q => nomatch q⟩
    · rw [q]; exact itX_obj h1
    · rw [q]; exact itX_obj h2
  · intro i h h' st k
    obtain ⟨hz, hTI, ⟨x, y, hTO⟩, hne, h1, h2⟩ := st
    exact ⟨k z (by simp) _ hz, k TI (by simp) _ hTI, ⟨x, y, k TO (by simp) _ hTO⟩, hne, itX_keep h1 fun o q => k i1 (by simp) o q, itX_keep h2 fun o q => k i2 (by simp) o q⟩
  · intro A c hh
    obtain ⟨c, ⟨a1, a2, a3, a4⟩, b1, b2, b3, b4⟩ := c
    refine WalksT.zipD2 (fp1 := [i1, a]) (fp2 := [i2, b]) ⟨n1, n2, n3, n4, by simp, by simp [n6, Ne.symm a1], by simp [n8, Ne.symm a2], n5, by simp, by simp [n7, Ne.symm b1], by simp [n9, Ne.symm b2], by simp [n10, Ne.symm b3], by simp [Ne.symm n10, Ne.symm a4]⟩ (rowDraws (A := A.in1) hh l1 i1 a a3 c.1) (rowDraws (A := A.in1) hh l2 i2 b b4 c.2)
  · intro c hc
    have e' : c = z ∨ c = TO ∨ c = i1 ∨ c = i2 := by simpa using hc
    rcases e' with q | q | q | q <;> simp [q]
  · intro c i h st
    obtain ⟨hz, hTI, hTO, ⟨h1, _⟩, h2, _⟩ := st
    exact ⟨hz, hTI, hTO, ⟨c.2.1.2.1, c.2.2.2.1⟩, h1, h2⟩
  · intro X hP hw hK i pins s σ H I hb st hg
    obtain ⟨hz, hTI, hTO, ⟨na, nb⟩, h1, h2⟩ := st
    obtain ⟨hi, xs, ys, hq1, hq2, hn⟩ := hg
    subst hK
    obtain ⟨its, rv, ob, _⟩ := hq1.at I
    obtain ⟨its2, rv2, ob2, _⟩ := hq2.at I
    have l1' := rv.length
    have l2' := rv2.length
    refine ⟨⟨(its.toArray, its2.toArray), ⟨obX_ne ob hz rfl (by decide) (by decide), na, obX_it ob h1, obX_it ob h2⟩, obX_ne ob2 hz rfl (by decide) (by decide), nb, obX_it ob2 h1, obX_it ob2 h2⟩, ⟨hz, hTI, hTO, ⟨h1, ob⟩, h2, ob2⟩, by simp only [List.size_toArray]; omega, ?_⟩
    rintro vals ⟨u, u2, hu, hu2, rfl⟩
    have hxi : i < xs.length := by omega
    have hyi : i < ys.length := by omega
    obtain ⟨u', hu', ru⟩ := rv.get (List.getElem?_eq_getElem hxi)
    obtain ⟨u2', hu2', ru2⟩ := rv2.get (List.getElem?_eq_getElem hyi)
    have eu : u' = u := by
      have : its[i]? = some u := by simpa using hu
      rw [hu'] at this
      exact Option.some.inj this
    have eu2 : u2' = u2 := by
      have : its2[i]? = some u2 := by simpa using hu2
      rw [hu2'] at this
      exact Option.some.inj this
    subst eu eu2
    refine ⟨[xs[i], ys[i]], (.cons ru (.cons ru2 .nil)), (show 2 ≤ sizeLine by decide), fun T hT => ⟨T, xs[i], ys[i], rfl, hT, rfl, fun zs hzs => ?_, fun zs hzs => ?_⟩⟩
    · rw [SqB.inj I hzs hq1]; exact List.getElem?_eq_getElem hxi
    · rw [SqB.inj I hzs hq2]; exact List.getElem?_eq_getElem hyi
  · intro X hP hw hK i pins s σ H I hb st hg
    obtain ⟨hz, hTI, hTO, ⟨na, nb⟩, h1, h2⟩ := st
    obtain ⟨hi, xs, ys, hq1, hq2, hn⟩ := hg
    subst hK
    obtain ⟨its, rv, ob, _⟩ := hq1.at I
    obtain ⟨its2, rv2, ob2, _⟩ := hq2.at I
    have l1' := rv.length
    have l2' := rv2.length
    exact ⟨⟨(its.toArray, its2.toArray), ⟨obX_ne ob hz rfl (by decide) (by decide), na, obX_it ob h1, obX_it ob h2⟩, obX_ne ob2 hz rfl (by decide) (by decide), nb, obX_it ob2 h1, obX_it ob2 h2⟩, ⟨hz, hTI, hTO, ⟨h1, ob⟩, h2, ob2⟩, by simp only [List.size_toArray]; omega⟩
  · intro A i s Q E st h
    exact wpAny_pyIter_zip st.1 h
/-! ### the sources -/
theorem enumNew {v : Value} {o : Obj} {H : Heap → Prop} (B : Begins v o H) :
    Meets (Builtin.«enumerate.__new__» ⟨[.type "enumerate", v], []⟩) (fun _ R s => H s.heap ∧
      R (.ok (.ret (.ref (s.heap.push o).objs.size))) { s with heap := (s.heap.push o).push { cls := .type "enumerate", data := .fields #[.none, .bool false, .ref s.heap.objs.size, rawInt 0, .none, .none] } }) :=
  .of_wp fun prog w A R s h => by
    obtain ⟨hp, g, d, tk, os⟩ := s; obtain ⟨h1, h⟩ := h
    have hsub := sub_enumerate
    have q1 : ∀ {A' : Around} {E : Value → Shared → Prop} {Q : Value → Shared → Prop}, Q (.ref hp.objs.size) ⟨hp.push o, g, d, tk, os⟩ → wpAny (model prog w) A' (pyIter v) Q E ⟨hp, g, d, tk, os⟩ :=
      fun q => B.iter prog w _ _ ⟨hp, g, d, tk, os⟩ _ h1 q
    wp_walk using q1
    refine wpAny_stack_any fun st => wpAny_pure ?_
    split
    · rename_i c _ _ _ _ _
      cases (c == Value.type "enumerate")
      · wp_walk using q1
        exact ⟨_, rfl, h⟩
      · wp_walk using q1
        exact ⟨_, rfl, h⟩
    · wp_walk using q1
      exact ⟨_, rfl, h⟩
theorem enumCall {prog : Program} {w : World} {A : Around} {E : Value → Shared → Prop} {s : Shared} {v : Value} {o : Obj} {H : Heap → Prop} {Q : Value → Shared → Prop} (B : Begins v o H) (h1 : H s.heap)
    (h : ∀ h', IsEnum h' (s.heap.objs.size + 1) s.heap.objs.size 0 .none → h'.get? s.heap.objs.size = some o → (∀ b o, s.heap.get? b = some o → h'.get? b = some o) → Q (.ref (s.heap.objs.size + 1)) { s with heap := h' }) :
    wpAny (model prog w) A (call (.type "enumerate") [v]) Q E s := by
  refine callType_new F.called_enumerate (by decide) (F.typeCall_enumerate_1 _) (F.newCall_enumerate_1 _) (fun obj => F.args_object_init_2 obj _) F.entry_enumerate_new (enumNew B) ⟨h1, ?_⟩
  have hz : (s.heap.push o).objs.size = s.heap.objs.size + 1 := Heap.size_push ..
  show _ ∧ _
  rw [hz]
  have he : IsEnum ((s.heap.push o).push { cls := .type "enumerate", data := .fields #[.none, .bool false, .ref s.heap.objs.size, rawInt 0, .none, .none] }) (s.heap.objs.size + 1) s.heap.objs.size 0 .none := by
    have := Heap.get?_push_size (s.heap.push o) (o := { cls := .type "enumerate", data := .fields #[.none, .bool false, .ref s.heap.objs.size, rawInt 0, .none, .none] }) rfl
    rw [hz] at this; exact this
  exact ⟨⟨_, he, rfl⟩, h _ he (Heap.get?_push_of_some _ (Heap.get?_push_size _ B.free)) fun b o x => Heap.get?_push_of_some _ (Heap.get?_push_of_some _ x)⟩
def iEnB (K : PySem.W.Frag) (ta : TA) : TI := fun σ H R => ta σ H fun vs H1 => ∃ l a xs, vs = [.ref a] ∧ SqB l K H1 a xs ∧ R (Jen K l a xs.length) H1
theorem pi_enB {X : Cx} {e : Expr} {ta : TA} {p pos tpos : Pos} {elts : List Expr} {kk : Nat} (hg : Gl X "enumerate") (hm : X.mg "enumerate" = none) (ha : PA X [e] ta) (hs : starEach [e] X.env = [(false, eval e X.env)]) :
    PI X (.Tuple elts kk tpos) (.Call (.Name "enumerate" p) [e] [] pos) (iEnB X.K ta) := by
  refine ⟨fun pins s σ H R I h => ?_⟩
  refine PyProof.Rows.Call_ (ld_blt I hg hm PyProof.Rows.boot_enumerate (PyProof.Rows.callWith_type1 (thn (ha.run pos pins s σ H _ I h) fun us s1 ⟨vs, H1, I1, r1, q1⟩ => ?_) hs rfl))
  obtain ⟨l, a, xs, ex, hq, q⟩ := q1
  subst ex
  cases r1 with
  | cons r rr =>
    cases rr
    cases r
    obtain ⟨its, rv, ob, hz⟩ := hq.at I1
    refine enumCall (rowBegins l a its.toArray) ob fun h' he hit hk => wpAny_pyIter_enum he ?_
    have I2 : L2.Inv X pins σ H1 { s1 with heap := h' } := I1.kept (t' := s1.toks) hk
    refine ⟨s1.heap.objs.size + 1, [s1.heap.objs.size + 1, s1.heap.objs.size], _, _, H1, rfl, I2, turnEn l a (s1.heap.objs.size + 1) s1.heap.objs.size xs.length (Nat.succ_ne_self _), ⟨⟨.none, he⟩, itX_of hit⟩, fun b hb => ?_, q⟩
    have hle : s1.heap.objs.size ≤ b := by
      have e' : b = s1.heap.objs.size + 1 ∨ b = s1.heap.objs.size := by simpa using hb
      rcases e' with z | z <;> rw [z] <;> first | exact Nat.le_refl _ | exact Nat.le_add_right _ _
    exact I1.fpOk hle (I1.hok.fresh hle)
theorem five (n : Nat) : n + 2 ≠ n + 4 ∧ n + 3 ≠ n + 4 ∧ n + 2 ≠ n + 3 ∧ n + 2 ≠ n ∧ n + 2 ≠ n + 1 ∧ n + 4 ≠ n ∧ n + 4 ≠ n + 1 ∧ n + 3 ≠ n ∧ n + 3 ≠ n + 1 ∧ n ≠ n + 1 := by omega
def iZpB (K : PySem.W.Frag) (ta : TA) : TI := fun σ H R => ta σ H fun vs H1 => ∃ l1 l2 a b xs ys, vs = [.ref a, .ref b] ∧ SqB l1 K H1 a xs ∧ SqB l2 K H1 b ys ∧ R (Jzp K l1 l2 a b (min xs.length ys.length)) H1
theorem obX_lt {l : Bool} {h : Heap} {a : Addr} {items : Array Value} (x : ObX l h a items) : a < h.objs.size := by
  cases l with
  | true => obtain ⟨o, e, _⟩ := (show h.IsList a items from x); exact Heap.lt_size e
  | false => obtain ⟨o, e, _⟩ := (show h.IsTuple a items from x); exact Heap.lt_size e
theorem pi_zpB {X : Cx} {e e2 : Expr} {ta : TA} {p pos tpos : Pos} {elts : List Expr} {kk : Nat} (hg : Gl X "zip") (hm : X.mg "zip" = none) (ha : PA X [e, e2] ta)
    (hs : starEach [e, e2] X.env = (false, eval e X.env) :: starEach [e2] X.env) (hpl : (backTo pos (starEach [e2] X.env)).any (·.1) = false) : PI X (.Tuple elts kk tpos) (.Call (.Name "zip" p) [e, e2] [] pos) (iZpB X.K ta) := by
  refine ⟨fun pins s σ H R I h => ?_⟩
  refine PyProof.Rows.Call_ (ld_blt I hg hm PyProof.Rows.boot_zip (PyProof.Rows.callWith_type1 (thn (ha.run pos pins s σ H _ I h) fun us s1 ⟨vs, H1, I1, r1, q1⟩ => ?_) hs hpl))
  obtain ⟨l1, l2, a, b, xs, ys, ex, hq1, hq2, q⟩ := q1
  subst ex
  cases r1 with
  | cons r rr =>
    cases rr with
    | cons r' rr =>
      cases rr
      cases r
      cases r'
      obtain ⟨its, rv, ob, _⟩ := hq1.at I1
      obtain ⟨its2, rv2, ob2, _⟩ := hq2.at I1
      have la := obX_lt ob
      have lb := obX_lt ob2
      refine zip_begins2 (rowBegins l1 a its.toArray) (rowBegins l2 b its2.toArray) ob ob2 fun h' hz hTI hTO h1 h2 hsz hk => wpAny_pyIter_zip hz ?_
      have I2 : L2.Inv X pins σ H1 { s1 with heap := h' } := I1.kept (t' := s1.toks) hk
      refine ⟨s1.heap.objs.size + 4, [s1.heap.objs.size + 4, s1.heap.objs.size + 2, s1.heap.objs.size + 3, s1.heap.objs.size, s1.heap.objs.size + 1], _, _, H1, rfl, I2,
        turnZp l1 l2 a b (s1.heap.objs.size + 4) (s1.heap.objs.size + 2) (s1.heap.objs.size + 3) s1.heap.objs.size (s1.heap.objs.size + 1) (min xs.length ys.length) (five _).1 (five _).2.1 (five _).2.2.1 (five _).2.2.2.1 (five _).2.2.2.2.1 (five _).2.2.2.2.2.1 (five _).2.2.2.2.2.2.1 (five _).2.2.2.2.2.2.2.1 (five _).2.2.2.2.2.2.2.2.1 (five _).2.2.2.2.2.2.2.2.2,
        ⟨hz, hTI, ⟨_, _, hTO⟩, ⟨Nat.ne_of_lt (Nat.lt_of_lt_of_le la (Nat.le_add_right _ _)), Nat.ne_of_lt (Nat.lt_of_lt_of_le lb (Nat.le_add_right _ _))⟩, itX_of h1, itX_of h2⟩, fun c hc => ?_, q⟩
      have hle : s1.heap.objs.size ≤ c := by
        have e' : c = s1.heap.objs.size + 4 ∨ c = s1.heap.objs.size + 2 ∨ c = s1.heap.objs.size + 3 ∨ c = s1.heap.objs.size ∨ c = s1.heap.objs.size + 1 := by simpa using hc
        rcases e' with z | z | z | z | z <;> rw [z] <;> first | exact Nat.le_refl _ | exact Nat.le_add_right _ _
      exact I1.fpOk hle (I1.hok.fresh hle)
end DI
end
section
set_option Elab.async false
set_option linter.all false
set_option maxRecDepth 100000
/-! Sources. -/
namespace DI
open PySem PySem.Spec L2
section
variable {G : CT} {ts : List Addr} {H H' : Hp} {T T' : Tl} {ws ws' : List (List Addr)} {g : Md} {ρ : Rho} {σ : St}
variable {t : Tb} {C : Calls} {X : Cx} {mc : Mc} {k : Nat} {N B N' B' S : Sets} {F : FA}
/-- v stands for the row d, and goes on to: items read by mode r -/
def SeqS (G : CT) (H : Hp) (N B : Sets) (r : M) (l : Bool) (ds : List D) (v : V) : Prop :=
  ∃ (a : Addr) (xs : List V), v = .ref a ∧ (if l = true then ((Rd H a (.lst xs) ∧ ¬ B a) ∨ ∀ H', SqL G.K H' a xs) else SqT G.K H a xs) ∧ ds.length = xs.length ∧
    ∀ (i : Nat) (d' : D) (v' : V), ds[i]? = some d' → xs[i]? = some v' → Rp G H N B true r d' v' []
theorem SeqS.next {r : M} {l : Bool} {ds : List D} {v : V} (h : SeqS G H N B r l ds v) (kp : Kp H H' S) (nx : Nx H S N B N' B') : SeqS G H' N' B' r l ds v := by
  obtain ⟨a, xs, e, hs, hl, q⟩ := h
  refine ⟨a, xs, e, ?_, hl, fun i d' v' e1 e2 => (q i d' v' e1 e2).next kp nx fun a z => nomatch z⟩
  cases l with
  | true =>
    simp only [if_true] at hs ⊢
    rcases hs with ⟨h1, h2⟩ | h
    · exact .inl ⟨kp.rd h1 fun z => h2 (nx.sb _ z), fun z => h2 (nx.b _ (rd_trk h1) z)⟩
    · exact .inr h
  | false =>
    simp only [Bool.false_eq_true, if_false] at hs ⊢
    exact kp.sqT hs
theorem SeqS.sqB {r : M} {l : Bool} {ds : List D} {v : V} (h : SeqS G H N B r l ds v) : ∃ a xs, v = .ref a ∧ SqB l G.K H a xs ∧ ds.length = xs.length ∧ ∀ (i : Nat) (d' : D) (v' : V), ds[i]? = some d' → xs[i]? = some v' → Rp G H N B true r d' v' [] := by
  obtain ⟨a, xs, e, hs, hl, q⟩ := h
  refine ⟨a, xs, e, ?_, hl, q⟩
  unfold SqB
  cases l with
  | true =>
    simp only [if_true] at hs ⊢
    exact hs.elim (fun h => .inl h.1) fun h => h H
  | false =>
    simp only [Bool.false_eq_true, if_false] at hs ⊢
    exact hs
def isL : D → Bool
  | .lst _ => true
  | _ => false
theorem Fz.seqS {d : D} {v : V} (h : Fz G H N d v) (hb : ∀ a, B a → N a) {ds : List D} (hs : seqOf d = some ds) : SeqS G H N B .z (isL d) ds v := by
  cases h with
  | tup h a => cases hs; exact ⟨_, _, rfl, h, a.length, (fzA_items a).2⟩
  | lst h n a => cases hs; exact ⟨_, _, rfl, .inl ⟨h, fun z => n (hb _ z)⟩, a.length, (fzA_items a).2⟩
  | lstK h a => cases hs; exact ⟨_, _, rfl, .inr h, a.length, (fzA_items a).2⟩
  | _ => cases hs
theorem SeqS.mode {r r' : M} {l : Bool} {ds : List D} {v : V} (h : SeqS G H N B r l ds v) (k : ∀ d v, Rp G H N B true r d v [] → Rp G H N B true r' d v []) : SeqS G H N B r' l ds v := by
  obtain ⟨a, xs, e, h, hl, q⟩ := h
  exact ⟨a, xs, e, h, hl, fun i d' v' e1 e2 => k _ _ (q i d' v' e1 e2)⟩
theorem Rp.seqS {m r : M} {d : D} {v : V} {w : List Addr} (h : Rp G H N B true m d v w) (hr : rdM m = some r) {ds : List D} (hs : seqOf d = some ds) (hn : ∀ a, N' a → N a) (hb : ∀ a, B' a → B a) (hbn : ∀ a, B' a → N' a) (hw : ∀ a ∈ w, ¬ N' a) : SeqS G H N' B' r (isL d) ds v := by
  have frz : m.fzb = true → r = .z → SeqS G H N' B' r (isL d) ds v := fun f e => by
    subst e
    exact (h.freeze f hn hw).seqS hbn hs
  cases m with
  | z => exact frz rfl (by cases hr; rfl)
  | x => cases hr
  | L m =>
    simp only [rdM] at hr
    by_cases f : m.fzb = true
    · rw [if_pos f] at hr; exact frz f (by cases hr; rfl)
    · rw [if_neg f] at hr; cases hr
  | tn => exact frz rfl (by cases hr; rfl)
  | tc m r' =>
    simp only [rdM] at hr
    by_cases f : (m.fzb && r'.fzb) = true
    · rw [if_pos f] at hr; exact frz f (by cases hr; rfl)
    · rw [if_neg f] at hr; cases hr
  | O => cases hr
  | w m =>
    cases m with
    | L m =>
      have e : r = lw m := by cases hr; rfl
      subst e
      cases h with
      | T _ r => cases r
      | w h =>
        have h := h.sets (N' := N') (B' := B') (fun a _ z => hn a z) fun a _ z => hb a z
        rcases h.lentL rfl rfl with ⟨h, ff⟩ | ⟨a, xs, ds', w', rfl, rfl, hh, n, q⟩
        · refine (h.seqS hbn hs).mode fun d v q => ?_
          cases q with
          | z q => exact q.lw ff
          | T _ r => cases r
        · cases hs
          obtain ⟨l, q⟩ := rpA_items q
          exact ⟨_, _, rfl, .inl ⟨.of hh, n⟩, l, q⟩
    | _ => cases hr
/-- what a source's iterator hands out, from now on -/
def SrcOk (G : CT) (H : Hp) (N B : Sets) (im : M) (items : List D) (J : It) : Prop :=
  ∀ (H' : Hp) (N' B' S : Sets), Kp H H' S → Nx H S N B N' B' → J.stop items.length H' ∧ ∀ i x, items[i]? = some x → J.go i H' ∧ ∀ v H2, J.yld i H' v H2 →
    (H2 = H' ∧ Rp G H' N' B' true im x v []) ∨ ∃ p xs ds, H' p = none ∧ H2 = upd H' p (.tup xs) ∧ v = .ref p ∧ x = .tup ds ∧ RpT G H' N' B' true im ds xs []
/-- the reading of a source -/
def RS (t : Tb) (G : CT) (ts : List Addr) (C : Calls) (e : E) : TI := fun σ H R =>
  ∃ (T : Tl) (ws : List (List Addr)) (g : Md) (ρ : Rho) (im : M) (g' : Md) (items : List D) (ρ' : Rho), ck t e g = some (im, g') ∧ ev C e ρ = some (.lst items, ρ') ∧ EnvOk G ts H T ws g ρ σ ∧
    ∀ (J : It) (H' : Hp) (ws' : List (List Addr)), Stp H ws.flatten H' ws'.flatten → EnvOk G ts H' T ws' g' ρ' σ → SrcOk G H' (uni T ws'.flatten).s (uni T ws'.flatten).b im items J → R J H'
theorem PI.of {tg e : Expr} {u u' : TI} (h : PI X tg e u) (k : ∀ σ H R, u' σ H R → u σ H R) : PI X tg e u' := ⟨fun pins s σ H R I q => h.run pins s σ H R I (k σ H R q)⟩
theorem PI.or {tg e : Expr} {u u' : TI} (h : PI X tg e u) (h' : PI X tg e u') : PI X tg e fun σ H R => u σ H R ∨ u' σ H R := ⟨fun pins s σ H R I q => q.elim (h.run pins s σ H R I) (h'.run pins s σ H R I)⟩
/-- the items of a row -/
theorem srcRow {im : M} {l : Bool} {ds : List D} {v : V} (h : SeqS G H N B im l ds v) : ∃ a, v = .ref a ∧ (∃ xs, SqB l G.K H a xs) ∧ SrcOk G H N B im ds (if l then Itl G.K a else Itt G.K a) := by
  obtain ⟨a, xs, e, hs, _⟩ := h.sqB
  refine ⟨a, e, ⟨xs, hs⟩, fun H' N' B' S kp nx => ?_⟩
  obtain ⟨a', xs', e', hs', hl', q'⟩ := (h.next kp nx).sqB
  rw [e] at e'
  cases e'
  cases l with
  | true =>
    refine ⟨⟨xs', hs', by omega⟩, fun i x hx => ?_⟩
    have hi : i < xs'.length := by rw [← hl']; exact (List.getElem?_eq_some_iff.mp hx).1
    refine ⟨⟨xs', xs'[i], hs', List.getElem?_eq_getElem hi⟩, fun v H2 ⟨e1, e2⟩ => .inl ⟨e1, q' i x v hx (e2 _ hs')⟩⟩
  | false =>
    refine ⟨⟨xs', hs', by omega⟩, fun i x hx => ?_⟩
    have hi : i < xs'.length := by rw [← hl']; exact (List.getElem?_eq_some_iff.mp hx).1
    refine ⟨⟨xs', xs'[i], hs', List.getElem?_eq_getElem hi⟩, fun v H2 ⟨e1, e2⟩ => .inl ⟨e1, q' i x v hx (e2 _ hs')⟩⟩
theorem tlb_n {N : Tl} {a : Addr} (h : N.b a) : N a := h.1
theorem ss_sq {e : E} {tg x : Expr} (hK : X.K = G.K) (ha : PE X x (RE t G ts C e)) : PI X tg x (RS t G ts C (.sq e)) := by
  refine PI.of (PI.or (pi_list ha) (pi_tup ha)) ?_
  rintro σ H R ⟨T, ws, g, ρ, im, g', items, ρ', hc, he, env, p⟩
  simp only [ck, ev] at hc he
  split at hc
  · rename_i m g1 e1
    rw [Option.map_eq_some_iff] at hc
    obtain ⟨r, hr, em⟩ := hc
    cases em
    split at he
    · rename_i y ρ1 e3
      rw [Option.map_eq_some_iff] at he
      obtain ⟨xs, hs, e4⟩ := he
      cases e4
      have key : ∀ v1 H1 w1 ws1, Stp H ws.flatten H1 (w1 ++ ws1.flatten) → EnvOk G ts H1 (uni T w1) ws1 g' ρ' σ → Rt G H1 (uni (uni T w1) ws1.flatten) m y v1 w1 → w1.Nodup → (∀ a ∈ w1, ¬ T a) → ∃ a, v1 = .ref a ∧ (∃ xs, SqB (isL y) G.K H1 a xs) ∧ R (if isL y then Itl G.K a else Itt G.K a) H1 := by
        intro v1 H1 w1 ws1 st1 env1 r1 n1 d1
        have sq := r1.seqS hr hs (N' := uni T ws1.flatten) (B' := (uni T ws1.flatten).b) (fun a z => z.imp .inl id) (fun a z => ⟨z.1.imp .inl id, z.2⟩) (fun a z => z.1) (fun a ha z => z.elim (d1 a ha) fun q => env1.dj a q (.inr ha))
        obtain ⟨a, e, hx, so⟩ := srcRow sq
        exact ⟨a, e, hx, p _ H1 ws1 st1.drop1 (env1.less fun a z => .inl z) so⟩
      rw [hK]
      cases y <;> simp only [seqOf] at hs <;> try cases hs
      · exact .inr ⟨T, ws, g, ρ, m, g', _, ρ', e1, e3, env, fun v1 H1 w1 ws1 st1 env1 r1 n1 d1 => key v1 H1 w1 ws1 st1 env1 r1 n1 d1⟩
      · exact .inl ⟨T, ws, g, ρ, m, g', _, ρ', e1, e3, env, fun v1 H1 w1 ws1 st1 env1 r1 n1 d1 => key v1 H1 w1 ws1 st1 env1 r1 n1 d1⟩
    · cases he
  · cases hc
/-! ### ranges -/
theorem getElem_range {n i : Nat} {f : Nat → D} {x : D} (h : ((List.range n).map f)[i]? = some x) : i < n ∧ x = f i := by
  rw [List.getElem?_map, Option.map_eq_some_iff] at h
  obtain ⟨j, h1, h2⟩ := h
  obtain ⟨hj, e⟩ := List.getElem?_eq_some_iff.mp h1
  rw [List.getElem_range] at e
  subst e
  exact ⟨by simpa using hj, h2.symm⟩
theorem srcRange {lo c : Int} {n : Nat} : SrcOk G H N B .z ((List.range n).map fun (k : Nat) => .int (lo + (k : Int) * c)) (Itc lo c n) := by
  intro H' N' B' S kp nx
  refine ⟨by simp [Itc], fun i x hx => ?_⟩
  obtain ⟨hi, rfl⟩ := getElem_range hx
  exact ⟨hi, fun v H2 ⟨e1, e2⟩ => .inl ⟨e1, by rw [e2]; exact .z (.int _)⟩⟩
theorem srcRange1 {lo : Int} {n : Nat} : SrcOk G H N B .z ((List.range n).map fun (k : Nat) => .int (lo + (k : Int))) (Itr lo n) := by
  intro H' N' B' S kp nx
  refine ⟨by simp [Itr], fun i x hx => ?_⟩
  obtain ⟨hi, rfl⟩ := getElem_range hx
  exact ⟨hi, fun v H2 ⟨e1, e2⟩ => .inl ⟨e1, by rw [e2]; exact .z (.int _)⟩⟩
theorem ss_rg1 {a : E} {tg x : Expr} {p pos : Pos} (hX : CxM mc X k) (hg : glB mc.sc "range" = true) (hs : isStarX x = false) (ha : PE X x (RE t G ts C a)) : PI X tg (.Call (.Name "range" p) [x] [] pos) (RS t G ts C (.rg1 a)) := by
  refine PI.of (pi_range1 (gl_of hX hg) (hX.bn _ (by simp [bnames])) (pa_cons ha pa_nil (starE_no hs)) (starE_no hs)) ?_
  rintro σ H R ⟨T, ws, g, ρ, im, g', items, ρ', hc, he, env, p⟩
  simp only [ck, ev] at hc he
  split at hc
  · rename_i m g1 e1
    split at hc
    · rename_i f
      cases hc
      split at he
      · rename_i j ρ1 e2
        split at he
        · rename_i hj
          cases he
          refine ⟨T, ws, g, ρ, m, g', .int j, ρ', e1, e2, env, fun v1 H1 w1 ws1 st1 env1 r1 n1 d1 => ?_⟩
          obtain ⟨rfl, _⟩ := r1.isInt j rfl
          have hj' := of_decide_eq_true hj
          refine ⟨j, rfl, hj'.1, hj'.2, p _ H1 ws1 st1.drop1 (env1.less fun a z => .inl z) ?_⟩
          have := srcRange1 (G := G) (H := H1) (N := (uni T ws1.flatten).s) (B := (uni T ws1.flatten).b) (lo := 0) (n := j.toNat)
          unfold rangeD
          rw [Int.sub_zero]
          exact this
        · cases he
      · cases he
    · cases hc
  · cases hc
theorem ss_rg2 {a b : E} {tg x y : Expr} {p pos : Pos} (hX : CxM mc X k) (hg : glB mc.sc "range" = true) (hs : isStarX x = false) (hs2 : isStarX y = false) (ha : PE X x (RE t G ts C a)) (hb : PE X y (RE t G ts C b)) : PI X tg (.Call (.Name "range" p) [x, y] [] pos) (RS t G ts C (.rg2 a b)) := by
  refine PI.of (pi_range2 (gl_of hX hg) (hX.bn _ (by simp [bnames])) (pa_cons ha (pa_cons hb pa_nil (starE_no hs2)) (starE_no hs)) (by rw [starE_no hs, starE_no hs2]; rfl) (starE_no hs2)) ?_
  rintro σ H R ⟨T, ws, g, ρ, im, g', items, ρ', hc, he, env, p⟩
  simp only [ck, ev] at hc he
  split at hc
  · rename_i m g1 e1
    split at hc
    · rename_i m2 g2 e2
      split at hc
      · cases hc
        split at he
        · rename_i i ρ1 e3
          split at he
          · rename_i j ρ2 e4
            split at he
            · rename_i hj
              cases he
              refine RE.bin e1 e2 e3 e4 env fun v1 v2 H2 w1 w2 ws2 w => ?_
              obtain ⟨rfl, _⟩ := w.r1.isInt i rfl
              obtain ⟨rfl, _⟩ := w.r2.isInt j rfl
              rw [Bool.and_eq_true] at hj
              have h1 := of_decide_eq_true hj.1
              have h2 := of_decide_eq_true hj.2
              exact ⟨i, j, rfl, ⟨h1.1, h1.2, h2.1, h2.2⟩, p _ H2 ws2 w.stp w.env0 srcRange1⟩
            · cases he
          · cases he
        · cases he
      · cases hc
    · cases hc
  · cases hc
theorem ss_rg3 {a b c : E} {tg x y z : Expr} {p pos : Pos} (hX : CxM mc X k) (hg : glB mc.sc "range" = true) (hs : isStarX x = false) (hs2 : isStarX y = false) (hs3 : isStarX z = false) (ha : PE X x (RE t G ts C a)) (hb : PE X y (RE t G ts C b)) (hcc : PE X z (RE t G ts C c)) :
    PI X tg (.Call (.Name "range" p) [x, y, z] [] pos) (RS t G ts C (.rg3 a b c)) := by
  refine PI.of (pi_range3 (gl_of hX hg) (hX.bn _ (by simp [bnames])) (pa_cons ha (pa_cons hb (pa_cons hcc pa_nil (starE_no hs3)) (starE_no hs2)) (starE_no hs)) (starE_no hs) (by rw [starE_no hs2, starE_no hs3]; rfl)) ?_
  rintro σ H R ⟨T, ws, g, ρ, im, g', items, ρ', hc, he, env, p⟩
  simp only [ck, ev] at hc he
  split at hc
  · rename_i m g1 e1
    split at hc
    · rename_i m2 g2 e2
      split at hc
      · rename_i m3 g3 e3
        split at hc
        · cases hc
          split at he
          · rename_i i ρ1 e4
            split at he
            · rename_i j ρ2 e5
              split at he
              · rename_i n ρ3 e6
                split at he
                · rename_i hj
                  rw [Option.map_eq_some_iff] at he
                  obtain ⟨l, hl, e7⟩ := he
                  cases e7
                  unfold range3D at hl
                  split at hl
                  · rename_i hn
                    subst hn
                    cases hl
                    refine RE.bin e1 e2 e4 e5 env fun v1 v2 H2 w1 w2 ws2 w => ?_
                    refine ⟨T, ws2, g2, ρ2, m3, g', .int (-1), ρ', e3, e6, w.env0, fun v3 H3 w3 ws3 st3 env3 r3 n3 d3 => ?_⟩
                    obtain ⟨rfl, _⟩ := w.r1.isInt i rfl
                    obtain ⟨rfl, _⟩ := w.r2.isInt j rfl
                    obtain ⟨rfl, _⟩ := r3.isInt (-1) rfl
                    simp only [Bool.and_eq_true] at hj
                    have h1 := of_decide_eq_true hj.1.1
                    have h2 := of_decide_eq_true hj.1.2
                    exact ⟨i, j, -1, (i - j).toNat, rfl, RgC.neg h1.1 h1.2 h2.1 h2.2, p _ H3 ws3 (Stp.trans w.stp (fun x z => z) st3.drop1) (env3.less fun a z => .inl z) srcRange⟩
                  · cases hl
                · cases he
              · cases he
            · cases he
          · cases he
        · cases hc
      · cases hc
    · cases hc
  · cases hc
/-! ### numbered, in pairs -/
theorem enumD_get : ∀ {xs : List D} {n i : Nat} {x : D}, (enumD n xs)[i]? = some x → ∃ y, xs[i]? = some y ∧ x = .tup [.int ((n + i : Nat) : Int), y]
  | [], _, _, _, h => by simp [enumD] at h
  | y :: ys, n, 0, x, h => by simp [enumD] at h; exact ⟨y, rfl, h.symm⟩
  | y :: ys, n, i + 1, x, h => by
    obtain ⟨z, h1, h2⟩ := enumD_get (n := n + 1) (i := i) (by simpa [enumD] using h)
    exact ⟨z, by simpa using h1, by rw [h2, show n + 1 + i = n + (i + 1) by omega]⟩
theorem enumD_len : ∀ {xs : List D} {n : Nat}, (enumD n xs).length = xs.length
  | [], _ => rfl
  | y :: ys, n => by simp [enumD, enumD_len (xs := ys)]
theorem srcEnum {r : M} {l : Bool} {ds : List D} {v : V} (h : SeqS G H N B r l ds v) : ∃ a xs, v = .ref a ∧ SqB l G.K H a xs ∧ SrcOk G H N B (.tc .z (.tc r .tn)) (enumD 0 ds) (Jen G.K l a xs.length) := by
  obtain ⟨a, xs, e, hs, hl0, _⟩ := h.sqB
  refine ⟨a, xs, e, hs, fun H' N' B' S kp nx => ?_⟩
  obtain ⟨a', xs', e', hs', hl', q'⟩ := (h.next kp nx).sqB
  rw [e] at e'
  cases e'
  have hlen : xs'.length = xs.length := by omega
  refine ⟨⟨by rw [enumD_len]; omega, xs', hs', hlen⟩, fun i x hx => ?_⟩
  obtain ⟨y, hy, rfl⟩ := enumD_get hx
  have hi : i < xs'.length := by rw [← hl']; exact (List.getElem?_eq_some_iff.mp hy).1
  refine ⟨⟨by omega, xs', hs', hlen⟩, ?_⟩
  rintro v H2 ⟨T, u, rfl, hT, rfl, hu⟩
  refine .inr ⟨T, _, _, hT, rfl, rfl, rfl, RpT.cons (w1 := []) (w2 := []) (.z ?_) (RpT.cons (w1 := []) (w2 := []) (q' i y u hy (hu _ hs')) .nil)⟩
  rw [Nat.zero_add]
  exact .int _
theorem srcZip {r1 r2 : M} {l1 l2 : Bool} {ds es : List D} {v1 v2 : V} (h1 : SeqS G H N B r1 l1 ds v1) (h2 : SeqS G H N B r2 l2 es v2) : ∃ a b xs ys, v1 = .ref a ∧ v2 = .ref b ∧ SqB l1 G.K H a xs ∧ SqB l2 G.K H b ys ∧ SrcOk G H N B (.tc r1 (.tc r2 .tn)) (zipD ds es) (Jzp G.K l1 l2 a b (min xs.length ys.length)) := by
  obtain ⟨a, xs, e, hs, hl0, _⟩ := h1.sqB
  obtain ⟨b, ys, f, hs2, hl2, _⟩ := h2.sqB
  refine ⟨a, b, xs, ys, e, f, hs, hs2, fun H' N' B' S kp nx => ?_⟩
  obtain ⟨a', xs', e', hs', hl', q'⟩ := (h1.next kp nx).sqB
  obtain ⟨b', ys', f', hs2', hl2', q2'⟩ := (h2.next kp nx).sqB
  rw [e] at e'
  rw [f] at f'
  cases e'
  cases f'
  have hlen : xs'.length = xs.length := by omega
  have hlen2 : ys'.length = ys.length := by omega
  have hz : (zipD ds es).length = min ds.length es.length := by simp [zipD]
  refine ⟨⟨by rw [hz]; omega, xs', ys', hs', hs2', by omega⟩, fun i x hx => ?_⟩
  have hx' : ∃ y z, ds[i]? = some y ∧ es[i]? = some z ∧ x = .tup [y, z] := by
    unfold zipD at hx
    rw [List.getElem?_zipWith_eq_some] at hx
    obtain ⟨y, z, h1, h2, h3⟩ := hx
    exact ⟨y, z, h1, h2, h3.symm⟩
  obtain ⟨y, z, hy, hz', rfl⟩ := hx'
  have hi : i < xs'.length := by rw [← hl']; exact (List.getElem?_eq_some_iff.mp hy).1
  have hi2 : i < ys'.length := by rw [← hl2']; exact (List.getElem?_eq_some_iff.mp hz').1
  refine ⟨⟨by omega, xs', ys', hs', hs2', by omega⟩, ?_⟩
  rintro v H2 ⟨T, u, u2, rfl, hT, rfl, hu, hu2⟩
  exact .inr ⟨T, _, _, hT, rfl, rfl, rfl, RpT.cons (w1 := []) (w2 := []) (q' i y u hy (hu _ hs')) (RpT.cons (w1 := []) (w2 := []) (q2' i z u2 hz' (hu2 _ hs2')) .nil)⟩
theorem ss_en {a : E} {x : Expr} {elts : List Expr} {kk : Nat} {p pos tpos : Pos} (hX : CxM mc X k) (hK : X.K = G.K) (hg : glB mc.sc "enumerate" = true) (hs : isStarX x = false) (ha : PE X x (RE t G ts C a)) : PI X (.Tuple elts kk tpos) (.Call (.Name "enumerate" p) [x] [] pos) (RS t G ts C (.en a)) := by
  refine PI.of (pi_enB (gl_of hX hg) (hX.bn _ (by simp [bnames])) (pa_cons ha pa_nil (starE_no hs)) (starE_no hs)) ?_
  rintro σ H R ⟨T, ws, g, ρ, im, g', items, ρ', hc, he, env, p⟩
  simp only [ck, ev] at hc he
  split at hc
  · rename_i m g1 e1
    rw [Option.map_eq_some_iff] at hc
    obtain ⟨r, hr, em⟩ := hc
    cases em
    split at he
    · rename_i y ρ1 e3
      rw [Option.map_eq_some_iff] at he
      obtain ⟨xs, hs, e4⟩ := he
      cases e4
      refine ⟨T, ws, g, ρ, m, g', y, ρ', e1, e3, env, fun v1 H1 w1 ws1 st1 env1 r1 n1 d1 => ?_⟩
      have sq := r1.seqS hr hs (N' := uni T ws1.flatten) (B' := (uni T ws1.flatten).b) (fun a z => z.imp .inl id) (fun a z => ⟨z.1.imp .inl id, z.2⟩) (fun a z => z.1) (fun a ha z => z.elim (d1 a ha) fun q => env1.dj a q (.inr ha))
      obtain ⟨a, us, rfl, hx, so⟩ := srcEnum sq
      exact ⟨isL y, a, us, rfl, by rw [hK]; exact hx, by rw [hK]; exact p _ H1 ws1 st1.drop1 (env1.less fun a z => .inl z) so⟩
    · cases he
  · cases hc
theorem ss_zp {a b : E} {x y : Expr} {elts : List Expr} {kk : Nat} {p pos tpos : Pos} (hX : CxM mc X k) (hK : X.K = G.K) (hg : glB mc.sc "zip" = true) (hs : isStarX x = false) (hs2 : isStarX y = false) (ha : PE X x (RE t G ts C a)) (hb : PE X y (RE t G ts C b)) :
    PI X (.Tuple elts kk tpos) (.Call (.Name "zip" p) [x, y] [] pos) (RS t G ts C (.zp a b)) := by
  refine PI.of (pi_zpB (gl_of hX hg) (hX.bn _ (by simp [bnames])) (pa_cons ha (pa_cons hb pa_nil (starE_no hs2)) (starE_no hs)) (starE_no hs) (by rw [starE_no hs2]; rfl)) ?_
  rintro σ H R ⟨T, ws, g, ρ, im, g', items, ρ', hc, he, env, p⟩
  simp only [ck, ev] at hc he
  split at hc
  · rename_i ma g1 e1
    split at hc
    · rename_i mb g2 e2
      split at hc
      · rename_i ra rb hra hrb
        cases hc
        split at he
        · rename_i u ρ1 e3
          split at he
          · rename_i w0 ρ2 e4
            split at he
            · rename_i xs ys hxs hys
              cases he
              refine RE.bin e1 e2 e3 e4 env fun v1 v2 H2 w1 w2 ws2 w => ?_
              have sq1 := w.r1.seqS hra hxs (N' := uni T ws2.flatten) (B' := (uni T ws2.flatten).b) (fun a z => z.imp (fun q => .inl (.inl q)) id) (fun a z => ⟨z.1.imp (fun q => .inl (.inl q)) id, z.2⟩) (fun a z => z.1) w.a1
              have sq2 := w.r2.seqS hrb hys (N' := uni T ws2.flatten) (B' := (uni T ws2.flatten).b) (fun a z => z.imp (fun q => .inl (.inl q)) id) (fun a z => ⟨z.1.imp (fun q => .inl (.inl q)) id, z.2⟩) (fun a z => z.1) w.a2
              obtain ⟨a, b, us, us2, rfl, rfl, hx, hy, so⟩ := srcZip sq1 sq2
              exact ⟨isL u, isL w0, a, b, us, us2, rfl, by rw [hK]; exact hx, by rw [hK]; exact hy, by rw [hK]; exact p _ H2 ws2 w.stp w.env0 so⟩
            · cases he
          · cases he
        · cases he
      · cases hc
    · cases hc
  · cases hc
end
end DI
end
section
set_option Elab.async false
set_option linter.all false
set_option maxRecDepth 100000
/-! Targets; a comprehension's block. -/
namespace DI
open PySem PySem.Spec L2
section
variable {G : CT} {ts : List Addr} {H H' : Hp} {T T' : Tl} {ws ws' : List (List Addr)} {g : Md} {ρ : Rho} {σ : St}
variable {t : Tb} {C : Calls} {X : Cx} {mc : Mc} {k : Nat} {N B N' B' S : Sets} {F : FA}
theorem lookup_mem {α : Type} : ∀ {l : List (Str × α)} {x : Str} {v : α}, l.lookup x = some v → (x, v) ∈ l
  | [], _, _, h => by simp at h
  | (y, u) :: l, x, v, h => by
    unfold List.lookup at h
    split at h
    · rename_i e
      cases h
      rw [beq_iff_eq] at e
      rw [e]; exact List.mem_cons_self
    · exact List.mem_cons_of_mem _ (lookup_mem h)
theorem relS_free {scope sc : Scope} {x : Str} (h : scope.names.lookup x = some .free) : (relS scope sc).names.lookup x = some .cell ∨ (relS scope sc).names.lookup x = some .free := by
  have key : ∀ {names : List (Str × NameKind)}, names.lookup x = some .free →
      (names.map fun (n, k) => if (k == NameKind.free && sc.kind == .function && sc.names.lookup n == some .cell) then (n, NameKind.cell) else (n, k)).lookup x = some .cell ∨
      (names.map fun (n, k) => if (k == NameKind.free && sc.kind == .function && sc.names.lookup n == some .cell) then (n, NameKind.cell) else (n, k)).lookup x = some .free := by
    intro names
    induction names with
    | nil => intro h; simp at h
    | cons p r ih =>
      obtain ⟨n, k0⟩ := p
      intro h
      cases hx : x == n with
      | true =>
        simp only [List.lookup_cons, hx] at h
        cases h
        by_cases hc : (NameKind.free == NameKind.free && sc.kind == .function && sc.names.lookup n == some .cell) = true
        · left
          show List.lookup x ((if (NameKind.free == NameKind.free && sc.kind == .function && sc.names.lookup n == some .cell) = true then (n, NameKind.cell) else (n, NameKind.free)) :: _) = _
          rw [if_pos hc]
          simp only [List.lookup_cons, hx]
        · right
          show List.lookup x ((if (NameKind.free == NameKind.free && sc.kind == .function && sc.names.lookup n == some .cell) = true then (n, NameKind.cell) else (n, NameKind.free)) :: _) = _
          rw [if_neg hc]
          simp only [List.lookup_cons, hx]
      | false =>
        simp only [List.lookup_cons, hx] at h
        have ih' := ih h
        by_cases hc : (k0 == NameKind.free && sc.kind == .function && sc.names.lookup n == some .cell) = true
        · rcases ih' with q | q
          · left
            show List.lookup x ((if (k0 == NameKind.free && sc.kind == .function && sc.names.lookup n == some .cell) = true then (n, NameKind.cell) else (n, k0)) :: _) = _
            rw [if_pos hc]
            simp only [List.lookup_cons, hx]
            exact q
          · right
            show List.lookup x ((if (k0 == NameKind.free && sc.kind == .function && sc.names.lookup n == some .cell) = true then (n, NameKind.cell) else (n, k0)) :: _) = _
            rw [if_pos hc]
            simp only [List.lookup_cons, hx]
            exact q
        · rcases ih' with q | q
          · left
            show List.lookup x ((if (k0 == NameKind.free && sc.kind == .function && sc.names.lookup n == some .cell) = true then (n, NameKind.cell) else (n, k0)) :: _) = _
            rw [if_neg hc]
            simp only [List.lookup_cons, hx]
            exact q
          · right
            show List.lookup x ((if (k0 == NameKind.free && sc.kind == .function && sc.names.lookup n == some .cell) = true then (n, NameKind.cell) else (n, k0)) :: _) = _
            rw [if_neg hc]
            simp only [List.lookup_cons, hx]
            exact q
  exact key h
/-- the block's context is that of the block's text -/
theorem CxM.blk {scope : Scope} {own : List (Str × Nat)} (hX : CxM mc X k) (hb : blkC mc.N mc.sc scope own = true) (s : Shared) (H : Hp) (Ca : Addr) (cl : List (Str × Addr)) (fp : List Addr) :
    CxM { mc with sc := scope } (X.blk s H scope (compEnvC scope cl Ca X.env) fp) k := by
  have ok := blkOk_by hb
  refine ⟨hX.hN, hX.nd, fun x h => ?_, fun x k0 hk h => ?_, fun x h => ?_, fun x h => ?_, ok.kind, hX.calm, hX.room, hX.bn, hX.gc⟩
  · rcases h with h | h | h
    · exact .inl (lookup_relS_keep (sc := X.env.scope) (by simp) h)
    · exact .inr (.inl (lookup_relS_keep (sc := X.env.scope) (by simp) h))
    · rcases relS_free (sc := X.env.scope) h with q | q
      · exact .inr (.inl q)
      · exact .inr (.inr q)
  · exact lookup_relS_keep (sc := X.env.scope) hk h
  · exact relS_free (sc := X.env.scope) h
  · show (scope.names.lookup x == some .cell) = true
    rw [show scope.names.lookup x = some .cell from h]; rfl
theorem BlkOk.up {scope : Scope} {own : List (Str × Nat)} (hX : CxM mc X k) (hb : blkC mc.N mc.sc scope own = true) : BlkOk X.N X.env.scope scope own := by
  have ok := blkOk_by hb
  refine ⟨ok.kind, ok.uniq, fun p hp => by rw [hX.hN]; exact ok.ix p hp, fun y hy e => ?_, fun y hy e => by rw [hX.hN]; exact ok.own y hy e⟩
  rcases ok.free y hy e with q | q
  · exact .inl (hX.loc _ _ (by simp) q)
  · exact hX.fre _ q
/-! ### slots exchanged -/
theorem EnvOk.mix (e : EnvOk G ts H T ws g ρ σ) {g' : Md} {ρ' : Rho} {σ' : L2.St} (vs : List Nat) (lg : g'.length = g.length) (lr : ρ'.length = ρ.length) (ls : σ'.length = σ.length)
    (out : ∀ i, i ∉ vs → g'[i]? = g[i]? ∧ ρ'.getD i .non = ρ.getD i .non ∧ σ'[i]? = σ[i]?)
    (inn : ∀ i ∈ vs, ws.getD i [] = [] ∧ ∀ m, g'[i]? = some m → m = .x ∨ ∃ v, σ'[i]? = some (some v) ∧ Rt G H (uni T ws.flatten) m (ρ'.getD i .non) v []) : EnvOk G ts H T ws g' ρ' σ' := by
  refine ⟨by rw [lr, e.lr, lg], by rw [ls, e.ls, lg], by rw [e.lw, lg], e.nd, e.tt, e.dj, fun i m hm => ?_, e.tb⟩
  by_cases hi : i ∈ vs
  · obtain ⟨w0, h⟩ := inn i hi
    rw [w0]
    exact (h m hm).imp (fun q => ⟨q, rfl⟩) id
  · obtain ⟨h1, h2, h3⟩ := out i hi
    rw [h1] at hm
    rw [h2, h3]
    exact e.sl i m hm
def sets : List Nat → List V → L2.St → L2.St
  | i :: is, v :: vs, σ => sets is vs (σ.set i (some v))
  | _, _, σ => σ
theorem sets_len : ∀ {is : List Nat} {vs : List V} {σ : L2.St}, (sets is vs σ).length = σ.length
  | [], _, _ => rfl
  | _ :: _, [], _ => rfl
  | i :: is, v :: vs, σ => by unfold sets; rw [sets_len (is := is)]; simp
theorem sets_out : ∀ {is : List Nat} {vs : List V} {σ : L2.St} {j : Nat}, j ∉ is → (sets is vs σ)[j]? = σ[j]?
  | [], _, _, _, _ => rfl
  | _ :: _, [], _, _, _ => rfl
  | i :: is, v :: vs, σ, j, h => by
    simp only [List.mem_cons, not_or] at h
    unfold sets
    rw [sets_out (is := is) h.2, List.getElem?_set_ne fun e => h.1 e.symm]
/-- names in a row -/
theorem many_ok : ∀ {is : List Nat} {m : M} {ds : List D} {vs : List V} {w : List Addr} {ρ ρ' : Rho} {g g' : Md} {σ : L2.St}, RpT G H N B true m ds vs w → w = [] → setMany is ds ρ = some ρ' → setManyM is m g = some g' → is.Nodup → (∀ i ∈ is, i < g.length ∧ i < ρ.length ∧ i < σ.length) →
    vs.length = is.length ∧ g'.length = g.length ∧ ρ'.length = ρ.length ∧ (∀ i, i ∉ is → g'[i]? = g[i]? ∧ ρ'.getD i .non = ρ.getD i .non) ∧ ∀ i ∈ is, ∃ m0 v, g'[i]? = some m0 ∧ (sets is vs σ)[i]? = some (some v) ∧ Rp G H N B true m0 (ρ'.getD i .non) v []
  | [], _, _, _, _, ρ, ρ', g, g', σ, h, hw, h1, h2, _, _ => by
    cases h with
    | nil =>
      simp only [setMany, setManyM] at h1 h2
      cases h1; cases h2
      exact ⟨rfl, rfl, rfl, fun i _ => ⟨rfl, rfl⟩, fun i hi => nomatch hi⟩
    | cons => simp only [setMany] at h1; cases h1
  | i :: is, _, _, _, _, ρ, ρ', g, g', σ, h, hw, h1, h2, nd, lt => by
    cases h with
    | nil => simp only [setMany] at h1; cases h1
    | @cons _ m r d ds v vs wa wb hd ht =>
      rw [List.append_eq_nil_iff] at hw
      obtain ⟨e1, e2⟩ := hw
      subst e1 e2
      simp only [setMany, setManyM] at h1 h2
      split at h2
      · cases h2
      · rw [List.nodup_cons] at nd
        have lt' : ∀ j ∈ is, j < (g.set i m).length ∧ j < (ρ.set i d).length ∧ j < (σ.set i (some v)).length := fun j hj => by
          have := lt j (List.mem_cons_of_mem _ hj)
          simpa using this
        obtain ⟨l1, l2, l3, o, n⟩ := many_ok (σ := σ.set i (some v)) ht rfl h1 h2 nd.2 lt'
        obtain ⟨b1, b2, b3⟩ := lt i List.mem_cons_self
        refine ⟨by simp [l1], by simpa using l2, by simpa using l3, fun j hj => ?_, fun j hj => ?_⟩
        · simp only [List.mem_cons, not_or] at hj
          obtain ⟨o1, o2⟩ := o j hj.2
          rw [o1, o2, List.getElem?_set_ne fun e => hj.1 e.symm, getD_set_ne fun e => hj.1 e.symm]
          exact ⟨rfl, rfl⟩
        · by_cases hji : j = i
          · subst hji
            obtain ⟨o1, o2⟩ := o j nd.1
            refine ⟨m, v, ?_, ?_, ?_⟩
            · rw [o1, List.getElem?_set_self b1]
            · unfold sets
              rw [sets_out nd.1, List.getElem?_set_self b3]
            · rw [o2, getD_set_eq b2]; exact hd
          · exact n j ((List.mem_cons.mp hj).resolve_left hji)
theorem manyZ_ok : ∀ {is : List Nat} {g : Md}, setManyM is (chain (is.map fun _ => M.z)) g = some (setManyZ is g)
  | [], g => rfl
  | i :: is, g => by
    show (if (M.isW .z && decide (M.z = .x)) = true then none else setManyM is (chain (is.map fun _ => M.z)) (g.set i .z)) = some (setManyZ is (g.set i .z))
    rw [if_neg (by simp [M.isW])]
    exact manyZ_ok
theorem FzA.chainz : ∀ {is : List Nat} {ds : List D} {vs : List V}, FzA G H N ds vs → ds.length = is.length → RpT G H N B true (chain (is.map fun _ => M.z)) ds vs []
  | [], _, _, .nil, _ => .nil
  | [], _, _, .cons _ _, h => by simp at h
  | i :: is, _, _, .nil, h => by simp at h
  | i :: is, _, _, .cons h t, hl => RpT.cons (w1 := []) (w2 := []) (.z h) (FzA.chainz t (by simpa using hl))
theorem setMany_len : ∀ {is : List Nat} {ds : List D} {ρ ρ' : Rho}, setMany is ds ρ = some ρ' → ds.length = is.length
  | [], [], _, _, _ => rfl
  | [], _ :: _, _, _, h => by simp only [setMany] at h; cases h
  | _ :: _, [], _, _, h => by simp only [setMany] at h; cases h
  | i :: is, d :: ds, ρ, ρ', h => by
    simp only [setMany] at h
    simp [setMany_len h]
theorem RpT.chain {o : Bool} {m : M} {ds : List D} {vs : List V} {w : List Addr} (h : RpT G H N B o m ds vs w) : isChain m = true := by
  refine RpT.rec (motive_1 := fun o m d v w _ => True) (motive_2 := fun o m ds vs w _ => True) (motive_3 := fun o m ds vs w _ => isChain m = true) ?_ ?_ ?_ ?_ ?_ ?_ ?_ ?_ ?_ ?_ h
  all_goals (intros; first | trivial | rfl | assumption)
theorem chain_many {is : List Nat} {m : M} {g : Md} (h : isChain m = true) : setTgM (.many is) m g = setManyM is m g := by
  cases m <;> first | (cases h; done) | rfl
/-! ### the readings of targets -/
def gNs : List Nat → TGs
  | [] => gNil
  | i :: is => gCons (gName i) (gNs is)
def tgG (K : PySem.W.Frag) : Tg → TG
  | .one i => gName i
  | .many is => gTup K is.length (gNs is)
theorem gNs_ok : ∀ {is : List Nat} {xs : List V} {σ : L2.St} {H : Hp} {Q : L2.St → Hp → Prop}, xs.length = is.length → Q (sets is xs σ) H → gNs is xs σ H Q
  | [], [], _, _, _, _, h => ⟨rfl, h⟩
  | [], _ :: _, _, _, _, e, _ => by simp at e
  | _ :: _, [], _, _, _, e, _ => by simp at e
  | i :: is, x :: xs, σ, H, Q, e, h => ⟨x, xs, rfl, gNs_ok (is := is) (by simpa using e) h⟩
theorem okS_ok {i : Nat} {x : Str} (hX : CxM mc X k) (h : okS mc i x = true) : X.N[i]? = some x ∧ Loc X.env.scope x ∧ (X.fn x = true ∨ X.env.scope.names.lookup x = some .local) := by
  unfold okS locB at h
  simp only [Bool.and_eq_true, decide_eq_true_eq] at h
  obtain ⟨h1, h2⟩ := h
  rw [hX.hN]
  split at h2
  · rename_i e
    have := hX.loc x .local (by simp) e
    exact ⟨h1, .inl this, .inr this⟩
  · rename_i e
    exact ⟨h1, .inr (hX.loc x .cell (by simp) e), .inl (hX.cel x e)⟩
  · cases h2
theorem pg_names (hX : CxM mc X k) : ∀ {is : List Nat} {es : List Expr}, matTs mc is es = true → PGs X es (gNs is) ∧ (assignEach es X.env).length = is.length ∧ (assignEach es X.env).findIdx? (·.1) = none
  | [], [], _ => ⟨pgs_nil, rfl, rfl⟩
  | [], _ :: _, h => by simp only [matTs] at h; cases h
  | _ :: _, [], h => by simp only [matTs] at h; cases h
  | i :: is, e :: es, h => by
    cases e <;> simp only [matTs] at h <;> try cases h
    rename_i x pos
    rw [Bool.and_eq_true] at h
    obtain ⟨h1, h2, h3⟩ := okS_ok hX h.1
    obtain ⟨p, l, f⟩ := pg_names hX h.2
    refine ⟨pgs_cons (pg_name (by rw [hX.hN]; exact hX.nd) h1 h2 h3) p rfl, ?_, ?_⟩
    · show ((false, assign (.Name x pos) X.env) :: assignEach es X.env).length = _
      simp [l]
    · show ((false, assign (.Name x pos) X.env) :: assignEach es X.env).findIdx? (·.1) = none
      rw [List.findIdx?_cons]
      simp [f]
theorem pg_tg (hX : CxM mc X k) {tg : Tg} {e : Expr} (h : matT mc tg e = true) : PG X e (tgG X.K tg) := by
  cases tg with
  | one i =>
    cases e <;> simp only [matT] at h <;> try cases h
    obtain ⟨h1, h2, h3⟩ := okS_ok hX h
    exact pg_name (by rw [hX.hN]; exact hX.nd) h1 h2 h3
  | many is =>
    cases e <;> simp only [matT] at h <;> try cases h
    obtain ⟨p, l, f⟩ := pg_names hX h
    exact pg_tup hX.calm p l f
/-- what a target's store leaves -/
def tgS : Tg → V → List V → L2.St → L2.St
  | .one i, v, _, σ => σ.set i (some v)
  | .many is, _, xs, σ => sets is xs σ
theorem wipe_out' {σ : L2.St} : ∀ {vs : List Nat} {i : Nat}, i ∉ vs → (wipe σ vs)[i]? = σ[i]?
  | [], _, _ => rfl
  | v :: vs, i, h => by
    simp only [List.mem_cons, not_or] at h
    show ((wipe σ vs).set v none)[i]? = _
    rw [List.getElem?_set_ne fun e => h.1 e.symm]
    exact wipe_out' h.2
theorem plain_ok {is : List Nat} (env : EnvOk G ts H T ws g ρ σ) (h : plainSl g is = true) : is.Nodup ∧ (∀ i ∈ is, i < g.length ∧ ws.getD i [] = []) := by
  unfold plainSl at h
  rw [Bool.and_eq_true, decide_eq_true_eq, List.all_eq_true] at h
  refine ⟨h.1, fun i hi => ?_⟩
  have := h.2 i hi
  rw [Bool.and_eq_true, decide_eq_true_eq] at this
  obtain ⟨h1, h2⟩ := this
  refine ⟨h1, ?_⟩
  have hg : g[i]? = some g[i] := List.getElem?_eq_getElem h1
  have e : g.getD i .x = g[i] := by rw [List.getD_eq_getElem?_getD, hg]; rfl
  rw [e] at h2
  rcases env.sl i g[i] hg with ⟨_, q⟩ | ⟨v, _, r⟩
  · exact q
  · revert h2 r
    generalize g[i] = m
    intro h2 r
    cases m with
    | z => exact r.z_nil
    | x => exact (Rp.x_no r).elim
    | w m => exact r.w_nil
    | _ => cases h2
/-- an item is stored: from the wiped names -/
theorem tg_ok {tg : Tg} {im : M} {x : D} {v : V} {ga : Md} {ρa : Rho} {H2 : Hp} {Q : L2.St → Hp → Prop} (env : EnvOk G ts H2 T ws g ρ σ) (hp : plainSl g tg.slots = true) (hm : setTgM tg im g = some ga) (hd : setTg tg x ρ = some ρa)
    (hv : Rt G H2 (uni T ws.flatten) im x v [] ∨ ∃ p xs ds, H2 p = some (.tup xs) ∧ v = .ref p ∧ x = .tup ds ∧ RpT G H2 (uni T ws.flatten).s (uni T ws.flatten).b true im ds xs [])
    (q : ∀ σ2, EnvOk G ts H2 T ws ga ρa σ2 → (∀ i, i ∉ tg.slots → σ2[i]? = σ[i]?) → σ2.length = σ.length → Q σ2 H2) : tgG G.K tg v (wipe σ tg.slots) H2 Q := by
  obtain ⟨nd, ow⟩ := plain_ok env hp
  cases tg with
  | one i =>
    have hi := ow i (by simp [Tg.slots])
    simp only [setTg] at hd
    cases hd
    have key : ∃ m0, ga = g.set i m0 ∧ Rt G H2 (uni T ws.flatten) m0 x v [] := by
      simp only [setTgM] at hm
      split at hm
      · split at hm
        · rename_i hch hz
          cases hm
          refine ⟨_, rfl, ?_⟩
          rcases hv with r | ⟨p, xs, ds, h1, rfl, rfl, r⟩
          · refine .z ?_
            cases r with
            | T h r => exact .tup h (r.allz hz).1
            | z h => cases hch
            | w => cases hch
          · exact .z (.tup (.of h1) (r.allz hz).1)
        · cases hm
      · rename_i hch
        split at hm
        · cases hm
        · cases hm
          refine ⟨_, rfl, ?_⟩
          rcases hv with r | ⟨p, xs, ds, h1, rfl, rfl, r⟩
          · exact r
          · exact absurd r.chain hch
    obtain ⟨m0, rfl, r⟩ := key
    refine q _ (env.mix [i] (by simp) (by simp) (by simp [wipe, wipe_length, Tg.slots]) (fun j hj => ?_) fun j hj => ?_) (fun j hj => ?_) (by simp [wipe, wipe_length, Tg.slots])
    · have hne : i ≠ j := fun e => hj (by simp [e])
      refine ⟨List.getElem?_set_ne hne, getD_set_ne hne, ?_⟩
      rw [List.getElem?_set_ne hne]
      exact wipe_out' (vs := [i]) hj
    · have e : j = i := by simpa using hj
      subst e
      refine ⟨hi.2, fun m hmj => .inr ⟨v, ?_, ?_⟩⟩
      · exact List.getElem?_set_self (by rw [wipe_length, env.ls]; exact hi.1)
      · rw [List.getElem?_set_self hi.1] at hmj
        cases hmj
        rw [getD_set_eq (by rw [env.lr]; exact hi.1)]
        exact r
    · have hne : i ≠ j := fun e => hj (by simp [e, Tg.slots])
      rw [List.getElem?_set_ne hne]
      exact wipe_out' (vs := [i]) hj
  | many is =>
    cases x <;> simp only [setTg] at hd <;> try cases hd
    rename_i ds
    have hlen := setMany_len hd
    have key : ∃ (m : M) (p : Addr) (xs : List V), v = .ref p ∧ SqT G.K H2 p xs ∧ RpT G H2 (uni T ws.flatten).s (uni T ws.flatten).b true m ds xs [] ∧ setManyM is m g = some ga := by
      rcases hv with r | ⟨p, xs, ds', h1, rfl, e, r⟩
      · cases r with
        | z h =>
          cases h with
          | tup hs hf =>
            simp only [setTgM] at hm
            cases hm
            exact ⟨_, _, _, rfl, hs, hf.chainz hlen, manyZ_ok⟩
        | T hs hr =>
          exact ⟨_, _, _, rfl, hs, hr, by rw [← chain_many hr.chain]; exact hm⟩
        | w =>
          exfalso
          cases is <;> (simp only [setTgM, setManyM] at hm; cases hm)
      · cases e
        exact ⟨_, _, _, rfl, .of h1, r, by rw [← chain_many r.chain]; exact hm⟩
    obtain ⟨m, p, xs, rfl, hs, r, hset⟩ := key
    have lt : ∀ i ∈ is, i < g.length ∧ i < ρ.length ∧ i < (wipe σ is).length := fun i hi => by
      have := ow i hi
      rw [wipe_length, env.lr, env.ls]
      exact ⟨this.1, this.1, this.1⟩
    obtain ⟨l1, l2, l3, o, n⟩ := many_ok (σ := wipe σ is) r rfl hd hset nd lt
    refine ⟨p, xs, rfl, hs, l1, gNs_ok l1 (q _ (env.mix is l2 l3 (by rw [sets_len, wipe_length]) (fun i hi => ?_) fun i hi => ?_) (fun i hi => ?_) (by rw [sets_len, wipe_length]))⟩
    · obtain ⟨o1, o2⟩ := o i hi
      exact ⟨o1, o2, by rw [sets_out hi]; exact wipe_out' hi⟩
    · obtain ⟨m0, v, n1, n2, n3⟩ := n i hi
      refine ⟨(ow i hi).2, fun m' hm' => .inr ⟨v, n2, ?_⟩⟩
      rw [n1] at hm'
      cases hm'
      exact n3
    · have hi' : i ∉ is := hi
      show (sets is xs (wipe σ is))[i]? = _
      rw [sets_out hi']
      exact wipe_out' hi'
end
end DI
end
section
set_option Elab.async false
set_option linter.all false
set_option maxRecDepth 100000
/-! Comprehensions. -/
namespace DI
open PySem PySem.Spec L2
section
variable {G : CT} {ts : List Addr} {H H' : Hp} {T T' : Tl} {ws ws' : List (List Addr)} {g : Md} {ρ : Rho} {σ : St}
variable {t : Tb} {C : Calls} {X : Cx} {mc : Mc} {k : Nat} {N B N' B' S : Sets} {F : FA}
theorem backM_out {g0 : Md} : ∀ {is : List Nat} {g : Md} {i : Nat}, i ∉ is → (backM g0 is g)[i]? = g[i]?
  | [], _, _, _ => rfl
  | j :: is, g, i, h => by
    simp only [List.mem_cons, not_or] at h
    unfold backM
    rw [backM_out (is := is) h.2, List.getElem?_set_ne fun e => h.1 e.symm]
theorem backM_len {g0 : Md} : ∀ {is : List Nat} {g : Md}, (backM g0 is g).length = g.length
  | [], _ => rfl
  | j :: is, g => by unfold backM; rw [backM_len (is := is)]; simp
theorem back_out {ρ0 : Rho} : ∀ {is : List Nat} {ρ : Rho} {i : Nat}, i ∉ is → (back ρ0 is ρ).getD i .non = ρ.getD i .non
  | [], _, _, _ => rfl
  | j :: is, ρ, i, h => by
    simp only [List.mem_cons, not_or] at h
    unfold back
    rw [back_out (is := is) h.2, getD_set_ne fun e => h.1 e.symm]
theorem back_len {ρ0 : Rho} : ∀ {is : List Nat} {ρ : Rho}, (back ρ0 is ρ).length = ρ.length
  | [], _ => rfl
  | j :: is, ρ => by unfold back; rw [back_len (is := is)]; simp
theorem back_in {ρ0 : Rho} : ∀ {is : List Nat} {ρ : Rho} {i : Nat}, i ∈ is → i < ρ.length → (back ρ0 is ρ).getD i .non = ρ0.getD i .non
  | [], _, _, h, _ => nomatch h
  | j :: is, ρ, i, h, hl => by
    unfold back
    by_cases hi : i ∈ is
    · exact back_in (is := is) hi (by simpa using hl)
    · rw [back_out hi]
      have e : i = j := (List.mem_cons.mp h).resolve_right hi
      subst e
      exact getD_set_eq hl
theorem wipe_in {σ : L2.St} : ∀ {vs : List Nat} {i : Nat}, i ∈ vs → i < σ.length → (wipe σ vs)[i]? = some none
  | [], _, h, _ => nomatch h
  | v :: vs, i, h, hl => by
    show ((wipe σ vs).set v none)[i]? = _
    by_cases e : v = i
    · subst e; exact List.getElem?_set_self (by rw [wipe_length]; exact hl)
    · rw [List.getElem?_set_ne e]
      exact wipe_in ((List.mem_cons.mp h).resolve_left fun q => e q.symm) hl
theorem wipe_eq {σ σ2 : L2.St} {vs : List Nat} (h : ∀ i, i ∉ vs → σ2[i]? = σ[i]?) (hl : σ2.length = σ.length) : wipe σ2 vs = wipe σ vs := by
  refine List.ext_getElem? fun i => ?_
  by_cases hi : i ∈ vs
  · by_cases hlt : i < σ.length
    · rw [wipe_in hi hlt, wipe_in hi (by rw [hl]; exact hlt)]
    · rw [List.getElem?_eq_none (by rw [wipe_length]; omega), List.getElem?_eq_none (by rw [wipe_length]; omega)]
  · rw [wipe_out' hi, wipe_out' hi, h i hi]
/-- the block's names have their values back -/
theorem EnvOk.restore {T0 T1 : Tl} {H0 H1 : Hp} {ws0 ws1 : List (List Addr)} {g0 g1 : Md} {ρ0 ρ1 : Rho} {σ σ2 : L2.St} {is : List Nat} (e0 : EnvOk G ts H0 T0 ws0 g0 ρ0 σ) (e1 : EnvOk G ts H1 T1 ws1 g1 ρ1 σ2) (st : Stp H0 ws0.flatten H1 ws1.flatten)
    (hT : ∀ a, H0 a ≠ none → T1 a → uni T0 ws0.flatten a) (hl : ∀ a, T0.l a → T1.l a) (p0 : plainSl g0 is = true) (p1 : plainSl g1 is = true) (hb : backM g0 is g1 = g0) (hs : ∀ i, i ∉ is → σ2[i]? = σ[i]?) (hsl : σ2.length = σ.length) :
    EnvOk G ts H1 T1 ws1 g0 (DI.back ρ0 is ρ1) σ := by
  have lg : g0.length = g1.length := by rw [← hb, backM_len]
  refine e1.mix is lg back_len hsl.symm (fun i hi => ⟨?_, back_out hi, (hs i hi).symm⟩) fun i hi => ⟨((plain_ok e1 p1).2 i hi).2, fun m hm => ?_⟩
  · rw [← hb, backM_out hi]
  · have hlt : i < ρ1.length := by rw [e1.lr, ← lg]; exact (List.getElem?_eq_some_iff.mp hm).1
    rw [back_in hi hlt]
    have w0 := ((plain_ok e0 p0).2 i hi).2
    rcases e0.sl i m hm with ⟨e, _⟩ | ⟨v, hv, r⟩
    · exact .inl e
    · rw [w0] at r
      refine .inr ⟨v, hv, Rt.next r st.kp (fun a z => ⟨.inr z, fun q => e0.dj a z (T0.h a q)⟩) (fun a ha z => ?_) (fun a z => nomatch z) hl⟩
      rcases z with z | z
      · exact hT a ha z
      · exact .inr ((st.sub a z).elim id fun q => absurd q ha)
/-- an item has come -/
theorem yld_ok {im : M} {x : D} {v : V} {H2 : Hp} (env : EnvOk G ts H T ws g ρ σ)
    (h : (H2 = H ∧ Rp G H (uni T ws.flatten).s (uni T ws.flatten).b true im x v []) ∨ ∃ p xs ds, H p = none ∧ H2 = upd H p (.tup xs) ∧ v = .ref p ∧ x = .tup ds ∧ RpT G H (uni T ws.flatten).s (uni T ws.flatten).b true im ds xs []) :
    EnvOk G ts H2 T ws g ρ σ ∧ Stp H ws.flatten H2 ws.flatten ∧ Kp H H2 (fun _ => False) ∧ (Rt G H2 (uni T ws.flatten) im x v [] ∨ ∃ p xs ds, H2 p = some (.tup xs) ∧ v = .ref p ∧ x = .tup ds ∧ RpT G H2 (uni T ws.flatten).s (uni T ws.flatten).b true im ds xs []) := by
  rcases h with ⟨rfl, r⟩ | ⟨p, xs, ds, hp, rfl, rfl, rfl, r⟩
  · exact ⟨env, Stp.refl, Kp.refl, .inl r⟩
  · refine ⟨env.grow (kp_new hp) (fun a z => trk_new a (env.tt a z)) (fun a z => .inl z) (tabs_new hp env.tb), stp_new hp, kp_new hp, .inr ⟨p, xs, ds, upd_same, rfl, rfl, ?_⟩⟩
    exact r.next (S := fun _ => False) (kp_new hp) ⟨fun a z => z.elim, fun a z => z.elim, fun a _ z => z, fun a _ z => z⟩ fun a z => nomatch z
theorem RpA.append : ∀ {o : Bool} {m : M} {ds es : List D} {vs us : List V} {w1 w2 : List Addr}, RpA G H N B o m ds vs w1 → RpA G H N B o m es us w2 → RpA G H N B o m (ds ++ es) (vs ++ us) (w1 ++ w2)
  | _, _, _, _, _, _, _, _, .nil, s => s
  | _, _, _, _, _, _, _, _, .cons h t, s => by
    rw [List.append_assoc]
    exact .cons h (t.append s)
theorem RpA.sets {m : M} {ds : List D} {vs : List V} {w : List Addr} (h : RpA G H N B true m ds vs w) (hn : ∀ a, H a ≠ none → N' a → N a) (hb : ∀ a, H a ≠ none → B' a → B a) : RpA G H N' B' true m ds vs w :=
  h.next (S := fun _ => False) Kp.refl ⟨fun _ z => z.elim, fun _ z => z.elim, hn, hb⟩ fun _ _ z => z
/-- the new list has grown so far -/
structure LcI (G : CT) (ts : List Addr) (H1 : Hp) (T : Tl) (ws1 : List (List Addr)) (g1 : Md) (σ : L2.St) (me : M) (D0 : Addr) (H : Hp) (ws : List (List Addr)) (ρ : Rho) (done : List D) (accs : List V) (wD : List Addr) : Prop where
  st : Stp H1 ws1.flatten H ((D0 :: wD) ++ ws.flatten)
  env : EnvOk G ts H (uni T (D0 :: wD)) ws g1 ρ σ
  at_ : H D0 = some (.lst accs)
  row : RpA G H (uni (uni T (D0 :: wD)) ws.flatten).s (uni (uni T (D0 :: wD)) ws.flatten).b true me done accs wD
  nd : (D0 :: wD).Nodup
  dj : ∀ a ∈ D0 :: wD, ¬ T a
/-- a step of the frame that leaves the new list alone -/
theorem LcI.step {H1 : Hp} {ws1 : List (List Addr)} {g1 : Md} {me : M} {D0 : Addr} {ws2 : List (List Addr)} {ρ2 : Rho} {done : List D} {accs : List V} {wD : List Addr} {H2 : Hp} (I : LcI G ts H1 T ws1 g1 σ me D0 H ws ρ done accs wD) (st : Stp H ws.flatten H2 ws2.flatten)
    (env : EnvOk G ts H2 (uni T (D0 :: wD)) ws2 g1 ρ2 σ) : LcI G ts H1 T ws1 g1 σ me D0 H2 ws2 ρ2 done accs wD where
  st := by
    have h := Stp.two I.st (w2 := []) (B2 := ws2.flatten) (by simpa using st)
    simpa using h
  env := env
  at_ := st.kp.keep _ _ I.at_ (fun ps z => by cases z) fun z => I.env.dj D0 z (.inr List.mem_cons_self)
  row := I.row.next st.kp ⟨fun a z => .inr z, fun a z => ⟨.inr z, fun q => I.env.dj a z (.inl (T.h a q))⟩, fun a ha z => z.imp id fun z => (st.sub a z).elim id fun q => absurd q ha, fun a ha z => ⟨z.1.imp id fun z => (st.sub a z).elim id fun q => absurd q ha, z.2⟩⟩ fun a ha z => I.env.dj a z (.inr (List.mem_cons_of_mem _ ha))
  nd := I.nd
  dj := I.dj
/-- one more -/
theorem LcI.push {H1 : Hp} {ws1 : List (List Addr)} {g1 : Md} {me : M} {D0 : Addr} {ws2 : List (List Addr)} {ρ2 : Rho} {done : List D} {accs : List V} {wD w : List Addr} {H2 : Hp} {y : D} {v : V} (hx : H1 D0 = none) (I : LcI G ts H1 T ws1 g1 σ me D0 H ws ρ done accs wD) (st : Stp H ws.flatten H2 (w ++ ws2.flatten))
    (env : EnvOk G ts H2 (uni (uni T (D0 :: wD)) w) ws2 g1 ρ2 σ) (r : Rt G H2 (uni (uni (uni T (D0 :: wD)) w) ws2.flatten) me y v w) (nd : w.Nodup) (dj : ∀ a ∈ w, ¬ uni T (D0 :: wD) a) :
    H2 D0 = some (.lst accs) ∧ LcI G ts H1 T ws1 g1 σ me D0 (upd H2 D0 (.lst (accs ++ [v]))) ws2 ρ2 (done ++ [y]) (accs ++ [v]) (wD ++ w) := by
  have h2 : H2 D0 = some (.lst accs) := st.kp.keep _ _ I.at_ (fun ps z => by cases z) fun z => I.env.dj D0 z (.inr List.mem_cons_self)
  refine ⟨h2, ?_⟩
  have kp : Kp H2 (upd H2 D0 (.lst (accs ++ [v]))) (· ∈ [D0]) := by
    refine ⟨fun a o e s n => ?_, fun a xs e => ?_, fun a o u e => ?_⟩
    · rw [upd_ne fun z => n (by simp [z])]; exact e
    · rw [upd_ne (ne_of e h2 (by simp))]; exact e
    · rw [upd_ne (ne_of e h2 (by simp))]; exact e
  have tr : ∀ a, H2 a ≠ none → upd H2 D0 (.lst (accs ++ [v])) a ≠ none := trk_new
  have inT : ∀ a, uni T (D0 :: (wD ++ w)) a ↔ uni (uni T (D0 :: wD)) w a := fun a => by
    show (T.s a ∨ a ∈ D0 :: (wD ++ w)) ↔ ((T.s a ∨ a ∈ D0 :: wD) ∨ a ∈ w)
    rw [← List.cons_append, List.mem_append, or_assoc]
  have Dw : D0 ∉ w := fun z => dj D0 z (.inr List.mem_cons_self)
  have dS : ∀ a, a ∈ [D0] → (uni (uni (uni T (D0 :: wD)) w) ws2.flatten).s a ∧ ¬ (uni (uni (uni T (D0 :: wD)) w) ws2.flatten).l a := fun a z => by
    rw [List.mem_singleton.mp z]
    exact ⟨.inl (.inl (.inr List.mem_cons_self)), fun q => I.dj D0 List.mem_cons_self (T.h _ q)⟩
  have hN2 : ∀ a, H a ≠ none → (uni (uni (uni T (D0 :: wD)) w) ws2.flatten).s a → (uni (uni T (D0 :: wD)) ws.flatten).s a := fun a ha z => by
    rcases z with (z | z) | z
    · exact .inl z
    · exact (st.sub a (List.mem_append_left _ z)).elim .inr fun q => absurd q ha
    · exact (st.sub a (List.mem_append_right _ z)).elim .inr fun q => absurd q ha
  have row2 := I.row.next (N' := (uni (uni (uni T (D0 :: wD)) w) ws2.flatten).s) (B' := (uni (uni (uni T (D0 :: wD)) w) ws2.flatten).b) st.kp ⟨fun a z => .inr z, fun a z => ⟨.inr z, fun q => I.env.dj a z (.inl (T.h a q))⟩, fun a ha z => hN2 a ha z, fun a ha z => ⟨hN2 a ha z.1, z.2⟩⟩ fun a ha z => I.env.dj a z (.inr (List.mem_cons_of_mem _ ha))
  · have nx : Nx H2 (· ∈ [D0]) (uni (uni (uni T (D0 :: wD)) w) ws2.flatten).s (uni (uni (uni T (D0 :: wD)) w) ws2.flatten).b (uni (uni T (D0 :: (wD ++ w))) ws2.flatten).s (uni (uni T (D0 :: (wD ++ w))) ws2.flatten).b :=
      ⟨fun a z => (dS a z).1, fun a z => dS a z, fun a _ z => z.imp (fun q => (inT a).mp q) id, fun a _ z => ⟨z.1.imp (fun q => (inT a).mp q) id, z.2⟩⟩
    have nD : D0 ∉ wD := (List.nodup_cons.mp I.nd).1
    refine ⟨?_, ?_, upd_same, ?_, ?_, fun a ha => ?_⟩
    · have h := Stp.two I.st st
      refine ⟨⟨fun a o e s n => ?_, fun a xs e => ?_, fun a o u e => ?_⟩, fun a ha => h.sub a ?_, fun a q => tr a (h.trk a q)⟩
      · rw [upd_ne (ne_of_none e hx)]; exact h.kp.keep a o e s n
      · rw [upd_ne (ne_of_none e hx)]; exact h.kp.tup a xs e
      · rw [upd_ne (ne_of_none e hx)]; exact h.kp.frz a o u e
      · rw [← List.cons_append, List.append_assoc] at ha; exact ha
    · refine env.pass kp dS (fun a ha z => ?_) tr (fun a ha => ?_) (fun a z => tr a (env.tt a ((inT a).mp z))) (fun a z => .inl (.inl ((inT a).mp z))) (fun a z q => env.dj a q ((inT a).mp z)) fun a z => z
      · rw [List.mem_singleton.mp z] at ha
        exact env.dj D0 ha (.inl (.inr List.mem_cons_self))
      · obtain ⟨ps, h1, h3⟩ := env.tb a ha
        exact ⟨ps, by rw [upd_ne (ne_of h1 h2 (by simp))]; exact h1, h3⟩
    · refine RpA.append (row2.next kp nx fun a ha z => nD (by rw [← List.mem_singleton.mp z]; exact ha)) ?_
      have r5 := Rp.next kp nx r fun a ha z => Dw (by rw [← List.mem_singleton.mp z]; exact ha)
      have := RpA.cons (w2 := []) r5 .nil
      rw [List.append_nil] at this
      exact this
    · rw [← List.cons_append]
      refine List.nodup_append.mpr ⟨I.nd, nd, fun a ha b hb e => ?_⟩
      subst e
      exact dj a hb (.inr ha)
    · rw [← List.cons_append] at ha
      rcases List.mem_append.mp ha with ha | ha
      · exact I.dj a ha
      · exact fun z => dj a ha (.inl z)
end
end DI
end
section
set_option Elab.async false
set_option linter.all false
set_option maxRecDepth 100000
/-! Comprehensions, part 2. -/
namespace DI
open PySem PySem.Spec L2
section
variable {G : CT} {ts : List Addr} {H H' : Hp} {T T' : Tl} {ws ws' : List (List Addr)} {g : Md} {ρ : Rho} {σ : St}
variable {t : Tb} {C : Calls} {X : Cx} {mc : Mc} {k : Nat} {N B N' B' S : Sets} {F : FA}
/-- one turn, in plain values -/
def turnD (C : Calls) (tg : Tg) (cond elt : E) (d : D) (ρ : Rho) : Option (Option D × Rho) := match setTg tg d ρ with
  | some ρa => match (if isCt cond then some (.bl true, ρa) else ev C cond ρa) with
    | some (.bl true, ρb) => match ev C elt ρb with
      | some (y, ρc) => some (some y, back ρ tg.slots ρc)
      | none => none
    | some (.bl false, ρb) => some (none, back ρ tg.slots ρb)
    | _ => none
  | none => none
/-- the clause's test -/
def tCond (t : Tb) (G : CT) (ts : List Addr) (C : Calls) (cond : E) : TT := if isCt cond then tYes else RT t G ts C cond
theorem isCt_eq {e : E} (h : isCt e = true) : e = .ct := by
  cases e <;> first | rfl | cases h
theorem cond_ok {cond : E} {m : M} {ga gb : Md} {b : Bool} {ρa ρb : Rho} {Q : Bool → Hp → Prop} (hc : ck t cond ga = some (m, gb)) (hf : m.fzb = true) (he : (if isCt cond then some (.bl true, ρa) else ev C cond ρa) = some (D.bl b, ρb)) (env : EnvOk G ts H T ws ga ρa σ)
    (q : ∀ H' ws', Stp H ws.flatten H' ws'.flatten → EnvOk G ts H' T ws' gb ρb σ → Q b H') : tCond t G ts C cond σ H Q := by
  unfold tCond
  by_cases h : isCt cond = true
  · rw [if_pos h] at he ⊢
    have e := isCt_eq h
    subst e
    simp only [ck] at hc
    cases hc
    cases he
    exact q H ws Stp.refl env
  · rw [if_neg h] at he ⊢
    exact ⟨T, ws, ga, ρa, m, gb, b, ρb, hc, hf, he, env, q⟩
/-- what the checker asks of one clause -/
structure ClOk (t : Tb) (tg : Tg) (cond elt : E) (im : M) (g1 : Md) (me : M) (ga gb gc : Md) (mcnd : M) : Prop where
  s : setTgM tg im g1 = some ga
  c : ck t cond ga = some (mcnd, gb)
  e : ck t elt gb = some (me, gc)
  p1 : plainSl g1 tg.slots = true
  p2 : plainSl gb tg.slots = true
  p3 : plainSl gc tg.slots = true
  f : mcnd.fzb = true
  b1 : backM g1 tg.slots gb = g1
  b2 : backM g1 tg.slots gc = g1
/-- a turn: the item is stored, tested, reckoned -/
theorem lc_turn {tg : Tg} {cond elt : E} {im me mcnd : M} {g1 ga gb gc : Md} {x : D} {v : V} {H1 H2 : Hp} {ws1 : List (List Addr)} {D0 : Addr} {done : List D} {accs : List V} {wD : List Addr} {r : Option D × Rho} {Nx : Hp → Prop} (ok : ClOk t tg cond elt im g1 me ga gb gc mcnd) (hD : H1 D0 = none)
    (I : LcI G ts H1 T ws1 g1 σ me D0 H ws ρ done accs wD) (hf : turnD C tg cond elt x ρ = some r) (hz : ∀ y ρ', r = (some y, ρ') → done.length < sizeLine)
    (hy : (H2 = H ∧ Rp G H (uni (uni T (D0 :: wD)) ws.flatten).s (uni (uni T (D0 :: wD)) ws.flatten).b true im x v []) ∨ ∃ p xs ds, H p = none ∧ H2 = upd H p (.tup xs) ∧ v = .ref p ∧ x = .tup ds ∧ RpT G H (uni (uni T (D0 :: wD)) ws.flatten).s (uni (uni T (D0 :: wD)) ws.flatten).b true im ds xs [])
    (n1 : ∀ y ρ', r = (some y, ρ') → ∀ H5 ws5 accs' wD', LcI G ts H1 T ws1 g1 σ me D0 H5 ws5 ρ' (done ++ [y]) accs' wD' → Nx H5)
    (n0 : ∀ ρ', r = (none, ρ') → ∀ H5 ws5 accs' wD', LcI G ts H1 T ws1 g1 σ me D0 H5 ws5 ρ' done accs' wD' → Nx H5) :
    tgG G.K tg v (wipe σ tg.slots) H2 fun σ2 H3 => wipe σ2 tg.slots = wipe σ tg.slots ∧ tCond t G ts C cond σ2 H3 fun b H4 => if b = true then RE t G ts C elt σ2 H4 fun y H5 => ∃ acc, H5 D0 = some (.lst acc) ∧ acc.length < sizeLine ∧ Nx (upd H5 D0 (.lst (acc ++ [y]))) else Nx H4 := by
  obtain ⟨env2, st2, kp2, hv⟩ := yld_ok I.env hy
  have I2 := I.step st2 env2
  unfold turnD at hf
  split at hf
  · rename_i ρa ha
    refine tg_ok env2 ok.p1 ok.s ha hv fun σ2 env3 hs hl => ⟨wipe_eq hs hl, ?_⟩
    have tT : ∀ {H4 : Hp} {ws4 : List (List Addr)}, Stp H2 ws.flatten H4 ws4.flatten → True := fun _ => trivial
    split at hf
    · rename_i ρb hb
      split at hf
      · rename_i y ρc hc
        cases hf
        refine cond_ok ok.c ok.f hb env3 fun H4 ws4 st4 env4 => ?_
        rw [if_pos rfl]
        refine ⟨_, ws4, gb, ρb, me, gc, y, ρc, ok.e, hc, env4, fun v5 H5 w5 ws5 st5 env5 r5 n5 d5 => ?_⟩
        have st25 : Stp H2 ws.flatten H5 (w5 ++ ws5.flatten) := Stp.trans st4 (fun x z => z) st5
        have envR : EnvOk G ts H5 (uni (uni T (D0 :: wD)) w5) ws5 g1 (DI.back ρ tg.slots ρc) σ :=
          env2.restore env5 st25.drop1 (fun a ha z => z.elim (fun z => .inl z) fun z => .inr ((st25.sub a (List.mem_append_left _ z)).elim id fun q => absurd q ha)) (fun a z => z) ok.p1 ok.p3 ok.b2 hs hl
        obtain ⟨h1, h2⟩ := I2.push hD st25 envR r5 n5 d5
        exact ⟨accs, h1, by rw [← I.row.length]; exact hz _ _ rfl, n1 y _ rfl _ _ _ _ h2⟩
      · cases hf
    · rename_i ρb hb
      cases hf
      refine cond_ok ok.c ok.f hb env3 fun H4 ws4 st4 env4 => ?_
      rw [if_neg Bool.false_ne_true]
      have envR : EnvOk G ts H4 (uni T (D0 :: wD)) ws4 g1 (DI.back ρ tg.slots ρb) σ :=
        env2.restore env4 st4 (fun a ha z => .inl z) (fun a z => z) ok.p1 ok.p2 ok.b1 hs hl
      exact n0 _ rfl _ _ _ _ (I2.step st4 envR)
    · cases hf
  · cases hf
theorem loopC_turn {tg : Tg} {cond elt : E} {items : List D} {ρ1 : Rho} : loopC (fun d ρ => match setTg tg d ρ with
        | some ρa => match (if isCt cond then some (.bl true, ρa) else ev C cond ρa) with
          | some (.bl true, ρb) => match ev C elt ρb with
            | some (y, ρc) => some (some y, back ρ tg.slots ρc)
            | none => none
          | some (.bl false, ρb) => some (none, back ρ tg.slots ρb)
          | _ => none
        | none => none) items ρ1 = loopC (turnD C tg cond elt) items ρ1 := rfl
theorem comp_parts {tg : Tg} {src cond elt : E} {m : M} {g' : Md} {d : D} {ρ' : Rho} (hc : ck t (.comp tg src cond elt) g = some (m, g')) (he : ev C (.comp tg src cond elt) ρ = some (d, ρ')) :
    ∃ im me mcnd ga gb gc items ρ1 ys, ck t src g = some (im, g') ∧ ClOk t tg cond elt im g' me ga gb gc mcnd ∧ m = .L me ∧ me.pl = true ∧ ev C src ρ = some (.lst items, ρ1) ∧ loopC (turnD C tg cond elt) items ρ1 = some (ys, ρ') ∧ lenOk ys.length = true ∧ d = .lst ys := by
  simp only [ck, ev] at hc he
  split at hc
  · rename_i im g1 e1
    split at hc
    · rename_i ga e2
      split at hc
      · rename_i mcnd gb e3
        split at hc
        · rename_i me gc e4
          split at hc
          · rename_i f
            cases hc
            simp only [Bool.and_eq_true, decide_eq_true_eq] at f
            obtain ⟨f1, f2, f3, f4, f5, f6, f7⟩ := f
            split at he
            · rename_i items ρ1 e5
              split at he
              · rename_i ys ρ2 e6
                split at he
                · rename_i hl
                  cases he
                  exact ⟨im, me, mcnd, ga, gb, gc, items, ρ1, ys, e1, ⟨e2, e3, e4, f1, f2, f3, f4, f6, f7⟩, rfl, f5, e5, e6, hl, rfl⟩
                · cases he
              · cases he
            · cases he
          · cases hc
        · cases hc
      · cases hc
    · cases hc
  · cases hc
theorem blk_own {is : List Nat} (h : ∀ i ∈ is, ∃ x, mc.N[i]? = some x) : (ownOf mc is).map (·.2) = is := by
  induction is with
  | nil => rfl
  | cons i is ih =>
    obtain ⟨x, hx⟩ := h i List.mem_cons_self
    unfold ownOf at ih ⊢
    rw [List.filterMap_cons, hx]
    simp only [Option.map_some, List.map_cons]
    rw [ih fun j hj => h j (List.mem_cons_of_mem _ hj)]
/-- [elt for target in source if test] -/
theorem comp_run {tg : Tg} {src cond elt : E} (hK : X.K = G.K) {Q : VK} (h : RE t G ts C (.comp tg src cond elt) σ H Q) : tLc (RS t G ts C src) (tgG X.K tg) (tCond t G ts C cond) (RE t G ts C elt) tg.slots σ H Q := by
  obtain ⟨T, ws, g, ρ, m, g', d, ρ', hc, he, env, p⟩ := h
  obtain ⟨im, me, mcnd, ga, gb, gc, items, ρ1, ys, e1, ok, rfl, hpl, e5, e6, hl, rfl⟩ := comp_parts hc he
  refine ⟨T, ws, g, ρ, im, g', items, ρ1, e1, e5, env, fun J H1 ws1 st1 env1 so D0 hD => ?_⟩
  have line := Nat.le_trans (lenOk_le hl) line6
  refine ⟨fun i n Hi => n = items.length - i ∧ i ≤ items.length ∧ ∃ ws_i ρ_i done rest accs wD, ys = done ++ rest ∧ loopC (turnD C tg cond elt) (items.drop i) ρ_i = some (rest, ρ') ∧ LcI G ts H1 T ws1 g' σ me D0 Hi ws_i ρ_i done accs wD, ⟨items.length, ?_⟩, ?_⟩
  · refine ⟨by simp, Nat.zero_le _, ws1, ρ1, [], ys, [], [], rfl, by simpa using e6, ?_⟩
    refine ⟨(stp_new hD (B := ws1.flatten)).more fun x z => .inr (by rw [List.mem_singleton.mp z]; exact hD), ?_, upd_same, .nil, by simp, fun a ha z => ?_⟩
    · refine env1.grow (kp_new hD) (fun a z => z.elim (fun z => trk_new a (env1.tt a z)) fun z => by rw [List.mem_singleton.mp z, upd_same]; simp) (fun a z => z.imp id fun z => by rw [List.mem_singleton.mp z]; exact hD) (tabs_new hD env1.tb)
    · rw [List.mem_singleton.mp ha] at z
      exact env1.tt D0 z hD
  · rintro i n Hi ⟨rfl, hi, ws_i, ρ_i, done, rest, accs, wD, hys, hlp, I⟩
    have hnx : Nx H1 (· ∈ ws1.flatten) (uni T ws1.flatten).s (uni T ws1.flatten).b (uni (uni T (D0 :: wD)) ws_i.flatten).s (uni (uni T (D0 :: wD)) ws_i.flatten).b := by
      have hn : ∀ a, H1 a ≠ none → (uni (uni T (D0 :: wD)) ws_i.flatten).s a → (uni T ws1.flatten).s a := fun a ha z => by
        rcases z with (z | z) | z
        · exact .inl z
        · exact .inr ((I.st.sub a (List.mem_append_left _ z)).elim id fun q => absurd q ha)
        · exact .inr ((I.st.sub a (List.mem_append_right _ z)).elim id fun q => absurd q ha)
      exact ⟨fun a z => .inr z, fun a z => ⟨.inr z, fun q => env1.dj a z (T.h a q)⟩, hn, fun a ha z => ⟨hn a ha z.1, z.2⟩⟩
    obtain ⟨hstop, hitem⟩ := so Hi _ _ _ I.st.kp hnx
    by_cases hlt : i < items.length
    · right
      have hget : items[i]? = some items[i] := List.getElem?_eq_getElem hlt
      obtain ⟨hgo, hyld⟩ := hitem i _ hget
      refine ⟨hgo, fun Hn => ∃ ws_i ρ_i done rest accs wD, ys = done ++ rest ∧ loopC (turnD C tg cond elt) (items.drop (i + 1)) ρ_i = some (rest, ρ') ∧ LcI G ts H1 T ws1 g' σ me D0 Hn ws_i ρ_i done accs wD, fun H' hN => ⟨items.length - (i + 1), by omega, rfl, hlt, hN⟩, fun v H2 hy => ?_⟩
      rw [List.drop_eq_getElem_cons hlt] at hlp
      unfold loopC at hlp
      rw [hK]
      cases hf : turnD C tg cond elt items[i] ρ_i with
      | none => rw [hf] at hlp; cases hlp
      | some r =>
        rw [hf] at hlp
        obtain ⟨o, ρn⟩ := r
        have hz' : ∀ y ρ0, (o, ρn) = (some y, ρ0) → done.length < sizeLine := fun y ρ0 e => by
          cases e
          simp only at hlp
          split at hlp
          · cases hlp
            have e2 := congrArg List.length hys
            rw [List.length_append, List.length_cons] at e2
            omega
          · cases hlp
        refine lc_turn ok hD I hf hz' (hyld v H2 hy) (fun y ρn' e H5 ws5 accs' wD' I5 => ?_) fun ρn' e H5 ws5 accs' wD' I5 => ?_
        · cases e
          simp only at hlp
          split at hlp
          · rename_i ys' ρx e7
            cases hlp
            exact ⟨ws5, _, done ++ [y], ys', accs', wD', by rw [hys]; simp, e7, I5⟩
          · cases hlp
        · cases e
          exact ⟨ws5, _, done, rest, accs', wD', hys, hlp, I5⟩
    · left
      have ei : i = items.length := by omega
      subst ei
      refine ⟨hstop, ?_⟩
      rw [List.drop_length] at hlp
      unfold loopC at hlp
      cases hlp
      have eys : ys = done := by rw [hys]; simp
      subst eys
      refine p (.ref D0) Hi (D0 :: wD) ws_i (Stp.trans st1 (fun x z => z) I.st) I.env ?_ I.nd I.dj
      exact Rp.L (w := wD) I.at_ (fun z => nomatch z) I.row
theorem tg_in {scope : Scope} {tg : Tg} {e : Expr} (h : matT { mc with sc := scope } tg e = true) : ∀ i ∈ tg.slots, ∃ x, mc.N[i]? = some x := by
  have many : ∀ {is : List Nat} {es : List Expr}, matTs { mc with sc := scope } is es = true → ∀ i ∈ is, ∃ x, mc.N[i]? = some x := by
    intro is
    induction is with
    | nil => intro es _ i hi; cases hi
    | cons j is ih =>
      intro es h i hi
      cases es with
      | nil => simp only [matTs] at h; cases h
      | cons e es =>
        cases e <;> simp only [matTs] at h <;> try cases h
        rw [Bool.and_eq_true] at h
        rcases List.mem_cons.mp hi with rfl | hi
        · have := h.1
          unfold okS at this
          rw [Bool.and_eq_true, decide_eq_true_eq] at this
          exact ⟨_, this.1⟩
        · exact ih h.2 i hi
  cases tg with
  | one i =>
    cases e <;> simp only [matT] at h <;> try cases h
    intro j hj
    have ej : j = i := by simpa [Tg.slots] using hj
    subst ej
    unfold okS at h
    rw [Bool.and_eq_true, decide_eq_true_eq] at h
    exact ⟨_, h.1⟩
  | many is =>
    cases e <;> simp only [matT] at h <;> try cases h
    exact many h
/-- what the parts of a block promise, in every run of it -/
structure BlkPs (t : Tb) (G : CT) (ts : List Addr) (C : Calls) (mc : Mc) (X : Cx) (scope : Scope) (tg : Tg) (te : Expr) (cond : E) (ifs : List Expr) (elt : E) (x : Expr) : Prop where
  pg : ∀ (s : Shared) (H : Hp) (Ca : Addr) (cl : List (Str × Addr)) (fp : List Addr), PG (X.blk s H scope (compEnvC scope cl Ca X.env) fp) te (tgG X.K tg)
  pt : ∀ (s : Shared) (H : Hp) (Ca : Addr) (cl : List (Str × Addr)) (fp : List Addr), PTs (X.blk s H scope (compEnvC scope cl Ca X.env) fp) ifs (tCond t G ts C cond)
  pe : ∀ (s : Shared) (H : Hp) (Ca : Addr) (cl : List (Str × Addr)) (fp : List Addr), PE (X.blk s H scope (compEnvC scope cl Ca X.env) fp) x (RE t G ts C elt)
theorem sd_comp {tg : Tg} {src cond elt : E} {te it x : Expr} {ifs : List Expr} {scope : Scope} {pos : Pos} (hX : CxM mc X k) (hK : X.K = G.K) (hb : blkC mc.N mc.sc scope (ownOf mc tg.slots) = true) (hT : matT { mc with sc := scope } tg te = true)
    (hs : PI X te it (RS t G ts C src)) (hp : BlkPs t G ts C mc X scope tg te cond ifs elt x) (hfold : ∀ v, foldedSetIterable it X.env v = pure v) : PE X (.ListComp x [⟨te, it, ifs, 0⟩] scope pos) (RE t G ts C (.comp tg src cond elt)) := by
  have ok : BlkOk X.N X.env.scope scope (ownOf mc tg.slots) := BlkOk.up hX hb
  have hN : X.N.Nodup := by rw [hX.hN]; exact hX.nd
  have h := pe_lc (pos := pos) hX.calm hN hs ok hp.pg hp.pt hp.pe hfold
  rw [blk_own (tg_in hT)] at h
  exact PE.of h fun σ H Q q => comp_run hK q
end
end DI
end
section
set_option Elab.async false
set_option linter.all false
set_option maxRecDepth 100000
/-! The induction over expressions. -/
namespace DI
open PySem PySem.Spec L2
section
variable {G : CT} {ts : List Addr} {H H' : Hp} {T T' : Tl} {ws ws' : List (List Addr)} {g : Md} {ρ : Rho} {σ : St}
variable {t : Tb} {C : Calls} {X : Cx} {mc : Mc} {k : Nat} {N B N' B' S : Sets} {F : FA}
theorem sd_purT {e : E} {x : Expr} (h : PT X x (RT t G ts C e)) : PT X x (RT t G ts C (.pur e)) := by
  refine PT.of h ?_
  rintro σ H Q ⟨T, ws, g, ρ, m, g', b, ρ', hc, hf, he, env, p⟩
  simp only [ck, ev] at hc he
  split at hc
  · rename_i m0 g0 e1
    split at hc
    · cases hc
      split at he
      · rename_i d0 ρ0 e2
        cases he
        refine ⟨lent T ws.flatten, _, bor g, ρ, m, g0, b, ρ0, e1, hf, e2, env.borrow, fun H' ws' st env' => ?_⟩
        rw [nil_flat] at st
        refine p H' ws ⟨st.kp.mono (fun a z => nomatch z), fun a ha => .inl ha, st.trk⟩ ((env.back (w := []) st env'.tb (fun a z => nomatch z) (fun a z => nomatch z) fun a z => nomatch z).less fun a z => .inl z)
      · cases he
    · cases hc
  · cases hc
/-- all that a context has -/
structure Ctx (t : Tb) (mc : Mc) (G : CT) (ts : List Addr) (C : Calls) (F : FA) (X : Cx) (k : Nat) : Prop where
  cx : CxM mc X (k + 1)
  K : X.K = G.K
  g : GOk t mc G
  f : FnX t mc G ts C F X k
theorem Ctx.room (c : Ctx t mc G ts C F X k) : Room (k + 1) X.A := c.cx.room
theorem Ctx.room0 (c : Ctx t mc G ts C F X k) : Room k X.A := c.cx.room.mono (Nat.le_succ k)
theorem Ctx.units (c : Ctx t mc G ts C F X k) : X.A.units + 65 < cLine := by have := c.cx.room.un; omega
theorem Ctx.blk {scope : Scope} {own : List (Str × Nat)} (c : Ctx t mc G ts C F X k) (hb : blkC mc.N mc.sc scope own = true) (s : Shared) (H : Hp) (Ca : Addr) (cl : List (Str × Addr)) (fp : List Addr) :
    Ctx t { mc with sc := scope } G ts C F (X.blk s H scope (compEnvC scope cl Ca X.env) fp) k where
  cx := c.cx.blk hb s H Ca cl fp
  K := c.K
  g := ⟨c.g.cf, c.g.mcf, c.g.pl, c.g.cls, c.g.nd, c.g.rp⟩
  f := ⟨c.f.fn, c.f.gl, c.f.me, c.f.sg, c.f.ma⟩
/-- tested as its value is -/
def plainT : Expr → Bool
  | .BoolOp .. => false
  | .UnaryOp .Not _ _ => false
  | .Compare .. => false
  | .IfExp .. => false
  | .NamedExpr .. => false
  | _ => true
end
end DI
end
section
set_option Elab.async false
set_option linter.all false
set_option maxRecDepth 100000
/-! The induction over expressions, part 2. -/
namespace DI
open PySem PySem.Spec L2
section
variable {G : CT} {ts : List Addr} {H H' : Hp} {T T' : Tl} {ws ws' : List (List Addr)} {g : Md} {ρ : Rho} {σ : St}
variable {t : Tb} {C : Calls} {X : Cx} {mc : Mc} {k : Nat} {N B N' B' S : Sets} {F : FA}
theorem PW.of {x : Expr} {u u' : TT} (h : PW X x u) (k : ∀ σ H Q, u' σ H Q → u σ H Q) : PW X x u' := ⟨fun wh pins s σ H Q I q => h.run wh pins s σ H Q I (k σ H Q q)⟩
theorem pur_test {e : E} {σ : L2.St} {H : Hp} {Q : Bool → Hp → Prop} (h : RT t G ts C (.pur e) σ H Q) : RT t G ts C e σ H Q := by
  obtain ⟨T, ws, g, ρ, m, g', b, ρ', hc, hf, he, env, p⟩ := h
  simp only [ck, ev] at hc he
  split at hc
  · rename_i m0 g0 e1
    split at hc
    · cases hc
      split at he
      · rename_i d0 ρ0 e2
        cases he
        refine ⟨lent T ws.flatten, _, bor g, ρ, m, g0, b, ρ0, e1, hf, e2, env.borrow, fun H' ws' st env' => ?_⟩
        rw [nil_flat] at st
        refine p H' ws ⟨st.kp.mono (fun a z => nomatch z), fun a ha => .inl ha, st.trk⟩ ((env.back (w := []) st env'.tb (fun a z => nomatch z) (fun a z => nomatch z) fun a z => nomatch z).less fun a z => .inl z)
      · cases he
    · cases hc
  · cases hc
def isBo : Expr → Bool
  | .BoolOp .. => true
  | _ => false
def isArg : E → Bool
  | .a0 => true
  | .aE _ _ => true
  | .aS _ _ => true
  | .aio _ _ => true
  | .abw _ _ => true
  | _ => false
def isSrc : E → Bool
  | .sq _ => true
  | .rg1 _ => true
  | .rg2 _ _ => true
  | .rg3 _ _ _ => true
  | .en _ => true
  | .zp _ _ => true
  | _ => false
/-- what is shown of an expression's text -/
structure PX (t : Tb) (G : CT) (ts : List Addr) (C : Calls) (X : Cx) (e : E) (x : Expr) : Prop where
  pe : PE X x (RE t G ts C e)
  pt : PT X x (RT t G ts C e)
  pw : isBo x = true → PW X x (RT t G ts C e)
structure PL (t : Tb) (G : CT) (ts : List Addr) (C : Calls) (X : Cx) (e : E) (es : List Expr) : Prop where
  pa : PA X es (RA t G ts C e)
  pc : ∀ ps, PA X es (RC t G ts C e ps)
def OkE (t : Tb) (G : CT) (ts : List Addr) (C : Calls) (F : FA) (k : Nat) (e : E) : Prop :=
  ∀ {mc : Mc} {X : Cx}, Ctx t mc G ts C F X k → (∀ x, mat mc e x = true → PX t G ts C X e x) ∧ (∀ es, matL mc e es = true → PL t G ts C X e es) ∧ ∀ tg x, matS mc e x = true → srcT e tg = true → PI X tg x (RS t G ts C e)
theorem noL {e : E} (h : isArg e = false) {es : List Expr} : matL mc e es = true → False := by
  cases e <;> first | (cases h; done) | (cases es <;> (intro q; simp only [matL] at q; cases q))
theorem noS {e : E} (h : isSrc e = false) {x : Expr} : matS mc e x = true → False := by
  cases e <;> first | (cases h; done) | (intro q; simp only [matS] at q; cases q)
/-- an expression that is tested as its value is -/
theorem PX.val {e : E} {x : Expr} (h : PE X x (RE t G ts C e)) (hp : plainT x = true) : PX t G ts C X e x := by
  refine ⟨h, PT.ofV h ?_, fun z => ?_⟩
  · cases x <;> first | (intro wh; rfl) | (cases hp; done) | skip
    rename_i op x p
    cases op <;> first | (intro wh; rfl) | (cases hp; done)
  · cases x <;> first | (cases z; done) | (cases hp; done)
theorem OkE.x {e : E} (h1 : isArg e = false) (h2 : isSrc e = false) (h : ∀ {mc : Mc} {X : Cx}, Ctx t mc G ts C F X k → ∀ x, mat mc e x = true → PX t G ts C X e x) : OkE t G ts C F k e :=
  fun c => ⟨fun x hm => h c x hm, fun es hm => (noL h1 hm).elim, fun tg x hm _ => (noS h2 hm).elim⟩
/-! ### leaves -/
theorem oke_var {i : Nat} : OkE t G ts C F k (.var i) := OkE.x rfl rfl fun c x hm => by
  cases x <;> simp only [mat] at hm <;> try cases hm
  exact .val (sd_var c.cx hm) rfl
theorem oke_mv {i : Nat} : OkE t G ts C F k (.mv i) := OkE.x rfl rfl fun c x hm => by
  cases x <;> simp only [mat] at hm <;> try cases hm
  exact .val (sd_mv c.cx hm) rfl
theorem oke_fz {i : Nat} : OkE t G ts C F k (.fz i) := OkE.x rfl rfl fun c x hm => by
  cases x <;> simp only [mat] at hm <;> try cases hm
  exact .val (sd_fz c.cx hm) rfl
theorem oke_ci {i : Int} : OkE t G ts C F k (.ci i) := OkE.x rfl rfl fun c x hm => by
  cases x with
  | Constant v j p =>
    cases v with
    | int n =>
      simp only [mat, decide_eq_true_eq] at hm
      subst hm
      exact .val (sd_const (v := .int i) (d := .int i) pe_int (fun _ => rfl) (fun _ => rfl) fun _ _ => .int i) rfl
    | _ => exact absurd hm (by simp [mat])
  | _ => exact absurd hm (by simp [mat])
theorem oke_cs {i : Str} : OkE t G ts C F k (.cs i) := OkE.x rfl rfl fun c x hm => by
  cases x with
  | Constant v j p =>
    cases v with
    | str n =>
      simp only [mat, decide_eq_true_eq] at hm
      subst hm
      exact .val (sd_const (v := .str i) (d := .str i) pe_str (fun _ => rfl) (fun _ => rfl) fun _ _ => .str i) rfl
    | _ => exact absurd hm (by simp [mat])
  | _ => exact absurd hm (by simp [mat])
theorem oke_cb {i : Bool} : OkE t G ts C F k (.cb i) := OkE.x rfl rfl fun c x hm => by
  cases x with
  | Constant v j p =>
    cases v with
    | bool n =>
      simp only [mat, decide_eq_true_eq] at hm
      subst hm
      exact .val (sd_const (v := .bl i) (d := .bl i) pe_bl (fun _ => rfl) (fun _ => rfl) fun _ _ => .bl i) rfl
    | _ => exact absurd hm (by simp [mat])
  | _ => exact absurd hm (by simp [mat])
theorem oke_cn : OkE t G ts C F k .cn := OkE.x rfl rfl fun c x hm => by
  cases x with
  | Constant v j p =>
    cases v with
    | none => exact .val (sd_const (v := .non) (d := .non) pe_non (fun _ => rfl) (fun _ => rfl) fun _ _ => .non) rfl
    | _ => exact absurd hm (by simp [mat])
  | _ => exact absurd hm (by simp [mat])
/-! ### operators -/
theorem oke_o2 {o : O2} {a b : E} (ha : OkE t G ts C F k a) (hb : OkE t G ts C F k b) : OkE t G ts C F k (.o2 o a b) := OkE.x rfl rfl fun c x hm => by
  cases x with
  | BinOp l op r p =>
    simp only [mat, Bool.and_eq_true, decide_eq_true_eq] at hm
    obtain ⟨rfl, h1, h2⟩ := hm
    exact .val (sd_o2 c.K ((ha c).1 l h1).pe ((hb c).1 r h2).pe) rfl
  | _ => exact absurd hm (by simp [mat])
theorem oke_neg {a : E} (ha : OkE t G ts C F k a) : OkE t G ts C F k (.neg a) := OkE.x rfl rfl fun c x hm => by
  cases x with
  | UnaryOp op e p =>
    cases op with
    | USub =>
      simp only [mat] at hm
      exact .val (sd_neg ((ha c).1 e hm).pe) rfl
    | _ => exact absurd hm (by simp [mat])
  | _ => exact absurd hm (by simp [mat])
theorem oke_nt {a : E} (ha : OkE t G ts C F k a) : OkE t G ts C F k (.nt a) := OkE.x rfl rfl fun c x hm => by
  cases x with
  | UnaryOp op e p =>
    cases op with
    | Not =>
      simp only [mat] at hm
      exact ⟨sd_nt ((ha c).1 e hm).pe, sd_ntT ((ha c).1 e hm).pt, fun z => nomatch z⟩
    | _ => exact absurd hm (by simp [mat])
  | _ => exact absurd hm (by simp [mat])
theorem oke_pur {a : E} (ha : OkE t G ts C F k a) : OkE t G ts C F k (.pur a) := OkE.x rfl rfl fun c x hm => by
  simp only [mat] at hm
  have h := (ha c).1 x hm
  exact ⟨sd_pur c.g h.pe, sd_purT h.pt, fun z => PW.of (h.pw z) fun σ H Q q => pur_test q⟩
theorem pt_iteT {x y z : Expr} {p : Pos} {tc ta tb : TT} (hc : PT X x tc) (ha : PT X y ta) (hb : PT X z tb) : PT X (.IfExp x y z p) fun σ H Q => tc σ H fun b H1 => if b = true then ta σ H1 Q else tb σ H1 Q := by
  refine ⟨fun pins s σ H Q I h => ?_⟩
  show wpAny _ _ (isTrue x X.env (eval x X.env) >>= fun b => if b = true then isTrue y X.env (eval y X.env) else isTrue z X.env (eval z X.env)) _ _ s
  refine wpAny_bind (thn (hc.run pins s σ H _ I h) fun b s1 ⟨H1, I1, q1⟩ => ?_)
  cases b with
  | true => exact ha.run pins s1 σ H1 Q I1 q1
  | false => exact hb.run pins s1 σ H1 Q I1 q1
theorem sd_iteT {c a b : E} {x y z : Expr} {pos : Pos} (hc0 : PT X x (RT t G ts C c)) (ha : PT X y (RT t G ts C a)) (hb : PT X z (RT t G ts C b)) : PT X (.IfExp x y z pos) (RT t G ts C (.ite c a b)) := by
  refine PT.of (pt_iteT hc0 ha hb) ?_
  rintro σ H Q ⟨T, ws, g, ρ, m, g', bb, ρ', hc, hf, he, env, p⟩
  simp only [ck, ev] at hc he
  split at hc
  · rename_i mc g1 e1
    split at hc
    · rename_i ma g2 e2
      split at hc
      · rename_i mb g3 e3
        split at hc
        · rename_i f
          simp only [Bool.and_eq_true, decide_eq_true_eq] at f
          obtain ⟨f1, rfl⟩ := f
          have gm : g' = g3 ∧ ma.fzb = true ∧ mb.fzb = true := by
            split at hc
            · rename_i e; cases hc; exact ⟨rfl, hf, by rw [← e]; exact hf⟩
            · split at hc
              · rename_i f2
                cases hc
                rw [Bool.and_eq_true] at f2
                exact ⟨rfl, f2.1, f2.2⟩
              · cases hc
          obtain ⟨rfl, k1, k2⟩ := gm
          split at he
          · rename_i ρ1 e4
            refine ⟨T, ws, g, ρ, mc, g1, true, ρ1, e1, f1, e4, env, fun H1 ws1 st env1 => ?_⟩
            show (if true = true then RT t G ts C a σ H1 Q else RT t G ts C b σ H1 Q)
            rw [if_pos rfl]
            exact ⟨T, ws1, g1, ρ1, ma, g', bb, ρ', e2, k1, he, env1, fun H2 ws2 st2 env2 => p H2 ws2 (Stp.trans st (fun x z => z) st2) env2⟩
          · rename_i ρ1 e4
            refine ⟨T, ws, g, ρ, mc, g1, false, ρ1, e1, f1, e4, env, fun H1 ws1 st env1 => ?_⟩
            show (if false = true then RT t G ts C a σ H1 Q else RT t G ts C b σ H1 Q)
            rw [if_neg Bool.false_ne_true]
            exact ⟨T, ws1, g1, ρ1, mb, g', bb, ρ', e3, k2, he, env1, fun H2 ws2 st2 env2 => p H2 ws2 (Stp.trans st (fun x z => z) st2) env2⟩
          · cases he
        · cases hc
      · cases hc
    · cases hc
  · cases hc
theorem oke_ite {a b d : E} (ha : OkE t G ts C F k a) (hb : OkE t G ts C F k b) (hd : OkE t G ts C F k d) : OkE t G ts C F k (.ite a b d) := OkE.x rfl rfl fun c x hm => by
  cases x with
  | IfExp x y z p =>
    simp only [mat, Bool.and_eq_true] at hm
    obtain ⟨h1, h2, h3⟩ := hm
    exact ⟨sd_ite ((ha c).1 x h1).pt ((hb c).1 y h2).pe ((hd c).1 z h3).pe, sd_iteT ((ha c).1 x h1).pt ((hb c).1 y h2).pt ((hd c).1 z h3).pt, fun z => nomatch z⟩
  | _ => exact absurd hm (by simp [mat])
theorem oke_cp {o : Cp} {a b : E} (ha : OkE t G ts C F k a) (hb : OkE t G ts C F k b) : OkE t G ts C F k (.cp o a b) := OkE.x rfl rfl fun c x hm => by
  cases x with
  | Compare l ops rs p =>
    cases ops with
    | nil => exact absurd hm (by simp [mat])
    | cons op ops =>
      cases ops with
      | cons _ _ => exact absurd hm (by simp [mat])
      | nil =>
        cases rs with
        | nil => exact absurd hm (by simp [mat])
        | cons r rs =>
          cases rs with
          | cons _ _ => exact absurd hm (by simp [mat])
          | nil =>
            simp only [mat, Bool.and_eq_true, decide_eq_true_eq, Bool.not_eq_true'] at hm
            obtain ⟨rfl, h0, _, h1, h2⟩ := hm
            exact ⟨sd_cp c.K c.units h0 ((ha c).1 l h1).pe ((hb c).1 r h2).pe, sd_cpT c.K c.units h0 ((ha c).1 l h1).pe ((hb c).1 r h2).pe, fun z => nomatch z⟩
  | _ => exact absurd hm (by simp [mat])
theorem oke_ch {o1 o2 : Cp} {a b d : E} (ha : OkE t G ts C F k a) (hb : OkE t G ts C F k b) (hd : OkE t G ts C F k d) : OkE t G ts C F k (.ch o1 o2 a b d) := OkE.x rfl rfl fun c x hm => by
  cases x with
  | Compare l ops rs p =>
    cases ops with
    | nil => exact absurd hm (by simp [mat])
    | cons op ops =>
      cases ops with
      | nil => exact absurd hm (by simp [mat])
      | cons op2 ops =>
        cases ops with
        | cons _ _ => exact absurd hm (by simp [mat])
        | nil =>
          cases rs with
          | nil => exact absurd hm (by simp [mat])
          | cons m rs =>
            cases rs with
            | nil => exact absurd hm (by simp [mat])
            | cons r rs =>
              cases rs with
              | cons _ _ => exact absurd hm (by simp [mat])
              | nil =>
                simp only [mat, Bool.and_eq_true, decide_eq_true_eq, Bool.not_eq_true'] at hm
                obtain ⟨⟨⟨⟨⟨i1, i2⟩, s1⟩, s2⟩, rfl⟩, rfl, h1, h2, h3⟩ := hm
                exact ⟨sd_ch c.K c.units i1 i2 s1 s2 ((ha c).1 l h1).pe ((hb c).1 m h2).pe ((hd c).1 r h3).pe, sd_chT c.K c.units i1 i2 s1 s2 ((ha c).1 l h1).pe ((hb c).1 m h2).pe ((hd c).1 r h3).pe, fun z => nomatch z⟩
  | _ => exact absurd hm (by simp [mat])
end
end DI
end
section
set_option Elab.async false
set_option linter.all false
set_option maxRecDepth 100000
/-! The induction over expressions, part 3. -/
namespace DI
open PySem PySem.Spec L2
section
variable {G : CT} {ts : List Addr} {H H' : Hp} {T T' : Tl} {ws ws' : List (List Addr)} {g : Md} {ρ : Rho} {σ : St}
variable {t : Tb} {C : Calls} {X : Cx} {mc : Mc} {k : Nat} {N B N' B' S : Sets} {F : FA}
theorem oke_an {a b : E} (ha : OkE t G ts C F k a) (hb : OkE t G ts C F k b) : OkE t G ts C F k (.an a b) := OkE.x rfl rfl fun {mc X} c x hm => by
  cases x with
  | BoolOp op xs p =>
    cases op with
    | Or => exact absurd hm (by simp [mat])
    | And =>
      cases xs with
      | nil => exact absurd hm (by simp [mat])
      | cons x xs =>
        cases xs with
        | nil => exact absurd hm (by simp [mat])
        | cons y r =>
          simp only [mat, Bool.and_eq_true] at hm
          obtain ⟨h1, h2⟩ := hm
          have key : PE X (.BoolOp .And (y :: r) p) (RE t G ts C b) ∧ PW X (.BoolOp .And (y :: r) p) (RT t G ts C b) := by
            cases r with
            | nil => exact ⟨pe_one ((hb c).1 y h2).pe, pw_and1 ((hb c).1 y h2).pt⟩
            | cons z r => exact ⟨((hb c).1 _ h2).pe, ((hb c).1 _ h2).pw rfl⟩
          have w := sd_anT ((ha c).1 x h1).pt key.2
          exact ⟨sd_an ((ha c).1 x h1).pe key.1, w.pt, fun _ => w⟩
  | _ => exact absurd hm (by simp [mat])
theorem oke_orr {a b : E} (ha : OkE t G ts C F k a) (hb : OkE t G ts C F k b) : OkE t G ts C F k (.orr a b) := OkE.x rfl rfl fun {mc X} c x hm => by
  cases x with
  | BoolOp op xs p =>
    cases op with
    | And => exact absurd hm (by simp [mat])
    | Or =>
      cases xs with
      | nil => exact absurd hm (by simp [mat])
      | cons x xs =>
        cases xs with
        | nil => exact absurd hm (by simp [mat])
        | cons y r =>
          simp only [mat, Bool.and_eq_true] at hm
          obtain ⟨h1, h2⟩ := hm
          have key : PE X (.BoolOp .Or (y :: r) p) (RE t G ts C b) ∧ PW X (.BoolOp .Or (y :: r) p) (RT t G ts C b) := by
            cases r with
            | nil => exact ⟨pe_one ((hb c).1 y h2).pe, pw_or1 ((hb c).1 y h2).pt⟩
            | cons z r => exact ⟨((hb c).1 _ h2).pe, ((hb c).1 _ h2).pw rfl⟩
          have w := sd_orrT ((ha c).1 x h1).pt key.2
          exact ⟨sd_orr ((ha c).1 x h1).pe key.1, w.pt, fun _ => w⟩
  | _ => exact absurd hm (by simp [mat])
theorem oke_tup {a : E} (ha : OkE t G ts C F k a) : OkE t G ts C F k (.tup a) := OkE.x rfl rfl fun c x hm => by
  cases x with
  | Tuple es kk p =>
    simp only [mat] at hm
    exact .val (sd_tup ((ha c).2.1 es hm).pa) rfl
  | _ => exact absurd hm (by simp [mat])
theorem oke_lst {a : E} (ha : OkE t G ts C F k a) : OkE t G ts C F k (.lst a) := OkE.x rfl rfl fun c x hm => by
  cases x with
  | List es p =>
    simp only [mat] at hm
    exact .val (sd_lst ((ha c).2.1 es hm).pa) rfl
  | _ => exact absurd hm (by simp [mat])
theorem oke_ix {a i : E} (ha : OkE t G ts C F k a) (hi : OkE t G ts C F k i) : OkE t G ts C F k (.ix a i) := OkE.x rfl rfl fun c x hm => by
  cases x with
  | Subscript v s p =>
    simp only [mat, Bool.and_eq_true, Bool.not_eq_true'] at hm
    obtain ⟨h0, h1, h2⟩ := hm
    exact .val (sd_ix c.K h0 ((ha c).1 v h1).pe ((hi c).1 s h2).pe) rfl
  | _ => exact absurd hm (by simp [mat])
theorem isSo_eq {e : E} (h : isSo e = true) : e = .so := by
  cases e <;> first | rfl | cases h
theorem po_mat {e : E} (he : OkE t G ts C F k e) (c : Ctx t mc G ts C F X k) {l : Option Expr} (h : (if isSo e then l.isNone else (match l with
    | some x => mat mc e x
    | none => false)) = true) : PO X l (RO t G ts C e) := by
  by_cases hs : isSo e = true
  · rw [if_pos hs] at h
    have := isSo_eq hs
    subst this
    cases l with
    | none => exact po_so
    | some x => cases h
  · rw [if_neg hs] at h
    cases l with
    | none => cases h
    | some x => exact po_v ((he c).1 x h).pe
theorem oke_sl {a lo hi : E} (ha : OkE t G ts C F k a) (hl : OkE t G ts C F k lo) (hh : OkE t G ts C F k hi) : OkE t G ts C F k (.sl a lo hi) := OkE.x rfl rfl fun c x hm => by
  cases x with
  | Subscript v s p =>
    cases s with
    | Slice l h st p2 =>
      cases st with
      | some _ => exact absurd hm (by simp [mat])
      | none =>
        simp only [mat, Bool.and_eq_true] at hm
        obtain ⟨h1, h2, h3⟩ := hm
        exact .val (sd_sl c.K ((ha c).1 v h1).pe (po_mat hl c h2) (po_mat hh c h3)) rfl
    | _ => exact absurd hm (by simp [mat])
  | _ => exact absurd hm (by simp [mat])
theorem oke_fld {a : E} {d j : Nat} (ha : OkE t G ts C F k a) : OkE t G ts C F k (.fld a d j) := OkE.x rfl rfl fun c x hm => by
  cases x with
  | Attribute v f p =>
    simp only [mat, Bool.and_eq_true, decide_eq_true_eq] at hm
    obtain ⟨h1, h2, h3⟩ := hm
    exact .val (sd_fld c.K c.g h1 h2 ((ha c).1 v h3).pe) rfl
  | _ => exact absurd hm (by simp [mat])
theorem CxM.down (h : CxM mc X (k + 1)) : CxM mc X k := ⟨h.hN, h.nd, h.vis, h.loc, h.fre, h.cel, h.knd, h.calm, h.room.mono (Nat.le_succ k), h.bn, h.gc⟩
theorem oke_call {f : Nat} {as : E} (ha : OkE t G ts C F k as) : OkE t G ts C F k (.call f as) := OkE.x rfl rfl fun c x hm => by
  cases x with
  | Call fx es kw p =>
    cases fx with
    | Name x px =>
      cases kw with
      | cons _ _ => exact absurd hm (by simp [mat])
      | nil =>
        simp only [mat, Bool.and_eq_true, decide_eq_true_eq] at hm
        obtain ⟨h1, h2, h3⟩ := hm
        exact .val (sd_call c.cx.down c.room0 c.g c.f h1 h2 h3 ((ha c).2.1 es h3).pc) rfl
    | _ => exact absurd hm (by simp [mat])
  | _ => exact absurd hm (by simp [mat])
theorem oke_mk {d f : Nat} {as : E} (ha : OkE t G ts C F k as) : OkE t G ts C F k (.mk d f as) := OkE.x rfl rfl fun c x hm => by
  cases x with
  | Call fx es kw p =>
    cases fx with
    | Name x px =>
      cases kw with
      | cons _ _ => exact absurd hm (by simp [mat])
      | nil =>
        simp only [mat, Bool.and_eq_true, decide_eq_true_eq] at hm
        obtain ⟨h1, h2, h3, h4⟩ := hm
        exact .val (sd_mk c.cx.down c.room c.g c.f h1 h3 h2 h4 ((ha c).2.1 es h4).pc) rfl
    | _ => exact absurd hm (by simp [mat])
  | _ => exact absurd hm (by simp [mat])
/-! ### rows -/
theorem noX {e : E} {x : Expr} (h : isArg e = true ∨ isSrc e = true) : mat mc e x = true → False := by
  cases e <;> first | (rcases h with h | h <;> cases h; done) | (intro q; simp only [mat] at q; cases q)
theorem oke_a0 : OkE t G ts C F k .a0 := fun c => ⟨fun x hm => (noX (.inl rfl) hm).elim, fun es hm => by
  cases es with
  | nil => exact ⟨sd_a0, fun ps => sc_a0⟩
  | cons => exact absurd hm (by simp [matL]), fun tg x hm _ => (noS rfl hm).elim⟩
theorem PA.vac {es : List Expr} {r : TA} (h : ∀ σ H Q, ¬ r σ H Q) : PA X es r := ⟨fun pos pins s σ H Q I q => absurd q (h σ H Q)⟩
theorem at_pe {a : E} {x : Expr} (c : Ctx t mc G ts C F X k) (h : mat mc a x = true) (ha : atom a = true) : PE X x (tAtom a) := by
  cases a <;> simp only [atom] at ha <;> first | (cases ha; done) | skip
  · rename_i i
    cases x with
    | Name n p =>
      simp only [mat] at h
      obtain ⟨h1, h2, h3, h4⟩ := okN_ok h
      exact PE.of (pe_var (i := i) (by rw [c.cx.hN]; exact h1) (c.cx.vis n h2) h3 h4) fun σ H Q ⟨v, hv, q⟩ => ⟨v, hv, q⟩
    | _ => exact absurd h (by simp [mat])
  · cases x with
    | Constant v j p =>
      cases v with
      | int n =>
        simp only [mat, decide_eq_true_eq] at h
        subst h
        exact PE.of pe_int fun σ H Q ⟨v, hv, q⟩ => by cases hv; exact q
      | _ => exact absurd h (by simp [mat])
    | _ => exact absurd h (by simp [mat])
  · cases x with
    | Constant v j p =>
      cases v with
      | str n =>
        simp only [mat, decide_eq_true_eq] at h
        subst h
        exact PE.of pe_str fun σ H Q ⟨v, hv, q⟩ => by cases hv; exact q
      | _ => exact absurd h (by simp [mat])
    | _ => exact absurd h (by simp [mat])
  · cases x with
    | Constant v j p =>
      cases v with
      | bool n =>
        simp only [mat, decide_eq_true_eq] at h
        subst h
        exact PE.of pe_bl fun σ H Q ⟨v, hv, q⟩ => by cases hv; exact q
      | _ => exact absurd h (by simp [mat])
    | _ => exact absurd h (by simp [mat])
  · cases x with
    | Constant v j p =>
      cases v with
      | none => exact PE.of pe_non fun σ H Q ⟨v, hv, q⟩ => by cases hv; exact q
      | _ => exact absurd h (by simp [mat])
    | _ => exact absurd h (by simp [mat])
theorem oke_aE {a r : E} (ha : OkE t G ts C F k a) (hr : OkE t G ts C F k r) : OkE t G ts C F k (.aE a r) := fun c => ⟨fun x hm => (noX (.inl rfl) hm).elim, fun es hm => by
  cases es with
  | nil => exact absurd hm (by simp [matL])
  | cons e es =>
    simp only [matL, Bool.and_eq_true, Bool.not_eq_true'] at hm
    obtain ⟨h0, h1, h2⟩ := hm
    exact ⟨sd_aE h0 ((ha c).1 e h1).pe ((hr c).2.1 es h2).pa, fun ps => sc_aE h0 ((ha c).1 e h1).pe (at_pe c h1) ((hr c).2.1 es h2).pc⟩, fun tg x hm _ => (noS rfl hm).elim⟩
theorem oke_aS {a r : E} (ha : OkE t G ts C F k a) (hr : OkE t G ts C F k r) : OkE t G ts C F k (.aS a r) := fun c => ⟨fun x hm => (noX (.inl rfl) hm).elim, fun es hm => by
  cases es with
  | nil => exact absurd hm (by simp [matL])
  | cons e es =>
    cases e with
    | Starred e p =>
      simp only [matL, Bool.and_eq_true] at hm
      obtain ⟨h1, h2⟩ := hm
      refine ⟨sd_aS c.K ((ha c).1 e h1).pe ((hr c).2.1 es h2).pa, fun ps => PA.vac fun σ H Q h => ?_⟩
      obtain ⟨T, ws, g, ρ, g', ds, ρ', hc, _⟩ := h
      cases ps <;> (simp only [ck.ckA] at hc; cases hc)
    | _ => exact absurd hm (by simp [matL]), fun tg x hm _ => (noS rfl hm).elim⟩
theorem oke_aio {p r : E} (hp : OkE t G ts C F k p) (hr : OkE t G ts C F k r) : OkE t G ts C F k (.aio p r) := fun c => by
  refine ⟨fun x hm => (noX (.inl rfl) hm).elim, fun es hm => ?_, fun tg x hm _ => (noS rfl hm).elim⟩
  cases es with
  | nil => exact absurd hm (by simp [matL])
  | cons e es =>
    simp only [matL, Bool.and_eq_true, Bool.not_eq_true'] at hm
    obtain ⟨h0, h1, h2⟩ := hm
    refine ⟨PA.vac fun σ H Q h => ?_, fun ps => sc_aio c.g h0 (fun hp => sd_path c.cx c.K c.g hp h1) ((hr c).2.1 es h2).pc⟩
    obtain ⟨T, ws, g, ρ, m, g', ds, ρ', hc, _⟩ := h
    simp only [ck] at hc
    cases hc
theorem oke_abw {p r : E} (hp : OkE t G ts C F k p) (hr : OkE t G ts C F k r) : OkE t G ts C F k (.abw p r) := fun c => by
  refine ⟨fun x hm => (noX (.inl rfl) hm).elim, fun es hm => ?_, fun tg x hm _ => (noS rfl hm).elim⟩
  cases es with
  | nil => exact absurd hm (by simp [matL])
  | cons e es =>
    simp only [matL, Bool.and_eq_true, Bool.not_eq_true'] at hm
    obtain ⟨h0, h1, h2⟩ := hm
    refine ⟨PA.vac fun σ H Q h => ?_, fun ps => sc_abw c.g h0 (fun hp => sd_path c.cx c.K c.g hp h1) ((hr c).2.1 es h2).pc⟩
    obtain ⟨T, ws, g, ρ, m, g', ds, ρ', hc, _⟩ := h
    simp only [ck] at hc
    cases hc
end
end DI
end
section
set_option Elab.async false
set_option linter.all false
set_option maxRecDepth 100000
/-! The induction over expressions, part 4. -/
namespace DI
open PySem PySem.Spec L2
section
variable {G : CT} {ts : List Addr} {H H' : Hp} {T T' : Tl} {ws ws' : List (List Addr)} {g : Md} {ρ : Rho} {σ : St}
variable {t : Tb} {C : Calls} {X : Cx} {mc : Mc} {k : Nat} {N B N' B' S : Sets} {F : FA}
theorem meth_at {q : Option FnAt} {m : Str} (h : (match q with
    | some (.meth _ m') => decide (m = m')
    | _ => false) = true) : ∃ c, q = some (.meth c m) := by
  split at h
  · rw [decide_eq_true_eq] at h
    subst h
    exact ⟨_, rfl⟩
  · cases h
/-- fewer than thirty arguments -/
def few : Expr → Bool
  | .Call (.Attribute _ _ _) es _ _ => decide (es.length < 30)
  | _ => true
/-! ### sources -/
theorem oke_sq {a : E} (ha : OkE t G ts C F k a) : OkE t G ts C F k (.sq a) := fun c => ⟨fun x hm => (noX (.inr rfl) hm).elim, fun es hm => (noL rfl hm).elim, fun tg x hm _ => by
  simp only [matS] at hm
  exact ss_sq c.K ((ha c).1 x hm).pe⟩
theorem oke_rg1 {a : E} (ha : OkE t G ts C F k a) : OkE t G ts C F k (.rg1 a) := fun c => ⟨fun x hm => (noX (.inr rfl) hm).elim, fun es hm => (noL rfl hm).elim, fun tg x hm _ => by
  cases x with
  | Call fx es kw p =>
    cases fx with
    | Name x px =>
      cases kw with
      | cons _ _ => rcases es with _ | ⟨_, _ | ⟨_, _ | ⟨_, _ | ⟨_, _⟩⟩⟩⟩ <;> exact absurd (show false = true from hm) Bool.false_ne_true
      | nil =>
        cases es with
        | nil => exact absurd (show false = true from hm) Bool.false_ne_true
        | cons e es =>
          cases es with
          | cons _ _ => exact absurd (show false = true from hm) Bool.false_ne_true
          | nil =>
            simp only [matS, Bool.and_eq_true, decide_eq_true_eq, Bool.not_eq_true'] at hm
            obtain ⟨rfl, h1, h2, h3⟩ := hm
            exact ss_rg1 c.cx h1 h2 ((ha c).1 e h3).pe
    | _ => exact absurd (show false = true from hm) Bool.false_ne_true
  | _ => exact absurd (show false = true from hm) Bool.false_ne_true⟩
theorem oke_rg2 {a b : E} (ha : OkE t G ts C F k a) (hb : OkE t G ts C F k b) : OkE t G ts C F k (.rg2 a b) := fun c => ⟨fun x hm => (noX (.inr rfl) hm).elim, fun es hm => (noL rfl hm).elim, fun tg x hm _ => by
  cases x with
  | Call fx es kw p =>
    cases fx with
    | Name x px =>
      cases kw with
      | cons _ _ => rcases es with _ | ⟨_, _ | ⟨_, _ | ⟨_, _ | ⟨_, _⟩⟩⟩⟩ <;> exact absurd (show false = true from hm) Bool.false_ne_true
      | nil =>
        cases es with
        | nil => exact absurd (show false = true from hm) Bool.false_ne_true
        | cons e es =>
          cases es with
          | nil => exact absurd (show false = true from hm) Bool.false_ne_true
          | cons e2 es =>
            cases es with
            | cons _ _ => exact absurd (show false = true from hm) Bool.false_ne_true
            | nil =>
              simp only [matS, Bool.and_eq_true, decide_eq_true_eq, Bool.not_eq_true'] at hm
              obtain ⟨rfl, h1, h2, h3, h4, h5⟩ := hm
              exact ss_rg2 c.cx h1 h2 h3 ((ha c).1 e h4).pe ((hb c).1 e2 h5).pe
    | _ => exact absurd (show false = true from hm) Bool.false_ne_true
  | _ => exact absurd (show false = true from hm) Bool.false_ne_true⟩
theorem oke_rg3 {a b d : E} (ha : OkE t G ts C F k a) (hb : OkE t G ts C F k b) (hd : OkE t G ts C F k d) : OkE t G ts C F k (.rg3 a b d) := fun c => ⟨fun x hm => (noX (.inr rfl) hm).elim, fun es hm => (noL rfl hm).elim, fun tg x hm _ => by
  cases x with
  | Call fx es kw p =>
    cases fx with
    | Name x px =>
      cases kw with
      | cons _ _ => rcases es with _ | ⟨_, _ | ⟨_, _ | ⟨_, _ | ⟨_, _⟩⟩⟩⟩ <;> exact absurd (show false = true from hm) Bool.false_ne_true
      | nil =>
        cases es with
        | nil => exact absurd (show false = true from hm) Bool.false_ne_true
        | cons e es =>
          cases es with
          | nil => exact absurd (show false = true from hm) Bool.false_ne_true
          | cons e2 es =>
            cases es with
            | nil => exact absurd (show false = true from hm) Bool.false_ne_true
            | cons e3 es =>
              cases es with
              | cons _ _ => exact absurd (show false = true from hm) Bool.false_ne_true
              | nil =>
                simp only [matS, Bool.and_eq_true, decide_eq_true_eq, Bool.not_eq_true'] at hm
                obtain ⟨rfl, h1, h2, h3, h4, h5, h6, h7⟩ := hm
                exact ss_rg3 c.cx h1 h2 h3 h4 ((ha c).1 e h5).pe ((hb c).1 e2 h6).pe ((hd c).1 e3 h7).pe
    | _ => exact absurd (show false = true from hm) Bool.false_ne_true
  | _ => exact absurd (show false = true from hm) Bool.false_ne_true⟩
theorem oke_en {a : E} (ha : OkE t G ts C F k a) : OkE t G ts C F k (.en a) := fun c => ⟨fun x hm => (noX (.inr rfl) hm).elim, fun es hm => (noL rfl hm).elim, fun tg x hm ht => by
  cases tg <;> simp only [srcT] at ht <;> first | (cases ht; done) | skip
  cases x with
  | Call fx es kw p =>
    cases fx with
    | Name x px =>
      cases kw with
      | cons _ _ => rcases es with _ | ⟨_, _ | ⟨_, _ | ⟨_, _ | ⟨_, _⟩⟩⟩⟩ <;> exact absurd (show false = true from hm) Bool.false_ne_true
      | nil =>
        cases es with
        | nil => exact absurd (show false = true from hm) Bool.false_ne_true
        | cons e es =>
          cases es with
          | cons _ _ => exact absurd (show false = true from hm) Bool.false_ne_true
          | nil =>
            simp only [matS, Bool.and_eq_true, decide_eq_true_eq, Bool.not_eq_true'] at hm
            obtain ⟨rfl, h1, h2, h3⟩ := hm
            exact ss_en c.cx c.K h1 h2 ((ha c).1 e h3).pe
    | _ => exact absurd (show false = true from hm) Bool.false_ne_true
  | _ => exact absurd (show false = true from hm) Bool.false_ne_true⟩
theorem oke_zp {a b : E} (ha : OkE t G ts C F k a) (hb : OkE t G ts C F k b) : OkE t G ts C F k (.zp a b) := fun c => ⟨fun x hm => (noX (.inr rfl) hm).elim, fun es hm => (noL rfl hm).elim, fun tg x hm ht => by
  cases tg <;> simp only [srcT] at ht <;> first | (cases ht; done) | skip
  cases x with
  | Call fx es kw p =>
    cases fx with
    | Name x px =>
      cases kw with
      | cons _ _ => rcases es with _ | ⟨_, _ | ⟨_, _ | ⟨_, _ | ⟨_, _⟩⟩⟩⟩ <;> exact absurd (show false = true from hm) Bool.false_ne_true
      | nil =>
        cases es with
        | nil => exact absurd (show false = true from hm) Bool.false_ne_true
        | cons e es =>
          cases es with
          | nil => exact absurd (show false = true from hm) Bool.false_ne_true
          | cons e2 es =>
            cases es with
            | cons _ _ => exact absurd (show false = true from hm) Bool.false_ne_true
            | nil =>
              simp only [matS, Bool.and_eq_true, decide_eq_true_eq, Bool.not_eq_true'] at hm
              obtain ⟨rfl, h1, h2, h3, h4, h5⟩ := hm
              exact ss_zp c.cx c.K h1 h2 h3 ((ha c).1 e h4).pe ((hb c).1 e2 h5).pe
    | _ => exact absurd (show false = true from hm) Bool.false_ne_true
  | _ => exact absurd (show false = true from hm) Bool.false_ne_true⟩
/-! ### built-ins -/
theorem mat_star {a e : E} {x : Expr} {p : Pos} : mat mc a (.Starred x p) = false := by
  induction a with
  | pur a ih => simpa only [mat] using ih
  | _ => first | rfl | (simp [mat])
theorem not_star {a : E} {e : Expr} (h : mat mc a e = true) : isStarX e = false := by
  cases e <;> first | rfl | (rw [mat_star (e := .a0)] at h; cases h)
theorem bi_key {b : Bi} {as : E} {x : Str} {px p : Pos} {es : List Expr} (hi : ∀ l, b ≠ .isi l) (hm : mat mc (.bi b as) (.Call (.Name x px) es [] p) = true) : biOk mc b = true ∧ x = biName b ∧ glB mc.sc x = true ∧ es.isEmpty = false ∧ matL mc as es = true := by
  cases b <;> first
    | exact absurd rfl (hi _)
    | (simp only [mat, Bool.and_eq_true, decide_eq_true_eq, Bool.not_eq_true'] at hm
       exact hm)
theorem oke_bi {b : Bi} {as : E} (ha : OkE t G ts C F k as) (hsub : ∀ a r, as = .aE a r → OkE t G ts C F k a) : OkE t G ts C F k (.bi b as) := OkE.x rfl rfl fun {mc X} c x hm => by
  cases x with
  | Call fx es kw p =>
    cases fx with
    | Name x px =>
      cases kw with
      | cons _ _ => exfalso; cases b <;> simp [mat] at hm
      | nil =>
        by_cases hi : ∃ l, b = .isi l
        · obtain ⟨l, rfl⟩ := hi
          cases as with
          | aE a r =>
            cases r with
            | a0 =>
              rcases es with _ | ⟨e, _ | ⟨te, _ | ⟨_, _⟩⟩⟩
              · simp [mat] at hm
              · simp [mat, biOk] at hm
              · simp only [mat, Bool.and_eq_true, decide_eq_true_eq] at hm
                obtain ⟨h1, h2, h3, h4⟩ := hm
                rcases l with _ | ⟨y, _ | ⟨_, _⟩⟩
                · simp [tysX] at h4
                · exact .val (sd_isi c.cx c.K h1 h2 (not_star h3) h4 ((hsub a .a0 rfl c).1 e h3).pe) rfl
                · simp [tysX] at h4
              · simp [mat, biOk] at hm
            | _ => simp [mat, biOk] at hm
          | _ => simp [mat, biOk] at hm
        · obtain ⟨h1, h2, h3, h4, h5⟩ := bi_key (fun l e => hi ⟨l, e⟩) hm
          exact .val (sd_bi c.cx c.K h1 h2 h3 h4 h5 ((ha c).2.1 es h5).pa) rfl
    | _ => exfalso; cases b <;> simp [mat] at hm
  | _ => exfalso; cases b <;> simp [mat] at hm
theorem fold_ok {x : Expr} (hx : isSetX x = false) : ∀ env v, foldedSetIterable x env v = pure v := by
  intro env v
  cases x <;> first | (cases hx; done) | rfl
theorem comp_key {tg : Tg} {src cond elt : E} {e te it : Expr} {ifs : List Expr} {scope : Scope} {p : Pos} (hm : mat mc (.comp tg src cond elt) (.ListComp e [⟨te, it, ifs, 0⟩] scope p) = true) :
    blkC mc.N mc.sc scope (ownOf mc tg.slots) = true ∧ ((isSetX it = false ∧ srcT src te = true) ∧ matS mc src it = true) ∧ matT { mc with sc := scope } tg te = true ∧ ((ifs = [] ∧ isCt cond = true) ∨ ∃ c0, ifs = [c0] ∧ isCt cond = false ∧ mat { mc with sc := scope } cond c0 = true) ∧ mat { mc with sc := scope } elt e = true := by
  cases ifs with
  | nil =>
    simp only [mat, Bool.and_eq_true, Bool.not_eq_true'] at hm
    obtain ⟨h1, h2, h3, h4, h5⟩ := hm
    exact ⟨h1, h2, h3, .inl ⟨rfl, h4⟩, h5⟩
  | cons c0 r =>
    cases r with
    | nil =>
      simp only [mat, Bool.and_eq_true, Bool.not_eq_true'] at hm
      obtain ⟨h1, h2, h3, h4, h5⟩ := hm
      exact ⟨h1, h2, h3, .inr ⟨c0, rfl, h4.1, h4.2⟩, h5⟩
    | cons _ _ =>
      simp [mat] at hm
theorem oke_comp {tg : Tg} {src cond elt : E} (hs : OkE t G ts C F k src) (hc : OkE t G ts C F k cond) (he : OkE t G ts C F k elt) {mc : Mc} {X : Cx} (c : Ctx t mc G ts C F X k) {e te it : Expr} {ifs : List Expr} {scope : Scope} {p : Pos} (hm : mat mc (.comp tg src cond elt) (.ListComp e [⟨te, it, ifs, 0⟩] scope p) = true) :
    PX t G ts C X (.comp tg src cond elt) (.ListComp e [⟨te, it, ifs, 0⟩] scope p) := by
  obtain ⟨hb, ⟨⟨hset, hsrc⟩, hms⟩, hT, hif, hel⟩ := comp_key hm
  refine .val (sd_comp c.cx c.K hb hT ((hs c).2.2 te it hms hsrc) ⟨fun s H Ca cl fp => ?_, fun s H Ca cl fp => ?_, fun s H Ca cl fp => ?_⟩ (fold_ok hset X.env)) rfl
  · exact pg_tg (c.blk hb s H Ca cl fp).cx hT
  · unfold tCond
    rcases hif with ⟨rfl, h⟩ | ⟨c0, rfl, h, h2⟩
    · rw [if_pos h]
      exact pts_nil
    · rw [if_neg (by rw [h]; exact Bool.false_ne_true)]
      exact pts_one ((hc (c.blk hb s H Ca cl fp)).1 c0 h2).pt
  · exact ((he (c.blk hb s H Ca cl fp)).1 e hel).pe
end
end DI
end
section
set_option Elab.async false
set_option linter.all false
set_option maxRecDepth 100000
/-! The induction over expressions, part 5. -/
namespace DI
open PySem PySem.Spec L2
section
variable {G : CT} {ts : List Addr} {t : Tb} {C : Calls} {X : Cx} {mc : Mc} {k : Nat} {F : FA}
theorem oke_mcE {f : Nat} {p r : E} (hp : OkE t G ts C F k p) (hr : OkE t G ts C F k r) : OkE t G ts C F k (.mcall f (.aE p r)) := OkE.x rfl rfl fun {mc X} c x hm => by
  cases x with
  | Call fx es kw pos =>
    cases fx with
    | Attribute o m ap =>
      cases kw with
      | cons _ _ => simp [mat] at hm
      | nil =>
        simp only [mat, Bool.and_eq_true, decide_eq_true_eq] at hm
        obtain ⟨⟨h0, h1⟩, h2, h3, h4, h5⟩ := hm
        obtain ⟨d, hd⟩ := meth_at h5
        exact .val (sd_mcallE c.cx.down c.room0 c.K c.g c.f hd h2 h0 h1 h4 ((hp c).1 o h3).pe (at_pe c h3) ((hr c).2.1 es h4).pc) rfl
    | _ => simp [mat] at hm
  | _ => simp [mat] at hm
theorem oke_mcL {w : Bool} {f : Nat} {p r : E} (hp : OkE t G ts C F k p) (hr : OkE t G ts C F k r) : OkE t G ts C F k (.mcall f (if w then .aio p r else .abw p r)) := OkE.x rfl rfl fun {mc X} c x hm => by
  cases x with
  | Call fx es kw pos =>
    cases fx with
    | Attribute o m ap =>
      cases kw with
      | cons _ _ => cases w <;> simp [mat] at hm
      | nil =>
        have key : (es.length < 30 ∧ ap.endLine = pos.line) ∧ dotX o = true ∧ mat mc p o = true ∧ matL mc r es = true ∧ ∃ d, mc.fns[f]? = some (.meth d m) := by
          cases w
          · simp only [Bool.false_eq_true, if_false, mat, Bool.and_eq_true, decide_eq_true_eq] at hm
            obtain ⟨h0, h2, h3, h4, h5⟩ := hm
            exact ⟨h0, h2, h3, h4, meth_at h5⟩
          · simp only [if_true, mat, Bool.and_eq_true, decide_eq_true_eq] at hm
            obtain ⟨h0, h2, h3, h4, h5⟩ := hm
            exact ⟨h0, h2, h3, h4, meth_at h5⟩
        obtain ⟨⟨h0, h1⟩, h2, h3, h4, d, hd⟩ := key
        exact .val (sd_mcallL c.cx.down c.room0 c.K c.g c.f hd h2 h0 h1 h4 (fun hp => sd_path c.cx c.K c.g hp h3) ((hr c).2.1 es h4).pc) rfl
    | _ => cases w <;> simp [mat] at hm
  | _ => cases w <;> simp [mat] at hm
end
end DI
end
section
set_option Elab.async false
set_option linter.all false
set_option maxRecDepth 100000
/-! The induction over expressions, all of it. -/
namespace DI
open PySem PySem.Spec L2
section
variable {G : CT} {ts : List Addr} {t : Tb} {C : Calls} {X : Cx} {mc : Mc} {k : Nat} {F : FA}
/-- the parts of an argument list -/
def SubOk (t : Tb) (G : CT) (ts : List Addr) (C : Calls) (F : FA) (k : Nat) : E → Prop
  | .aE a r => OkE t G ts C F k a ∧ OkE t G ts C F k r
  | .aio a r => OkE t G ts C F k a ∧ OkE t G ts C F k r
  | .abw a r => OkE t G ts C F k a ∧ OkE t G ts C F k r
  | _ => True
theorem oke_mc {f : Nat} {as : E} (h : SubOk t G ts C F k as) : OkE t G ts C F k (.mcall f as) := by
  cases as with
  | aE a r => exact oke_mcE h.1 h.2
  | aio a r => exact oke_mcL (w := true) h.1 h.2
  | abw a r => exact oke_mcL (w := false) h.1 h.2
  | _ => exact OkE.x rfl rfl fun {mc X} c x hm => by cases x <;> simp [mat] at hm
theorem oke_sub {as : E} (h : SubOk t G ts C F k as) : ∀ a r, as = .aE a r → OkE t G ts C F k a := fun a r e => by subst e; exact h.1
theorem oke_compE {tg : Tg} {src cond elt : E} (hs : OkE t G ts C F k src) (hc : OkE t G ts C F k cond) (he : OkE t G ts C F k elt) : OkE t G ts C F k (.comp tg src cond elt) := OkE.x rfl rfl fun {mc X} c x hm => by
  cases x with
  | ListComp e gens scope p =>
    rcases gens with _ | ⟨⟨te, it, ifs, as⟩, _ | ⟨_, _⟩⟩
    · simp [mat] at hm
    · by_cases ha : as = 0
      · subst ha
        exact oke_comp hs hc he c hm
      · simp [mat, ha] at hm
    · simp [mat] at hm
  | _ => simp [mat] at hm
theorem expr_ok (e : E) : OkE t G ts C F k e ∧ SubOk t G ts C F k e := by
  induction e with
  | var i => exact ⟨oke_var, trivial⟩
  | mv i => exact ⟨oke_mv, trivial⟩
  | fz i => exact ⟨oke_fz, trivial⟩
  | ci i => exact ⟨oke_ci, trivial⟩
  | cs i => exact ⟨oke_cs, trivial⟩
  | cb i => exact ⟨oke_cb, trivial⟩
  | cn => exact ⟨oke_cn, trivial⟩
  | o2 o a b ha hb => exact ⟨oke_o2 ha.1 hb.1, trivial⟩
  | neg a ha => exact ⟨oke_neg ha.1, trivial⟩
  | nt a ha => exact ⟨oke_nt ha.1, trivial⟩
  | cp o a b ha hb => exact ⟨oke_cp ha.1 hb.1, trivial⟩
  | ch o1 o2 a b c ha hb hc => exact ⟨oke_ch ha.1 hb.1 hc.1, trivial⟩
  | an a b ha hb => exact ⟨oke_an ha.1 hb.1, trivial⟩
  | orr a b ha hb => exact ⟨oke_orr ha.1 hb.1, trivial⟩
  | ite c a b hc ha hb => exact ⟨oke_ite hc.1 ha.1 hb.1, trivial⟩
  | tup a ha => exact ⟨oke_tup ha.1, trivial⟩
  | lst a ha => exact ⟨oke_lst ha.1, trivial⟩
  | a0 => exact ⟨oke_a0, trivial⟩
  | aE a r ha hr => exact ⟨oke_aE ha.1 hr.1, ha.1, hr.1⟩
  | aS a r ha hr => exact ⟨oke_aS ha.1 hr.1, trivial⟩
  | aio a r ha hr => exact ⟨oke_aio ha.1 hr.1, ha.1, hr.1⟩
  | abw a r ha hr => exact ⟨oke_abw ha.1 hr.1, ha.1, hr.1⟩
  | ix a i ha hi => exact ⟨oke_ix ha.1 hi.1, trivial⟩
  | sl a l h ha hl hh => exact ⟨oke_sl ha.1 hl.1 hh.1, trivial⟩
  | fld a c j ha => exact ⟨oke_fld ha.1, trivial⟩
  | call f as ha => exact ⟨oke_call ha.1, trivial⟩
  | mcall f as ha => exact ⟨oke_mc ha.2, trivial⟩
  | mk c f as ha => exact ⟨oke_mk ha.1, trivial⟩
  | bi b as ha => exact ⟨oke_bi ha.1 (oke_sub ha.2), trivial⟩
  | comp tg s c e hs hc he => exact ⟨oke_compE hs.1 hc.1 he.1, trivial⟩
  | pur e he => exact ⟨oke_pur he.1, trivial⟩
  | sq a ha => exact ⟨oke_sq ha.1, trivial⟩
  | rg1 a ha => exact ⟨oke_rg1 ha.1, trivial⟩
  | rg2 a b ha hb => exact ⟨oke_rg2 ha.1 hb.1, trivial⟩
  | rg3 a b c ha hb hc => exact ⟨oke_rg3 ha.1 hb.1 hc.1, trivial⟩
  | en a ha => exact ⟨oke_en ha.1, trivial⟩
  | zp a b ha hb => exact ⟨oke_zp ha.1 hb.1, trivial⟩
  | rv a ha => exact ⟨fun c => ⟨fun x hm => by cases x <;> simp [mat] at hm, fun es hm => (noL rfl hm).elim, fun tg x hm _ => (noS rfl hm).elim⟩, trivial⟩
  | _ => exact ⟨OkE.x rfl rfl fun {mc X} c x hm => by cases x <;> simp [mat] at hm, trivial⟩
end
end DI
end
section
set_option Elab.async false
set_option linter.all false
set_option maxRecDepth 100000
/-! The checker of statements; statements and the text. -/
namespace DI
open PySem PySem.Spec L2
/-- a may be taken for b -/
def weak1 (a b : M) : Bool := decide (a = b) || (decide (b = .x) || (decide (b = .z) && a.fzb))
def weakM : Md → Md → Bool
  | [], [] => true
  | a :: as, b :: bs => weak1 a b && weakM as bs
  | _, _ => false
def join1 (a b : M) : M := if a = b then a else if a.fzb && b.fzb then .z else .x
def joinM : Md → Md → Md
  | a :: as, b :: bs => join1 a b :: joinM as bs
  | _, _ => []
def joinO : Option Md → Option Md → Option (Option Md)
  | none, b => some b
  | a, none => some a
  | some a, some b => if a.length = b.length then some (some (joinM a b)) else none
/-- own slots lent -/
def hide1 (hide : List Nat) (i : Nat) (m : M) : Option M := if hide.contains i then (match m with
  | .w m => some (.w m)
  | m => if m.pl then some (.w m) else none) else some m
def hideI (hide : List Nat) : Nat → Md → Option Md
  | _, [] => some []
  | i, m :: ms => match hide1 hide i m, hideI hide (i + 1) ms with
    | some m', some r => some (m' :: r)
    | _, _ => none
def hideM (hide : List Nat) (g : Md) : Option Md := hideI hide 0 g
/-- and had back: g0 before, g1 behind -/
def unhide1 (hide : List Nat) (g0 : Md) (i : Nat) (m : M) : M := if hide.contains i then g0.getD i .x else if m.pl then m else .x
def unhideM (hide : List Nat) (g0 g1 : Md) : Md := if hide.isEmpty then g1 else g1.mapIdx fun i m => unhide1 hide g0 i m
def asgd : S → List Nat
  | .cons s r => asgd s ++ asgd r
  | .asg i _ => [i]
  | .asgT is _ => is
  | .aug _ i _ => [i]
  | .ifs _ a b => asgd a ++ asgd b
  | .for_ tg _ b _ _ => tg.slots ++ asgd b
  | .whl _ b _ => asgd b
  | _ => []
/-- m fits where fm is wanted -/
def fits (m fm : M) : Bool := (decide (m = fm) && fm.pl) || (decide (fm = .z) && m.fzb)
/-- the parameters lent to write are whole -/
def parOk (t : Tb) : List PK → Nat → Md → Bool
  | [], _, _ => true
  | .io m :: ps, i, g => (m.pl && decide (g[i]? = some m)) && parOk t ps (i + 1) g
  | .ini c :: ps, i, g => decide (g[i]? = some (.O c (t.cf.getD c []).length)) && parOk t ps (i + 1) g
  | _ :: ps, i, g => parOk t ps (i + 1) g
/-- what a def is to give back -/
structure Rt0 where
  ps : List PK
  ret : M
/-- the loop around -/
structure Lp where
  g : Md
  kills : List Nat
def augOk : O2 → Bool
  | .add => true
  | .sub => true
  | .mul => true
  | _ => false
def killed (kills : List Nat) (g : Md) : Bool := kills.all fun i => decide (g[i]? = some .x)
def isIo (ps : List PK) (i : Nat) : Bool := match ps[i]? with
  | some (.io _) => true
  | some (.ini _) => true
  | _ => false
def hideOk (ps : List PK) (n : Nat) (hide ss : List Nat) : Bool := hide.all fun i => decide (i < n) && (!ss.contains i && !isIo ps i)
def goOk (go : Option Md) (g0 : Md) : Bool := match go with
  | some ge => weakM ge g0
  | none => true
def cks (t : Tb) (r : Rt0) : Option Lp → S → Md → Option (Option Md)
  | _, .nil, g => some (some g)
  | lp, .cons s rs, g => match cks t r lp s g with
    | some (some g1) => cks t r lp rs g1
    | o => o
  | _, .ret e, g => match ck t e g with
    | some (m, g1) => if fits m r.ret && parOk t r.ps 0 g1 then some none else none
    | none => none
  | _, .retn, g => if decide (r.ret = .z) && parOk t r.ps 0 g then some none else none
  | _, .asg i e, g => match ck t e g with
    | some (m, g1) => if decide (i < g1.length) then (setTgM (.one i) m g1).map some else none
    | none => none
  | _, .asgT is e, g => match ck t e g with
    | some (m, g1) => if is.all (fun i => decide (i < g1.length)) && decide is.Nodup then (setTgM (.many is) m g1).map some else none
    | none => none
  | _, .asgF p c j e, g => match ck t e g with
    | some (m, g1) => match pmode t g1 p, (t.cf.getD c [])[j]? with
      | some (.O c' k), some q => if decide (c = c') && (isPath p && fits m q.2) then (if j < k then some (some g1) else if decide (j = k) && isVar p then some (some (g1.set (root p) (.O c (k + 1)))) else none) else none
      | _, _ => none
    | none => none
  | _, .setI p i e, g => match ck t e g with
    | some (m, g1) => match ck t i g1 with
      | some (mi, g2) => match pmode t g1 p with
        | some (.L me) => if isPath p && ((isVar p || atom i) && (mi.fzb && (fits m me && decide (pmode t g2 p = some (.L me))))) then some (some g2) else none
        | _ => none
      | none => none
    | none => none
  | _, .aug o i e, g => match ck t e g with
    | some (m, g1) => if augOk o && (decide (g[i]? = some .z) && (decide (g1[i]? = some .z) && m.fzb)) then some (some g1) else none
    | none => none
  | _, .augI o p i e, g => match ck t i g with
    | some (mi, g1) => match ck t e g1 with
      | some (m, g2) => match pmode t g p with
        | some (.L .z) => if augOk o && (isVar p && (mi.fzb && (m.fzb && (decide (pmode t g1 p = some (.L .z)) && decide (pmode t g2 p = some (.L .z)))))) then some (some g2) else none
        | _ => none
      | none => none
    | none => none
  | _, .app p e, g => match ck t e g with
    | some (m, g1) => match pmode t g p with
      | some (.L me) => if isPath p && ((isVar p || atom e) && (decide (pmode t g1 p = some (.L me)) && fits m me)) then some (some g1) else none
      | _ => none
    | none => none
  | _, .ext p e, g => match ck t e g with
    | some (m, g1) => match pmode t g p with
      | some (.L .z) => if isPath p && ((isVar p || atom e) && (decide (pmode t g1 p = some (.L .z)) && lz m)) then some (some g1) else none
      | _ => none
    | none => none
  | _, .ins p i e, g => match ck t i g with
    | some (mi, g1) => match ck t e g1 with
      | some (m, g2) => match pmode t g p with
        | some (.L me) => if isVar p && (mi.fzb && (decide (pmode t g2 p = some (.L me)) && fits m me)) then some (some g2) else none
        | _ => none
      | none => none
    | none => none
  | lp, .ifs c a b, g => match ck t c g with
    | some (m, g1) => if m.fzb then (match cks t r lp a g1, cks t r lp b g1 with
      | some ga, some gb => joinO ga gb
      | _, _ => none) else none
    | none => none
  | _, .for_ tg src body kills hide, g => match hideM hide g with
    | some gh => match ck t src gh with
      | some (im, g1) => match setTgM tg im (killM kills g1) with
        | some ga => match cks t r (some ⟨killM kills g1, kills⟩) body ga with
          | some go => if plainSl (killM kills g1) tg.slots && (killed kills (killM kills g1) && (goOk go (killM kills g1) && hideOk r.ps g.length hide (tg.slots ++ asgd body ++ kills))) then some (some (unhideM hide g (killM kills g1))) else none
          | none => none
        | none => none
      | none => none
    | none => none
  | _, .whl c body kills, g => match ck t c (killM kills g) with
    | some (m, g1) => match cks t r (some ⟨killM kills g, kills⟩) body g1 with
      | some go => if m.fzb && (killed kills (killM kills g) && (goOk go (killM kills g) && weakM g1 (killM kills g))) then some (some (killM kills g)) else none
      | none => none
    | none => none
  | _, .drop e, g => match ck t e g with
    | some (_, g1) => some (some g1)
    | none => none
  | _, .pass, g => some (some g)
  | lp, .cont, g => match lp with
    | some l => if weakM g l.g then some none else none
    | none => none
  | lp, .brk, g => match lp with
    | some l => if weakM g l.g then some none else none
    | none => none
  | _, _, _ => none
/-! ### the text -/
def isTupX : Expr → Bool
  | .Tuple .. => true
  | .List .. => true
  | _ => false
def isComp : E → Bool
  | .comp .. => true
  | .comp2 .. => true
  | _ => false
/-- a name takes a value: as a comprehension's block hands it over -/
def swOk (mc : Mc) (e : E) (y : Str) (py : Pos) : Expr → Bool
  | .ListComp _ _ scope pos => decide (mc.sc.names.lookup y = some .local) && ((py.line == pos.line) && (!(scope.names.any fun (n, k) => n == y && (k == .local || k == .cell)) && isComp e))
  | .SetComp .. => false
  | .DictComp .. => false
  | _ => true
/-- a plain store -/
def swapFree' : Expr → Bool
  | .ListComp .. => false
  | .SetComp .. => false
  | .DictComp .. => false
  | _ => true
mutual
def matSt (mc : Mc) : S → Stmt → Bool
  | .ret e, .Return (some x) _ => mat mc e x
  | .retn, .Return none _ => true
  | .asg i e, .Assign [.Name y py] x _ => okS mc i y && (mat mc e x && swOk mc e y py x)
  | .asgT is e, .Assign [.Tuple ts _ _] x _ => matTs mc is ts && (mat mc e x && (swapFree' x && !isTupX x))
  | .asgF p c j e, .Assign [.Attribute o f _] x _ => decide (((mc.cf.getD c [])[j]?).map (·.1) = some f) && (mat mc p o && mat mc e x)
  | .setI p i e, .Assign [.Subscript o ix _] x _ => !isSliceX ix && (mat mc p o && (mat mc i ix && mat mc e x))
  | .aug o i e, .AugAssign (.Name y _) op x _ => decide (op = opB o) && (okS mc i y && mat mc e x)
  | .augI o p i e, .AugAssign (.Subscript b ix _) op x _ => decide (op = opB o) && (!isSliceX ix && (mat mc p b && (mat mc i ix && mat mc e x)))
  | .app p e, .Expr (.Call (.Attribute o m ap) [x] [] pos) _ => decide (m = ("append" : Str)) && (decide (ap.endLine = pos.line) && (dotX o && (!isStarX x && (mat mc p o && mat mc e x))))
  | .ext p e, .Expr (.Call (.Attribute o m ap) [x] [] pos) _ => decide (m = ("extend" : Str)) && (decide (ap.endLine = pos.line) && (dotX o && (!isStarX x && (mat mc p o && mat mc e x))))
  | .ins p i e, .Expr (.Call (.Attribute o m ap) [y, x] [] pos) _ => decide (m = ("insert" : Str)) && (decide (ap.endLine = pos.line) && (dotX o && (!isStarX y && (!isStarX x && (mat mc p o && (mat mc i y && mat mc e x))))))
  | .ifs c a b, .If x as bs _ => mat mc c x && (matSs mc a as && matSs mc b bs)
  | .for_ tg src body _ _, .For te it bs os _ => os.isEmpty && (!isSetX it && (srcT src te && (matS mc src it && (matT mc tg te && matSs mc body bs))))
  | .whl c body _, .While x bs os _ => os.isEmpty && (mat mc c x && matSs mc body bs)
  | .drop e, .Expr x _ => mat mc e x && swapFree' x
  | .pass, .Pass _ => true
  | .pass, .Expr (.Constant (.str _) _ _) _ => true
  | .cont, .Continue _ => true
  | .brk, .Break _ => true
  | _, _ => false
termination_by structural s => s
def matSs (mc : Mc) : S → List Stmt → Bool
  | .nil, [] => true
  | .cons s r, x :: xs => matSt mc s x && matSs mc r xs
  | _, _ => false
termination_by structural s => s
end
end DI
end
section
set_option Elab.async false
set_option linter.all false
set_option maxRecDepth 100000
/-! The frame weakened; own slots lent for a while, and had back. -/
namespace DI
open PySem PySem.Spec L2
section
variable {G : CT} {ts : List Addr} {H H' : Hp} {T T' : Tl} {ws ws' : List (List Addr)} {g g' : Md} {ρ ρ' : Rho} {σ σ' : L2.St}
variable {t : Tb} {C : Calls} {X : Cx} {mc : Mc} {k : Nat} {N B N' B' S : Sets}
/-- the cells of some slots alone -/
def keepW (b : Nat → Bool) : Nat → List (List Addr) → List (List Addr)
  | _, [] => []
  | i, w :: ws => (if b i then w else []) :: keepW b (i + 1) ws
theorem keepW_len {b : Nat → Bool} : ∀ {i : Nat} {ws : List (List Addr)}, (keepW b i ws).length = ws.length
  | _, [] => rfl
  | i, w :: ws => by show (keepW b (i + 1) ws).length + 1 = _; rw [keepW_len]; rfl
theorem keepW_get {b : Nat → Bool} : ∀ {i j : Nat} {ws : List (List Addr)}, (keepW b i ws).getD j [] = if b (i + j) then ws.getD j [] else []
  | _, _, [] => by unfold keepW; simp
  | i, 0, w :: ws => by unfold keepW; simp
  | i, j + 1, w :: ws => by
    unfold keepW
    have := keepW_get (b := b) (i := i + 1) (j := j) (ws := ws)
    simp only [List.getD_cons_succ]
    rw [this, show i + 1 + j = i + (j + 1) by omega]
theorem keepW_sub {b : Nat → Bool} : ∀ {i : Nat} {ws : List (List Addr)}, (keepW b i ws).flatten.Sublist ws.flatten
  | _, [] => List.Sublist.refl _
  | i, w :: ws => by
    unfold keepW
    rw [List.flatten_cons, List.flatten_cons]
    refine List.Sublist.append ?_ keepW_sub
    split
    · exact List.Sublist.refl _
    · exact List.nil_sublist _
theorem flat_at {ws : List (List Addr)} {a : Addr} (h : a ∈ ws.flatten) : ∃ i, i < ws.length ∧ a ∈ ws.getD i [] := by
  obtain ⟨w, hw, ha⟩ := List.mem_flatten.mp h
  obtain ⟨i, hi, e⟩ := List.getElem_of_mem hw
  exact ⟨i, hi, by rw [List.getD_eq_getElem?_getD, List.getElem?_eq_getElem hi, e]; exact ha⟩
/-- of two slots, no cell is in both -/
theorem one_slot (hn : ws.flatten.Nodup) {i j : Nat} {a : Addr} (h1 : a ∈ ws.getD i []) (h2 : a ∈ ws.getD j []) : i = j := by
  by_cases h : i = j
  · exact h
  · have hi : i < ws.length := by
      by_cases hi : i < ws.length
      · exact hi
      · rw [List.getD_eq_getElem?_getD, List.getElem?_eq_none (by omega)] at h1; cases h1
    exact absurd (mem_hid h2 h) (hid_not hn hi h1)
theorem keepW_mem {b : Nat → Bool} {a : Addr} (h : a ∈ (keepW b 0 ws).flatten) : ∃ i, b i = true ∧ a ∈ ws.getD i [] := by
  obtain ⟨i, _, hi⟩ := flat_at h
  rw [keepW_get, Nat.zero_add] at hi
  split at hi
  · exact ⟨i, by assumption, hi⟩
  · cases hi
/-! ### weakened -/
theorem weakM_get : ∀ {g g' : Md}, weakM g g' = true → g.length = g'.length ∧ ∀ (i : Nat) (m' : M), g'[i]? = some m' → ∃ m : M, g[i]? = some m ∧ weak1 m m' = true
  | [], [], _ => ⟨rfl, fun i m' h => by simp at h⟩
  | [], _ :: _, h => by cases h
  | _ :: _, [], h => by cases h
  | a :: as, b :: bs, h => by
    simp only [weakM, Bool.and_eq_true] at h
    obtain ⟨h1, h2⟩ := weakM_get h.2
    refine ⟨by simp [h1], fun i m' hm => ?_⟩
    cases i with
    | zero => simp at hm; subst hm; exact ⟨a, rfl, h.1⟩
    | succ i => exact h2 i m' (by simpa using hm)
theorem weakM_of : ∀ {g g' : Md}, g.length = g'.length → (∀ (i : Nat) (m m' : M), g[i]? = some m → g'[i]? = some m' → weak1 m m' = true) → weakM g g' = true
  | [], [], _, _ => rfl
  | [], _ :: _, h, _ => by simp at h
  | _ :: _, [], h, _ => by simp at h
  | a :: as, b :: bs, h, k => by
    simp only [weakM, Bool.and_eq_true]
    exact ⟨k 0 a b rfl rfl, weakM_of (by simpa using h) fun i m m' h1 h2 => k (i + 1) m m' (by simpa using h1) (by simpa using h2)⟩
theorem weak1_refl {m : M} : weak1 m m = true := by simp [weak1]
theorem EnvOk.weak (e : EnvOk G ts H T ws g ρ σ) (h : weakM g g' = true) : ∃ ws', EnvOk G ts H T ws' g' ρ σ ∧ ∀ a ∈ ws'.flatten, a ∈ ws.flatten := by
  obtain ⟨hl, hg⟩ := weakM_get h
  let b : Nat → Bool := fun i => decide (g.getD i .x = g'.getD i .x)
  have sub : ∀ a, uni T (keepW b 0 ws).flatten a → uni T ws.flatten a := fun a z => z.imp id fun q => keepW_sub.subset q
  refine ⟨keepW b 0 ws, ⟨by rw [e.lr, hl], by rw [e.ls, hl], by rw [keepW_len, e.lw, hl], e.nd.sublist keepW_sub, e.tt, fun a ha => e.dj a (keepW_sub.subset ha), fun i m' hm => ?_, e.tb⟩, fun a ha => keepW_sub.subset ha⟩
  obtain ⟨m, h1, h2⟩ := hg i m' hm
  have hb : b i = decide (m = m') := by
    show decide (g.getD i .x = g'.getD i .x) = _
    rw [List.getD_eq_getElem?_getD, h1, List.getD_eq_getElem?_getD, hm]; rfl
  rw [keepW_get, Nat.zero_add, hb]
  by_cases em : m = m'
  · subst em
    rw [if_pos (by simp)]
    exact (e.sl i m h1).imp id fun ⟨v, h3, r⟩ => ⟨v, h3, Rt.sets r fun a _ z => sub a z⟩
  · rw [if_neg (by simpa using em)]
    unfold weak1 at h2
    simp only [Bool.or_eq_true, Bool.and_eq_true, decide_eq_true_eq] at h2
    rcases h2 with h2 | rfl | ⟨rfl, hf⟩
    · exact absurd h2 em
    · exact .inl ⟨rfl, rfl⟩
    · rcases e.sl i m h1 with ⟨rfl, _⟩ | ⟨v, hv, r⟩
      · cases hf
      · refine .inr ⟨v, hv, .z (r.freeze hf sub fun a ha z => ?_)⟩
        rcases z with z | z
        · exact e.dj a (mem_flat ha) z
        · obtain ⟨j, hj, hj2⟩ := keepW_mem z
          have := one_slot e.nd ha hj2
          subst this
          rw [hb, decide_eq_true_eq] at hj
          exact em hj
theorem join1_l {a b : M} : weak1 a (join1 a b) = true := by
  unfold join1
  split
  · exact weak1_refl
  · split
    · rename_i h
      rw [Bool.and_eq_true] at h
      simp [weak1, h.1]
    · simp [weak1]
theorem join1_r {a b : M} : weak1 b (join1 a b) = true := by
  unfold join1
  split
  · rename_i h; subst h; exact weak1_refl
  · split
    · rename_i h
      rw [Bool.and_eq_true] at h
      simp [weak1, h.2]
    · simp [weak1]
theorem joinM_l : ∀ {a b : Md}, a.length = b.length → weakM a (joinM a b) = true
  | [], [], _ => rfl
  | [], _ :: _, h => by simp at h
  | _ :: _, [], h => by simp at h
  | x :: a, y :: b, h => by
    simp only [joinM, weakM, Bool.and_eq_true]
    exact ⟨join1_l, joinM_l (by simpa using h)⟩
theorem joinM_r : ∀ {a b : Md}, a.length = b.length → weakM b (joinM a b) = true
  | [], [], _ => rfl
  | [], _ :: _, h => by simp at h
  | _ :: _, [], h => by simp at h
  | x :: a, y :: b, h => by
    simp only [joinM, weakM, Bool.and_eq_true]
    exact ⟨join1_r, joinM_r (by simpa using h)⟩
theorem killM_get : ∀ {is : List Nat} {g : Md} {i : Nat} {m : M}, (killM is g)[i]? = some m → m = .x ∨ g[i]? = some m
  | [], _, _, _, h => .inr h
  | j :: is, g, i, m, h => by
    unfold killM at h
    rcases killM_get h with q | q
    · exact .inl q
    · by_cases hj : j = i
      · subst hj
        by_cases hl : j < g.length
        · rw [List.getElem?_set_self hl] at q
          exact .inl (Option.some.inj q).symm
        · rw [List.getElem?_eq_none (by simp; omega)] at q; cases q
      · rw [List.getElem?_set_ne hj] at q
        exact .inr q
theorem killM_len : ∀ {is : List Nat} {g : Md}, (killM is g).length = g.length
  | [], _ => rfl
  | j :: is, g => by unfold killM; rw [killM_len]; simp
theorem killM_weak {is : List Nat} {g : Md} : weakM g (killM is g) = true := by
  refine weakM_of killM_len.symm fun i m m' h1 h2 => ?_
  rcases killM_get h2 with rfl | q
  · simp [weak1]
  · rw [h1] at q; cases q; exact weak1_refl
theorem kill_out : ∀ {is : List Nat} {ρ : Rho} {i : Nat}, i ∉ is → (kill is ρ).getD i .non = ρ.getD i .non
  | [], _, _, _ => rfl
  | j :: is, ρ, i, h => by
    simp only [List.mem_cons, not_or] at h
    unfold kill
    rw [kill_out h.2, getD_set_ne fun e => h.1 e.symm]
theorem kill_len : ∀ {is : List Nat} {ρ : Rho}, (kill is ρ).length = ρ.length
  | [], _ => rfl
  | j :: is, ρ => by unfold kill; rw [kill_len]; simp
theorem EnvOk.kill {is : List Nat} (e : EnvOk G ts H T ws g ρ σ) (h : killed is g = true) : EnvOk G ts H T ws g (DI.kill is ρ) σ := by
  unfold killed at h
  rw [List.all_eq_true] at h
  refine ⟨by rw [kill_len]; exact e.lr, e.ls, e.lw, e.nd, e.tt, e.dj, fun i m hm => ?_, e.tb⟩
  by_cases hi : i ∈ is
  · have := h i hi
    rw [decide_eq_true_eq, hm] at this
    cases this
    rcases e.sl i .x hm with q | ⟨v, _, r⟩
    · exact .inl q
    · exact (Rp.x_no r).elim
  · rw [kill_out hi]
    exact e.sl i m hm
/-- slots taken off -/
theorem EnvOk.restrict (e : EnvOk G ts H T ws g ρ σ) (hl : g'.length = g.length) (b : Nat → Bool) (h : ∀ (i : Nat) (m' : M), g'[i]? = some m' → m' = .x ∧ b i = false ∨ (b i = true ∧ g[i]? = some m')) : EnvOk G ts H T (keepW b 0 ws) g' ρ σ := by
  refine ⟨by rw [e.lr, hl], by rw [e.ls, hl], by rw [keepW_len, e.lw, hl], e.nd.sublist keepW_sub, e.tt, fun a ha => e.dj a (keepW_sub.subset ha), fun i m' hm => ?_, e.tb⟩
  rw [keepW_get, Nat.zero_add]
  rcases h i m' hm with ⟨rfl, hb⟩ | ⟨hb, h1⟩
  · rw [hb]; exact .inl ⟨rfl, rfl⟩
  · rw [if_pos hb]
    exact (e.sl i m' h1).imp id fun ⟨v, h3, r⟩ => ⟨v, h3, Rt.sets r fun a _ z => z.imp id fun q => keepW_sub.subset q⟩
/-! ### lent for a while -/
theorem hideI_len {hide : List Nat} : ∀ {i : Nat} {g gh : Md}, hideI hide i g = some gh → gh.length = g.length
  | _, [], _, h => by simp only [hideI] at h; cases h; rfl
  | i, m :: ms, gh, h => by
    simp only [hideI] at h
    split at h
    · rename_i e; cases h; simp [hideI_len e]
    · cases h
theorem hideI_get {hide : List Nat} : ∀ {i : Nat} {g gh : Md} {j : Nat} {m : M}, hideI hide i g = some gh → g[j]? = some m → ∃ m', gh[j]? = some m' ∧ hide1 hide (i + j) m = some m'
  | _, [], _, _, _, _, h => by simp at h
  | i, a :: as, gh, 0, m, h, e => by
    simp at e; subst e
    simp only [hideI] at h
    split at h
    · rename_i e1 _; cases h; exact ⟨_, rfl, e1⟩
    · cases h
  | i, a :: as, gh, j + 1, m, h, e => by
    simp only [hideI] at h
    split at h
    · rename_i e2
      cases h
      obtain ⟨m', h1, h2⟩ := hideI_get e2 (by simpa using e)
      exact ⟨m', by simpa using h1, by rw [← h2, show i + 1 + j = i + (j + 1) by omega]⟩
    · cases h
def hw (hide : List Nat) (ws : List (List Addr)) : List (List Addr) := keepW (fun i => hide.contains i) 0 ws
def ow (hide : List Nat) (ws : List (List Addr)) : List (List Addr) := keepW (fun i => !hide.contains i) 0 ws
theorem how_split {hide : List Nat} {a : Addr} : a ∈ ws.flatten ↔ a ∈ (hw hide ws).flatten ∨ a ∈ (ow hide ws).flatten := by
  constructor
  · intro h
    obtain ⟨i, _, hi⟩ := flat_at h
    by_cases c : hide.contains i = true
    · left
      exact mem_flat (i := i) (by unfold hw; rw [keepW_get, Nat.zero_add, if_pos c]; exact hi)
    · right
      exact mem_flat (i := i) (by unfold ow; rw [keepW_get, Nat.zero_add, if_pos (by simpa using c)]; exact hi)
  · exact fun h => h.elim (fun h => keepW_sub.subset h) fun h => keepW_sub.subset h
theorem how_dj {hide : List Nat} (hn : ws.flatten.Nodup) {a : Addr} (h1 : a ∈ (hw hide ws).flatten) (h2 : a ∈ (ow hide ws).flatten) : False := by
  obtain ⟨i, b1, i1⟩ := keepW_mem h1
  obtain ⟨j, b2, j2⟩ := keepW_mem h2
  have := one_slot hn i1 j2
  subst this
  rw [b1] at b2
  cases b2
theorem EnvOk.hide {hide : List Nat} {gh : Md} (e : EnvOk G ts H T ws g ρ σ) (h : hideM hide g = some gh) : EnvOk G ts H (lent T (hw hide ws).flatten) (ow hide ws) gh ρ σ := by
  have hl := hideI_len h
  have sub : ∀ a, uni (lent T (hw hide ws).flatten) (ow hide ws).flatten a → uni T ws.flatten a := fun a z =>
    z.elim (fun z => z.imp id fun q => how_split.mpr (.inl q)) fun q => .inr (how_split.mpr (.inr q))
  refine ⟨by rw [e.lr, hl], by rw [e.ls, hl], by unfold ow; rw [keepW_len, e.lw, hl], e.nd.sublist keepW_sub, fun a z => z.elim (e.tt a) fun q => e.trk a (how_split.mpr (.inl q)), fun a ha z => z.elim (e.dj a (how_split.mpr (.inr ha))) fun q => how_dj e.nd q ha, fun i m' hm => ?_, e.tb⟩
  have hi : i < g.length := by rw [← hl]; exact (List.getElem?_eq_some_iff.mp hm).1
  have hg : g[i]? = some g[i] := List.getElem?_eq_getElem hi
  obtain ⟨m2, h1, h2⟩ := hideI_get h hg
  rw [hm] at h1
  cases h1
  rw [Nat.zero_add] at h2
  unfold ow
  rw [keepW_get, Nat.zero_add]
  revert h2 hg
  generalize g[i] = m
  intro hg h2
  unfold hide1 at h2
  by_cases c : hide.contains i = true
  · rw [if_pos c] at h2
    rw [if_neg (by rw [c]; simp)]
    rcases e.sl i m hg with ⟨rfl, _⟩ | ⟨v, hv, r⟩
    · cases h2
    · have main : m.pl = true → m' = .w m → (m' = .x ∧ ([] : List Addr) = []) ∨ ∃ v, σ[i]? = some (some v) ∧ Rt G H (uni (lent T (hw hide ws).flatten) (ow hide ws).flatten) m' (ρ.getD i .non) v [] := fun _ em => by
        subst em
        refine .inr ⟨v, hv, .w ?_⟩
        refine (r.lend (B' := (uni (lent T (hw hide ws).flatten) (ow hide ws).flatten).b) (fun a z => ⟨sub a z.1, fun q => z.2 (.inl q)⟩) fun a ha z => z.2 (.inr ?_)).sets (fun a _ z => sub a z) fun a _ z => z
        exact mem_flat (i := i) (by unfold hw; rw [keepW_get, Nat.zero_add, if_pos c]; exact ha)
      cases m with
      | w m =>
        cases h2
        have e2 := r.w_nil
        rw [e2] at r
        exact .inr ⟨v, hv, Rt.sets r (fun a _ z => sub a z) fun a z => .inl z⟩
      | x => cases h2
      | z => cases h2; exact main rfl rfl
      | tn => cases h2; exact main rfl rfl
      | O c k => cases h2; exact main rfl rfl
      | L m1 =>
        simp only at h2
        split at h2
        · cases h2; exact main (by assumption) rfl
        · cases h2
      | tc m1 m2 =>
        simp only at h2
        split at h2
        · cases h2; exact main (by assumption) rfl
        · cases h2
  · rw [if_neg c] at h2
    cases h2
    rw [if_pos (by simpa using c)]
    exact (e.sl i _ hg).imp id fun ⟨v, h3, r⟩ => ⟨v, h3, Rt.sets r (fun a _ z => sub a z) fun a z => .inl z⟩
/-- the cells behind: those that were lent, and those of the plain slots -/
def backW (hide : List Nat) (g1 : Md) : Nat → List (List Addr) → List (List Addr) → List (List Addr)
  | i, w :: ws, w' :: ws' => (if hide.contains i then w else if (g1.getD i .x).pl then w' else []) :: backW hide g1 (i + 1) ws ws'
  | _, _, _ => []
theorem backW_len {hide : List Nat} {g1 : Md} : ∀ {i : Nat} {ws ws' : List (List Addr)}, ws.length = ws'.length → (backW hide g1 i ws ws').length = ws.length
  | _, [], [], _ => rfl
  | _, [], _ :: _, h => by simp at h
  | _, _ :: _, [], h => by simp at h
  | i, w :: ws, w' :: ws', h => by
    show (backW hide g1 (i + 1) ws ws').length + 1 = _
    rw [backW_len (by simpa using h)]; rfl
theorem backW_get {hide : List Nat} {g1 : Md} : ∀ {i j : Nat} {ws ws' : List (List Addr)}, ws.length = ws'.length → (backW hide g1 i ws ws').getD j [] = if hide.contains (i + j) then ws.getD j [] else if (g1.getD (i + j) .x).pl then ws'.getD j [] else []
  | _, _, [], [], _ => by unfold backW; simp
  | _, _, [], _ :: _, h => by simp at h
  | _, _, _ :: _, [], h => by simp at h
  | i, 0, w :: ws, w' :: ws', h => by unfold backW; simp
  | i, j + 1, w :: ws, w' :: ws', h => by
    unfold backW
    have := backW_get (hide := hide) (g1 := g1) (i := i + 1) (j := j) (ws := ws) (ws' := ws') (by simpa using h)
    simp only [List.getD_cons_succ]
    rw [this, show i + 1 + j = i + (j + 1) by omega]
theorem backW_nodup {hide : List Nat} {g1 : Md} : ∀ {i : Nat} {ws ws' : List (List Addr)}, ws.length = ws'.length → (keepW (fun i => hide.contains i) i ws).flatten.Nodup → (keepW (fun i => !hide.contains i) i ws').flatten.Nodup → (∀ a ∈ (keepW (fun i => hide.contains i) i ws).flatten, a ∉ (keepW (fun i => !hide.contains i) i ws').flatten) →
    (backW hide g1 i ws ws').flatten.Nodup ∧ ∀ a ∈ (backW hide g1 i ws ws').flatten, a ∈ (keepW (fun i => hide.contains i) i ws).flatten ∨ a ∈ (keepW (fun i => !hide.contains i) i ws').flatten
  | _, [], [], _, _, _, _ => ⟨List.nodup_nil, fun a h => nomatch h⟩
  | _, [], _ :: _, h, _, _, _ => by simp at h
  | _, _ :: _, [], h, _, _, _ => by simp at h
  | i, w :: ws, w' :: ws', h, n1, n2, dj => by
    unfold keepW at n1 n2 dj ⊢
    unfold backW
    rw [List.flatten_cons, List.nodup_append] at n1 n2
    rw [List.flatten_cons, List.flatten_cons] at dj
    obtain ⟨i1, i2⟩ := backW_nodup (g1 := g1) (i := i + 1) (by simpa using h) n1.2.1 n2.2.1 fun a ha z => dj a (List.mem_append_right _ ha) (List.mem_append_right _ z)
    rw [List.flatten_cons, List.flatten_cons, List.flatten_cons]
    by_cases c : hide.contains i = true
    · rw [if_pos c] at n1 dj
      have c2 : (!hide.contains i) = false := by rw [c]; rfl
      simp only [c, c2, if_true, Bool.false_eq_true, if_false] at n1 n2 dj ⊢
      refine ⟨List.nodup_append.mpr ⟨n1.1, i1, fun a ha b hb e => ?_⟩, fun a ha => ?_⟩
      · subst e
        rcases i2 a hb with q | q
        · exact n1.2.2 a ha a q rfl
        · exact dj a (List.mem_append_left _ ha) (List.mem_append_right _ q)
      · rcases List.mem_append.mp ha with q | q
        · exact .inl (List.mem_append_left _ q)
        · exact (i2 a q).imp (List.mem_append_right _) (List.mem_append_right _)
    · have c1 : hide.contains i = false := by simpa using c
      have c2 : (!hide.contains i) = true := by rw [c1]; rfl
      simp only [c1, c2, if_true, Bool.false_eq_true, if_false] at n1 n2 dj ⊢
      have part : ∀ a, a ∈ (if (g1.getD i .x).pl = true then w' else []) → a ∈ w' := fun a ha => by
        split at ha
        · exact ha
        · cases ha
      refine ⟨List.nodup_append.mpr ⟨?_, i1, fun a ha b hb e => ?_⟩, fun a ha => ?_⟩
      · split
        · exact n2.1
        · exact List.nodup_nil
      · subst e
        rcases i2 a hb with q | q
        · exact dj a (List.mem_append_right _ q) (List.mem_append_left _ (part a ha))
        · exact n2.2.2 a (part a ha) a q rfl
      · rcases List.mem_append.mp ha with q | q
        · exact .inr (List.mem_append_left _ (part a q))
        · exact (i2 a q).imp (List.mem_append_right _) (List.mem_append_right _)
/-- the slots that were lent are had back; the others stand if nothing lent is in them -/
theorem EnvOk.unhide {mc : Mc} {hide : List Nat} {gh g1 : Md} {ws1 : List (List Addr)} {ρ1 : Rho} {σ1 : L2.St} {w : List Addr} (hG : GOk t mc G) (e : EnvOk G ts H T ws g ρ σ) (h : hideM hide g = some gh) (st : Stp H (ow hide ws).flatten H' (w ++ ws1.flatten)) (e1 : EnvOk G ts H' (uni (lent T (hw hide ws).flatten) w) ws1 g1 ρ1 σ1)
    (hs : ∀ i ∈ hide, σ1[i]? = σ[i]?) (hdl : ∀ i ∈ hide, i < g.length) (hne : g1.length = g.length) (nd : w.Nodup) (hwT : ∀ a ∈ w, ¬ lent T (hw hide ws).flatten a) :
    ∃ ws2, EnvOk G ts H' (uni T w) ws2 (g1.mapIdx fun i m => unhide1 hide g i m) (DI.back ρ hide ρ1) σ1 ∧ Stp H ws.flatten H' (w ++ ws2.flatten) ∧ (∀ a ∈ ws2.flatten, a ∈ ws1.flatten ∨ a ∈ (hw hide ws).flatten) := by
  have l2 : ws.length = ws1.length := by rw [e.lw, e1.lw, hne]
  have hd1 : ∀ a ∈ (keepW (fun i => hide.contains i) 0 ws).flatten, a ∉ (keepW (fun i => !hide.contains i) 0 ws1).flatten := fun a ha z =>
    e1.dj a (keepW_sub.subset z) (.inl (.inr ha))
  obtain ⟨n1, n2⟩ := backW_nodup (g1 := g1) (i := 0) l2 (e.nd.sublist keepW_sub) (e1.nd.sublist keepW_sub) hd1
  have mem2 : ∀ a ∈ (backW hide g1 0 ws ws1).flatten, a ∈ ws1.flatten ∨ a ∈ (hw hide ws).flatten := fun a ha => (n2 a ha).elim .inr fun q => .inl (keepW_sub.subset q)
  have st2 : Stp H ws.flatten H' (w ++ (backW hide g1 0 ws ws1).flatten) := by
    refine ⟨st.kp.mono fun a z => how_split.mpr (.inr z), fun a ha => ?_, st.trk⟩
    rcases List.mem_append.mp ha with ha | ha
    · exact (st.sub a (List.mem_append_left _ ha)).imp (fun z => how_split.mpr (.inr z)) id
    · rcases mem2 a ha with q | q
      · exact (st.sub a (List.mem_append_right _ q)).imp (fun z => how_split.mpr (.inr z)) id
      · exact .inl (how_split.mpr (.inl q))
  have sets : ∀ a, uni (uni T w) (backW hide g1 0 ws ws1).flatten a → uni (uni (lent T (hw hide ws).flatten) w) ws1.flatten a := fun a z => by
    rcases z with (z | z) | z
    · exact .inl (.inl (.inl z))
    · exact .inl (.inr z)
    · rcases mem2 a z with q | q
      · exact .inr q
      · exact .inl (.inl (.inr q))
  refine ⟨backW hide g1 0 ws ws1, ⟨?_, ?_, ?_, n1, fun a z => z.elim (fun z => e1.tt a (.inl (.inl z))) fun z => e1.tt a (.inr z), fun a ha z => ?_, fun i m hm => ?_, e1.tb⟩, st2, mem2⟩
  · rw [back_len, List.length_mapIdx]; exact e1.lr
  · rw [List.length_mapIdx]; exact e1.ls
  · rw [backW_len l2, e.lw, List.length_mapIdx, hne]
  · rcases mem2 a ha with q | q
    · exact e1.dj a q (z.elim (fun z => .inl (.inl z)) .inr)
    · rcases z with z | z
      · exact e.dj a (how_split.mpr (.inl q)) z
      · exact hwT a z (.inr q)
  · rw [List.getElem?_mapIdx, Option.map_eq_some_iff] at hm
    obtain ⟨m1, h1, rfl⟩ := hm
    have hi1 : i < g1.length := (List.getElem?_eq_some_iff.mp h1).1
    rw [backW_get l2, Nat.zero_add]
    unfold unhide1
    by_cases c : hide.contains i = true
    · have hi : i ∈ hide := by simpa using c
      rw [if_pos c, if_pos c, back_in hi (by rw [e1.lr]; exact hi1)]
      have hig := hdl i hi
      have hgi : g[i]? = some (g.getD i .x) := by rw [List.getD_eq_getElem?_getD, List.getElem?_eq_getElem hig]; rfl
      rw [hs i hi]
      refine (e.sl i _ hgi).imp id fun ⟨v, hv, r⟩ => ⟨v, hv, ?_⟩
      refine Rt.next r st.kp (fun a z => ⟨.inr (how_split.mpr (.inr z)), fun q => e.dj a (how_split.mpr (.inr z)) (T.h a q)⟩) (fun a ha z => ?_) fun a ha z => ?_
      · rcases z with (z | z) | z
        · exact .inl z
        · exact (st.sub a (List.mem_append_left _ z)).elim (fun q => .inr (how_split.mpr (.inr q))) fun q => absurd q ha
        · rcases mem2 a z with q | q
          · exact (st.sub a (List.mem_append_right _ q)).elim (fun q => .inr (how_split.mpr (.inr q))) fun q => absurd q ha
          · exact .inr (how_split.mpr (.inl q))
      · exact how_dj e.nd (mem_flat (i := i) (by unfold hw; rw [keepW_get, Nat.zero_add, if_pos c]; exact ha)) z
    · have hi : i ∉ hide := by simpa using c
      rw [if_neg c, if_neg c, back_out hi]
      have hgi : g1.getD i .x = m1 := by rw [List.getD_eq_getElem?_getD, h1]; rfl
      rw [hgi]
      by_cases p : m1.pl = true
      · rw [if_pos p, if_pos p]
        refine (e1.sl i m1 h1).imp id fun ⟨v, hv, r⟩ => ⟨v, hv, ?_⟩
        exact Rp.sets (r.anyB hG.pl p) (fun a _ z => sets a z) fun _ _ z => z
      · rw [if_neg p, if_neg p]
        exact .inl ⟨rfl, rfl⟩
end
end DI
end
section
set_option Elab.async false
set_option linter.all false
set_option maxRecDepth 100000
/-! Places written. -/
namespace DI
open PySem PySem.Spec L2
section
variable {G : CT} {ts : List Addr} {H H' : Hp} {T T' : Tl} {ws ws' : List (List Addr)} {g g' : Md} {ρ ρ' : Rho} {σ σ' : L2.St}
variable {t : Tb} {C : Calls} {X : Cx} {mc : Mc} {k : Nat} {N B N' B' S : Sets}
theorem EnvOk.putAt {w0 : List Addr} {p : E} {m : M} {x d' : D} {up : D → Rho} {v vr : V} {w w' : List Addr} {mr : M} {ur : D → D} {H3 : Hp} (env : EnvOk G ts H (uni T w0) ws g ρ σ) (nd0 : w0.Nodup) (dj0 : ∀ a ∈ w0, ¬ T a)
    (f : Foc G ts H (uni T w0) ws g ρ σ p m x up v w mr vr ur) (kp : Kp H H3 (· ∈ w)) (tr : ∀ a, H a ≠ none → H3 a ≠ none) (tb : Tabs ts H3) (hw : ∀ a ∈ w', a ∈ w ∨ a ∈ w0) (nd : w'.Nodup)
    (r : Rp G H3 (uni (uni T w0) ws.flatten).s (uni (uni T w0) ws.flatten).b true m d' v w') :
    ∃ ws3, EnvOk G ts H3 T ws3 g (up d') σ ∧ (∀ a ∈ ws3.flatten, a ∈ ws.flatten ∨ a ∈ w0) := by
  obtain ⟨fi, fnw, fv, ⟨rep, rest, hperm, put⟩, _, fup, _⟩ := f
  obtain ⟨i, hi⟩ : ∃ i, i = root p := ⟨_, rfl⟩
  rw [← hi] at fi fv hperm fup
  have hig : i < g.length := (List.getElem?_eq_some_iff.mp fi).1
  have hwi : i < ws.length := by rw [env.lw]; exact hig
  have pnd : (ws.getD i []).Nodup := by
    have := (flat_split hwi).nodup_iff.mp env.nd
    rw [List.nodup_append] at this
    exact this.1
  have wrn := hperm.nodup_iff.mp pnd
  rw [List.nodup_append] at wrn
  have wmem : ∀ a ∈ w, a ∈ ws.getD i [] := fun a ha => hperm.symm.subset (List.mem_append_left _ ha)
  have rmem : ∀ a ∈ rest, a ∈ ws.getD i [] := fun a ha => hperm.symm.subset (List.mem_append_right _ ha)
  have hnot : ∀ a ∈ ws.getD i [], a ∉ (ws.set i []).flatten := fun a ha => hid_not env.nd hwi ha
  have inW : ∀ a ∈ w, a ∈ ws.flatten := fun a ha => mem_flat (wmem a ha)
  have nx : Nx H (· ∈ w) (uni (uni T w0) ws.flatten).s (uni (uni T w0) ws.flatten).b (uni (uni T w0) ws.flatten).s (uni (uni T w0) ws.flatten).b :=
    ⟨fun a z => .inr (inW a z), fun a z => ⟨.inr (inW a z), fun l => env.dj a (inW a z) (.inl (T.h a l))⟩, fun a _ z => z, fun a _ z => z⟩
  obtain ⟨wr', r1, pm⟩ := put H3 _ _ _ d' w' kp nx (fun a ha z => wrn.2.2 a z a ha rfl) r
  have wrm : ∀ a ∈ wr', a ∈ ws.getD i [] ∨ a ∈ w0 := fun a ha => (List.mem_append.mp (pm.subset ha)).elim (fun z => (hw a z).imp (wmem a) id) fun z => .inl (rmem a z)
  have ndr : wr'.Nodup := pm.nodup_iff.mpr (List.nodup_append.mpr ⟨nd, wrn.2.1, fun a ha b hb e => by
    subst e
    rcases hw a ha with q | q
    · exact wrn.2.2 a q a hb rfl
    · exact env.dj a (mem_flat (rmem a hb)) (.inr q)⟩)
  have djr : ∀ a ∈ wr', ¬ T a := fun a ha z => (wrm a ha).elim (fun q => env.dj a (mem_flat q) (.inl z)) fun q => dj0 a q z
  have envh := env.take (d' := ρ.getD i .non) hig (.inl (rfl : M.x = .x))
  rw [set_getD] at envh
  have envp : EnvOk G ts H3 (uni T wr') (ws.set i []) (g.set i .x) ρ σ := by
    refine envh.pass kp (fun a z => ⟨.inl (.inr (wmem a z)), fun l => env.dj a (inW a z) (.inl (T.h a l))⟩) (fun a ha z => hnot a (wmem a z) ha) tr tb (fun a z => ?_) (fun a z => .inl ?_) (fun a z q => ?_) fun a z => z
    · rcases z with z | z
      · exact tr a (env.tt a (.inl z))
      · exact r1.trk a z
    · rcases z with z | z
      · exact .inl (.inl (.inl z))
      · exact (wrm a z).elim (fun q => .inl (.inr q)) fun q => .inl (.inl (.inr q))
    · rcases z with z | z
      · exact env.dj a (flat_set_nil.subset q) (.inl z)
      · exact (wrm a z).elim (fun y => hnot a y q) fun y => env.dj a (flat_set_nil.subset q) (.inr y)
  have envf := envp.give (i := i) (m := mr) (d := ur d') (v := vr) (w := wr') (by simpa using hig) (by
      refine Rp.sets r1 (fun a _ z => ?_) fun a _ z => ⟨?_, z.2⟩
      · rcases z with (z | z) | z
        · exact .inl (.inl z)
        · exact (wrm a z).elim (fun q => .inr (mem_flat q)) fun q => .inl (.inr q)
        · exact .inr (flat_set_nil.subset z)
      · rcases z.1 with (z | z) | z
        · exact .inl (.inl z)
        · exact (wrm a z).elim (fun q => .inr (mem_flat q)) fun q => .inl (.inr q)
        · exact .inr (flat_set_nil.subset z)) ndr djr
  rw [List.set_set, List.set_set, set_same fi, set_same fv] at envf
  refine ⟨_, by rw [fup]; exact envf, fun a ha => ?_⟩
  rcases mem_set_flat ha with q | q
  · exact .inl q
  · exact (wrm a q).imp mem_flat id
theorem Rp.isL {m me : M} {d : D} {v : V} {w : List Addr} (h : Rp G H N B true m d v w) (hm : m = .L me) : ∃ (ds : List D) (a : Addr) (xs : List V) (wl : List Addr), d = .lst ds ∧ v = .ref a ∧ w = a :: wl ∧ H a = some (.lst xs) ∧ RpA G H N B true me ds xs wl := by
  subst hm
  cases h with
  | T _ r => cases r
  | @L _ _ ds a xs wl h _ r => exact ⟨ds, a, xs, wl, rfl, rfl, rfl, h, r⟩
/-- what is written in place -/
def ownH : HO → Bool
  | .lst _ => true
  | .ins .. => true
  | _ => false
theorem stp_put {w B : List Addr} {ws1 ws3 : List (List Addr)} {H1 : Hp} {a : Addr} {o : HO} (st : Stp H B H1 (w ++ ws1.flatten)) (ha : a ∈ ws1.flatten) (hl : ∃ o', H1 a = some o' ∧ ownH o' = true) (h3 : ∀ a ∈ ws3.flatten, a ∈ ws1.flatten ∨ a ∈ w) : Stp H B (upd H1 a o) ws3.flatten := by
  obtain ⟨o', h1, h4⟩ := hl
  refine ⟨⟨fun b ob e s n => ?_, fun b xs e => ?_, fun b ob u e => ?_⟩, fun b hb => ?_, fun b hb => trk_new b (st.trk b hb)⟩
  · have : b ≠ a := fun z => by
      subst z
      rcases st.sub b (List.mem_append_right _ ha) with q | q
      · exact n q
      · rw [e] at q; cases q
    rw [upd_ne this]
    exact st.kp.keep b ob e s n
  · have := st.kp.tup b xs e
    rw [upd_ne fun z => by subst z; rw [h1] at this; cases this; cases h4]; exact this
  · have := st.kp.frz b ob u e
    rw [upd_ne fun z => by subst z; rw [h1] at this; cases this; cases h4]; exact this
  · exact (h3 b hb).elim (fun z => st.sub b (List.mem_append_right _ z)) fun z => st.sub b (List.mem_append_left _ z)
theorem kp_set {a : Addr} {o : HO} {w : List Addr} (hl : ∃ o', H a = some o' ∧ ownH o' = true) (hw : a ∈ w) : Kp H (upd H a o) (· ∈ w) := by
  obtain ⟨o', h1, h4⟩ := hl
  refine ⟨fun b ob e s n => ?_, fun b xs e => ?_, fun b ob u e => ?_⟩
  · rw [upd_ne fun z => n (by rw [z]; exact hw)]; exact e
  · rw [upd_ne fun z => by subst z; rw [h1] at e; cases e; cases h4]; exact e
  · rw [upd_ne fun z => by subst z; rw [h1] at e; cases e; cases h4]; exact e
theorem tabs_set {a : Addr} {o : HO} (hl : ∃ o', H a = some o' ∧ ownH o' = true) (h : Tabs ts H) : Tabs ts (upd H a o) := fun b hb => by
  obtain ⟨o', h1, h2⟩ := hl
  obtain ⟨ps, h3, h4⟩ := h b hb
  exact ⟨ps, by rw [upd_ne fun z => by subst z; rw [h1] at h3; cases h3; cases h2]; exact h3, h4⟩
/-- an own list is written -/
theorem list_put (hG : GOk t mc G) {B w : List Addr} {ws1 : List (List Addr)} {H1 : Hp} {g1 : Md} {ρ1 : Rho} {p : E} {me : M} {xs : List D} {up : D → Rho} (st : Stp H B H1 (w ++ ws1.flatten)) (env1 : EnvOk G ts H1 (uni T w) ws1 g1 ρ1 σ) (nd : w.Nodup) (dj : ∀ a ∈ w, ¬ T a)
    (hp : isPath p = true) (hm : pmode t g1 p = some (.L me)) (hl : loc ρ1 p = some (.lst xs, up)) :
    ∃ (a : Addr) (zs : List V) (wl : List Addr), PathV G σ H1 p (.ref a) ∧ H1 a = some (.lst zs) ∧ RpA G H1 (uni (uni T w) ws1.flatten).s (uni (uni T w) ws1.flatten).b true me xs zs wl ∧ wl.Nodup ∧ (∀ b ∈ wl, b ∉ w) ∧
      ∀ (zs' : List V) (xs' : List D) (wl' : List Addr), (∀ b ∈ wl', b ∈ wl ∨ b ∈ w) → wl'.Nodup → RpA G H1 (uni (uni T w) ws1.flatten).s (uni (uni T w) ws1.flatten).b true me xs' zs' wl' →
        ∃ ws3, EnvOk G ts (upd H1 a (.lst zs')) T ws3 g1 (up (.lst xs')) σ ∧ Stp H B (upd H1 a (.lst zs')) ws3.flatten := by
  obtain ⟨v, w1, mr, vr, ur, f⟩ := foc hG env1 hp hm rfl hl
  obtain ⟨ds, a, zs, wl, e1, e2, e3, ha, r⟩ := f.sub.1.isL rfl
  cases e1
  subst e2 e3
  have hi : root p < g1.length := (List.getElem?_eq_some_iff.mp f.hi).1
  have hwi : root p < ws1.length := by rw [env1.lw]; exact hi
  obtain ⟨_, rest, hperm, _⟩ := f.sub
  have pnd : (ws1.getD (root p) []).Nodup := by
    have := (flat_split hwi).nodup_iff.mp env1.nd
    rw [List.nodup_append] at this
    exact this.1
  have wrn := hperm.nodup_iff.mp pnd
  rw [List.nodup_append] at wrn
  have wmem : ∀ b ∈ a :: wl, b ∈ ws1.flatten := fun b hb => mem_flat (hperm.symm.subset (List.mem_append_left _ hb))
  have na := (List.nodup_cons.mp wrn.1)
  have aw : ∀ b ∈ a :: wl, b ∉ w := fun b hb z => env1.dj b (wmem b hb) (.inr z)
  refine ⟨a, zs, wl, f.at_ H1 (fun _ => False) Kp.refl fun _ _ z => z, ha, r, na.2, fun b hb => aw b (List.mem_cons_of_mem _ hb), fun zs' xs' wl' hs nd' r' => ?_⟩
  have hown : ∃ o', H1 a = some o' ∧ ownH o' = true := ⟨_, ha, rfl⟩
  have naw : a ∉ wl' := fun z => (hs a z).elim na.1 fun q => aw a List.mem_cons_self q
  have kp1 : Kp H1 (upd H1 a (.lst zs')) (· ∈ [a]) := kp_set hown (by simp)
  have r3 : RpA G (upd H1 a (.lst zs')) (uni (uni T w) ws1.flatten).s (uni (uni T w) ws1.flatten).b true me xs' zs' wl' :=
    r'.next kp1 ⟨fun b z => by rw [List.mem_singleton.mp z]; exact .inr (wmem a List.mem_cons_self), fun b z => by rw [List.mem_singleton.mp z]; exact ⟨.inr (wmem a List.mem_cons_self), fun q => env1.dj a (wmem a List.mem_cons_self) (.inl (T.h a q))⟩, fun _ _ z => z, fun _ _ z => z⟩
      fun b hb z => naw (by rw [← List.mem_singleton.mp z]; exact hb)
  obtain ⟨ws3, e, h3⟩ := env1.putAt nd dj f (kp_set (o := .lst zs') hown List.mem_cons_self) (fun b hb => trk_new b hb) (tabs_set ⟨_, ha, rfl⟩ env1.tb) (w' := a :: wl') (d' := .lst xs')
    (fun b hb => by
      rcases List.mem_cons.mp hb with rfl | hb
      · exact .inl List.mem_cons_self
      · exact (hs b hb).imp (List.mem_cons_of_mem _) id)
    (List.nodup_cons.mpr ⟨naw, nd'⟩) (Rp.L (w := wl') upd_same (fun z => nomatch z) r3)
  exact ⟨ws3, e, stp_put st (wmem a List.mem_cons_self) hown h3⟩
/-! ### lists of reps -/
theorem RpA.get : ∀ {o : Bool} {m : M} {ds : List D} {vs : List V} {w : List Addr} {i : Nat} {d : D}, RpA G H N B o m ds vs w → ds[i]? = some d → ∃ v wi, vs[i]? = some v ∧ Rp G H N B o m d v wi
  | _, _, _, _, _, _, _, .nil, e => by simp at e
  | _, _, _, _, _, 0, _, .cons h _, e => by simp at e; subst e; exact ⟨_, _, rfl, h⟩
  | _, _, _, _, _, i + 1, _, .cons _ t, e => by
    obtain ⟨v, w, h1, h2⟩ := RpA.get (i := i) t (by simpa using e)
    exact ⟨v, w, by simpa using h1, h2⟩
theorem RpA.set : ∀ {o : Bool} {m : M} {ds : List D} {vs : List V} {w : List Addr} {i : Nat} {d : D} {v : V} {w2 : List Addr}, RpA G H N B o m ds vs w → i < ds.length → Rp G H N B o m d v w2 → w.Nodup → w2.Nodup → (∀ a ∈ w, a ∉ w2) → ∃ w', RpA G H N B o m (ds.set i d) (vs.set i v) w' ∧ w'.Nodup ∧ ∀ a ∈ w', a ∈ w ∨ a ∈ w2
  | _, _, _, _, _, _, _, _, _, .nil, h, _, _, _, _ => by simp at h
  | _, _, _, _, _, 0, d, v, w2, .cons (w1 := wa) (w2 := wb) h t, _, r, n1, n2, dj => by
    rw [List.nodup_append] at n1
    refine ⟨w2 ++ wb, .cons r t, List.nodup_append.mpr ⟨n2, n1.2.1, fun a ha b hb e => dj b (List.mem_append_right _ hb) (e ▸ ha)⟩, fun a ha => ?_⟩
    rcases List.mem_append.mp ha with q | q
    · exact .inr q
    · exact .inl (List.mem_append_right _ q)
  | _, _, _, _, _, i + 1, d, v, w2, .cons (w1 := wa) (w2 := wb) h t, hl, r, n1, n2, dj => by
    rw [List.nodup_append] at n1
    obtain ⟨w', h1, h2, h3⟩ := RpA.set (i := i) t (by simpa using hl) r n1.2.1 n2 fun a ha => dj a (List.mem_append_right _ ha)
    refine ⟨wa ++ w', .cons h h1, List.nodup_append.mpr ⟨n1.1, h2, fun a ha b hb e => ?_⟩, fun a ha => ?_⟩
    · subst e
      rcases h3 a hb with q | q
      · exact n1.2.2 a ha a q rfl
      · exact dj a (List.mem_append_left _ ha) q
    · rcases List.mem_append.mp ha with q | q
      · exact .inl (List.mem_append_left _ q)
      · exact (h3 a q).imp (List.mem_append_right _) id
theorem RpA.take {o : Bool} {m : M} : ∀ {ds : List D} {vs : List V} {w : List Addr} {n : Nat}, RpA G H N B o m ds vs w → ∃ w1 w2, w = w1 ++ w2 ∧ RpA G H N B o m (ds.take n) (vs.take n) w1 ∧ RpA G H N B o m (ds.drop n) (vs.drop n) w2
  | _, _, _, 0, h => ⟨[], _, rfl, by simpa using .nil, by simpa using h⟩
  | _, _, _, n + 1, .nil => ⟨[], [], rfl, .nil, .nil⟩
  | _, _, _, n + 1, .cons (w1 := wa) (w2 := wb) h t => by
    obtain ⟨w1, w2, e, h1, h2⟩ := RpA.take (n := n) t
    subst e
    exact ⟨wa ++ w1, w2, by rw [List.append_assoc], .cons h h1, h2⟩
/-- a value as it is wanted -/
theorem fit_ok {m fm : M} {d : D} {v : V} {w B : List Addr} {H0 : Hp} (env : EnvOk G ts H (uni T w) ws g ρ σ) (st : Stp H0 B H (w ++ ws.flatten)) (r : Rt G H (uni (uni T w) ws.flatten) m d v w) (nd : w.Nodup) (dj : ∀ a ∈ w, ¬ T a) (hf : fits m fm = true) :
    ∃ w', EnvOk G ts H (uni T w') ws g ρ σ ∧ Stp H0 B H (w' ++ ws.flatten) ∧ Rt G H (uni (uni T w') ws.flatten) fm d v w' ∧ w'.Nodup ∧ (∀ a ∈ w', ¬ T a) ∧ fm.pl = true := by
  unfold fits at hf
  simp only [Bool.or_eq_true, Bool.and_eq_true, decide_eq_true_eq] at hf
  rcases hf with ⟨rfl, hp⟩ | ⟨rfl, f⟩
  · exact ⟨w, env, st, r, nd, dj, hp⟩
  · refine ⟨[], env.less fun a z => .inl (uni_nil z), st.less fun a z => List.mem_append_right _ (by simpa using z), .z (r.freeze f (fun a z => z.imp (fun q => .inl (uni_nil q)) id) fun a ha z => ?_), List.nodup_nil, fun a h => (nomatch h), rfl⟩
    exact z.elim (fun q => dj a ha (uni_nil q)) fun q => env.dj a q (.inr ha)
end
end DI
end
section
set_option Elab.async false
set_option linter.all false
set_option maxRecDepth 100000
/-! Statements: what is wanted behind them; values stored in names. -/
namespace DI
open PySem PySem.Spec L2
/-- nothing else of the frame's names is stored -/
def KeepS (is : List Nat) (σ σ' : L2.St) : Prop := σ'.length = σ.length ∧ ∀ i, i ∉ is → σ'[i]? = σ[i]?
theorem KeepS.refl {is : List Nat} {σ : L2.St} : KeepS is σ σ := ⟨rfl, fun _ _ => rfl⟩
theorem KeepS.trans {is js : List Nat} {σ σ1 σ2 : L2.St} (h1 : KeepS is σ σ1) (h2 : KeepS js σ1 σ2) : KeepS (is ++ js) σ σ2 := ⟨h2.1.trans h1.1, fun i hi => by
  rw [List.mem_append, not_or] at hi
  rw [h2.2 i hi.2, h1.2 i hi.1]⟩
theorem KeepS.mono {is js : List Nat} {σ σ1 : L2.St} (h1 : KeepS is σ σ1) (h : ∀ i ∈ is, i ∈ js) : KeepS js σ σ1 := ⟨h1.1, fun i hi => h1.2 i fun z => hi (h i z)⟩
section
variable {G : CT} {ts : List Addr} {H H' : Hp} {T T' : Tl} {ws ws' : List (List Addr)} {g g' : Md} {ρ ρ' : Rho} {σ σ' : L2.St}
variable {t : Tb} {C : Calls} {X : Cx} {mc : Mc} {k : Nat} {N B N' B' : Sets} {F : FA} {r : Rt0} {lp : Option Lp}
/-- what is wanted behind a statement -/
structure PoS (t : Tb) (G : CT) (ts : List Addr) (H : Hp) (T : Tl) (B : List Addr) (σ : L2.St) (r : Rt0) (lp : Option Lp) (as : List Nat) (go : Option Md) (fl : Fl) (ρ' : Rho) (D : Ends) : Prop where
  nx : fl = .nx → ∀ g', go = some g' → ∀ H' ws' σ', Stp H B H' ws'.flatten → EnvOk G ts H' T ws' g' ρ' σ' → KeepS as σ σ' → D.nx σ' H'
  ct : fl = .ct → ∀ l, lp = some l → ∀ H' ws' σ', Stp H B H' ws'.flatten → EnvOk G ts H' T ws' l.g ρ' σ' → KeepS as σ σ' → D.ct σ' H'
  bk : fl = .bk → ∀ l, lp = some l → ∀ H' ws' σ', Stp H B H' ws'.flatten → EnvOk G ts H' T ws' l.g ρ' σ' → KeepS as σ σ' → D.bk σ' H'
  rt : ∀ d, fl = .rt d → ∀ gr v H' w ws' σ', Stp H B H' (w ++ ws'.flatten) → EnvOk G ts H' (uni T w) ws' gr ρ' σ' → parOk t r.ps 0 gr = true → Rt G H' (uni (uni T w) ws'.flatten) r.ret d v w → r.ret.pl = true → w.Nodup → (∀ a ∈ w, ¬ T a) → KeepS as σ σ' → D.rt v H'
/-- the reading of a statement -/
def RSt (t : Tb) (G : CT) (ts : List Addr) (C : Calls) (r : Rt0) (lp : Option Lp) (s : S) : TS := fun D σ H =>
  ∃ (T : Tl) (ws : List (List Addr)) (g : Md) (ρ : Rho) (go : Option Md) (fl : Fl) (ρ' : Rho), cks t r lp s g = some go ∧ ex C s ρ = some (fl, ρ') ∧ EnvOk G ts H T ws g ρ σ ∧ PoS t G ts H T ws.flatten σ r lp (asgd s) go fl ρ' D
theorem PS.of {st : Stmt} {u u' : TS} (h : PS X st u) (k : ∀ D σ H, u' D σ H → u D σ H) : PS X st u' := ⟨fun pins s σ H D I q => h.run pins s σ H D I (k D σ H q)⟩
theorem PSs.of {st : List Stmt} {u u' : TS} (h : PSs X st u) (k : ∀ D σ H, u' D σ H → u D σ H) : PSs X st u' := ⟨fun pins s σ H D I q => h.run pins s σ H D I (k D σ H q)⟩
theorem PS.vac {st : Stmt} {u : TS} (h : ∀ D σ H, ¬ u D σ H) : PS X st u := ⟨fun pins s σ H D I q => absurd q (h D σ H)⟩
/-! ### a name takes a value -/
theorem asg_ok {i : Nat} {m : M} {d : D} {v : V} {w : List Addr} (env : EnvOk G ts H (uni T w) ws g ρ σ) (r : Rt G H (uni (uni T w) ws.flatten) m d v w) (nd : w.Nodup) (dj : ∀ a ∈ w, ¬ T a) (hi : i < g.length) (hs : setTgM (.one i) m g = some g') :
    ∃ ws', EnvOk G ts H T ws' g' (ρ.set i d) (σ.set i (some v)) ∧ ∀ a ∈ ws'.flatten, a ∈ ws.flatten ∨ a ∈ w := by
  simp only [setTgM] at hs
  split at hs
  · split at hs
    · rename_i hch hz
      cases hs
      have key : Fz G H (uni (uni T w) ws.flatten) d v ∧ w = [] := by
        cases r with
        | T h r => exact ⟨.tup h (r.allz hz).1, (r.allz hz).2⟩
        | z h => cases hch
        | w => cases hch
        | L => cases hch
        | O => cases hch
      obtain ⟨f, rfl⟩ := key
      exact ⟨_, env.give hi (.z f) List.nodup_nil fun a z => (nomatch z), fun a ha => mem_set_flat ha⟩
    · cases hs
  · split at hs
    · cases hs
    · cases hs
      exact ⟨_, env.give hi r nd dj, fun a ha => mem_set_flat ha⟩
theorem many_give : ∀ {is : List Nat} {m : M} {ds : List D} {vs : List V} {w : List Addr} {T : Tl} {ws : List (List Addr)} {g g' : Md} {ρ ρ' : Rho} {σ : L2.St}, EnvOk G ts H (uni T w) ws g ρ σ → RpT G H (uni (uni T w) ws.flatten).s (uni (uni T w) ws.flatten).b true m ds vs w → w.Nodup → (∀ a ∈ w, ¬ T a) →
    setMany is ds ρ = some ρ' → setManyM is m g = some g' → (∀ i ∈ is, i < g.length) → vs.length = is.length ∧ ∃ ws', EnvOk G ts H T ws' g' ρ' (sets is vs σ) ∧ ∀ a ∈ ws'.flatten, a ∈ ws.flatten ∨ a ∈ w
  | [], _, _, _, _, T, ws, g, g', ρ, ρ', σ, env, h, nd, dj, h1, h2, hl => by
    cases h with
    | nil =>
      simp only [setMany, setManyM] at h1 h2
      cases h1; cases h2
      exact ⟨rfl, ws, env.less fun a z => .inl z, fun a ha => .inl ha⟩
    | cons => simp only [setMany] at h1; cases h1
  | i :: is, _, _, _, _, T, ws, g, g', ρ, ρ', σ, env, h, nd, dj, h1, h2, hl => by
    cases h with
    | nil => simp only [setMany] at h1; cases h1
    | @cons _ m r0 d ds v vs wa wb hd ht =>
      simp only [setMany, setManyM] at h1 h2
      split at h2
      · cases h2
      · rw [List.nodup_append] at nd
        have env1 : EnvOk G ts H (uni (uni T wb) wa) ws g ρ σ := env.less fun a z => by
          rcases z with (z | z) | z
          · exact .inl z
          · exact .inr (List.mem_append_right _ z)
          · exact .inr (List.mem_append_left _ z)
        have sub1 : ∀ a, (uni (uni (uni T wb) wa) ws.flatten).s a → (uni (uni T (wa ++ wb)) ws.flatten).s a := fun a z => by
          rcases z with ((z | z) | z) | z
          · exact .inl (.inl z)
          · exact .inl (.inr (List.mem_append_right _ z))
          · exact .inl (.inr (List.mem_append_left _ z))
          · exact .inr z
        have env2 := env1.give (i := i) (m := m) (d := d) (v := v) (w := wa) (hl i List.mem_cons_self) (Rp.sets hd (fun a _ z => sub1 a z) fun a _ z => ⟨sub1 a z.1, z.2⟩) nd.1 fun a ha z => z.elim (dj a (List.mem_append_left _ ha)) fun q => nd.2.2 a ha a q rfl
        have sub2 : ∀ a, (uni (uni T wb) (ws.set i wa).flatten).s a → (uni (uni T (wa ++ wb)) ws.flatten).s a := fun a z => by
          rcases z with (z | z) | z
          · exact .inl (.inl z)
          · exact .inl (.inr (List.mem_append_right _ z))
          · rcases mem_set_flat z with q | q
            · exact .inr q
            · exact .inl (.inr (List.mem_append_left _ q))
        obtain ⟨e1, ws', e2, e3⟩ := many_give (is := is) env2 (ht.sets (fun a _ z => sub2 a z) fun a _ z => ⟨sub2 a z.1, z.2⟩) nd.2.1 (fun a ha => dj a (List.mem_append_right _ ha)) h1 h2 fun j hj => by rw [List.length_set]; exact hl j (List.mem_cons_of_mem _ hj)
        refine ⟨by simp [e1], ws', e2, fun a ha => ?_⟩
        rcases e3 a ha with q | q
        · exact (mem_set_flat q).imp id (List.mem_append_left _)
        · exact .inr (List.mem_append_right _ q)
theorem setManyM_len : ∀ {is : List Nat} {m : M} {g g' : Md}, setManyM is m g = some g' → g'.length = g.length
  | [], m, g, g', h => by cases m <;> simp only [setManyM] at h <;> first | (cases h; done) | (cases h; rfl)
  | i :: is, m, g, g', h => by
    cases m <;> simp only [setManyM] at h <;> first | (cases h; done) | skip
    split at h
    · cases h
    · rw [setManyM_len h]; simp
/-! ### small statements -/
theorem ss_ret {e : E} {x : Expr} {pos : Pos} (h : PE X x (RE t G ts C e)) : PS X (.Return (some x) pos) (RSt t G ts C r lp (.ret e)) := by
  refine PS.of (ps_ret h) ?_
  rintro D σ H ⟨T, ws, g, ρ, go, fl, ρ', hc, he, env, p⟩
  simp only [cks, ex] at hc he
  split at hc
  · rename_i m g1 e1
    split at hc
    · rename_i f
      cases hc
      rw [Bool.and_eq_true] at f
      split at he
      · rename_i d ρ1 e2
        cases he
        refine ⟨T, ws, g, ρ, m, g1, d, ρ', e1, e2, env, fun v H' w ws' st env' rr nd dj => ?_⟩
        obtain ⟨w', env2, st2, r2, nd2, dj2, pl⟩ := fit_ok env' st rr nd dj f.1
        exact p.rt d rfl g1 v H' w' ws' σ st2 env2 f.2 r2 pl nd2 dj2 KeepS.refl
      · cases he
    · cases hc
  · cases hc
theorem ss_retn {pos : Pos} : PS X (.Return none pos) (RSt t G ts C r lp .retn) := by
  refine PS.of ps_retN ?_
  rintro D σ H ⟨T, ws, g, ρ, go, fl, ρ', hc, he, env, p⟩
  simp only [cks, ex] at hc he
  cases he
  split at hc
  · rename_i f
    rw [Bool.and_eq_true, decide_eq_true_eq] at f
    exact p.rt .non rfl g .non H [] ws σ (by simpa using Stp.refl) (env.less fun a => uni_nil) f.2 (by rw [f.1]; exact .z .non) (by rw [f.1]; rfl) List.nodup_nil (fun a z => nomatch z) KeepS.refl
  · cases hc
theorem ss_pass {st : Stmt} (h : PS X st tNext) : PS X st (RSt t G ts C r lp .pass) := by
  refine PS.of h ?_
  rintro D σ H ⟨T, ws, g, ρ, go, fl, ρ', hc, he, env, p⟩
  simp only [cks, ex] at hc he
  cases he; cases hc
  exact p.nx rfl g rfl H ws σ Stp.refl env KeepS.refl
theorem ss_cont {pos : Pos} : PS X (.Continue pos) (RSt t G ts C r lp .cont) := by
  refine PS.of ps_continue ?_
  rintro D σ H ⟨T, ws, g, ρ, go, fl, ρ', hc, he, env, p⟩
  cases lp with
  | none => simp only [cks] at hc; cases hc
  | some l =>
    simp only [cks, ex] at hc he
    cases he
    split at hc
    · rename_i f
      obtain ⟨ws', e2, sub⟩ := env.weak f
      exact p.ct rfl l rfl H ws' σ (Stp.refl.less sub) e2 KeepS.refl
    · cases hc
theorem ss_brk {pos : Pos} : PS X (.Break pos) (RSt t G ts C r lp .brk) := by
  refine PS.of ps_break ?_
  rintro D σ H ⟨T, ws, g, ρ, go, fl, ρ', hc, he, env, p⟩
  cases lp with
  | none => simp only [cks] at hc; cases hc
  | some l =>
    simp only [cks, ex] at hc he
    cases he
    split at hc
    · rename_i f
      obtain ⟨ws', e2, sub⟩ := env.weak f
      exact p.bk rfl l rfl H ws' σ (Stp.refl.less sub) e2 KeepS.refl
    · cases hc
theorem ss_drop {e : E} {x : Expr} {pos : Pos} (h : PE X x (RE t G ts C e)) (hs : swapsWith x none pos.line X.env = pure false) : PS X (.Expr x pos) (RSt t G ts C r lp (.drop e)) := by
  refine PS.of (ps_expr h hs) ?_
  rintro D σ H ⟨T, ws, g, ρ, go, fl, ρ', hc, he, env, p⟩
  simp only [cks, ex] at hc he
  split at hc
  · rename_i m g1 e1
    cases hc
    split at he
    · rename_i d ρ1 e2
      cases he
      exact ⟨T, ws, g, ρ, m, g1, d, ρ', e1, e2, env, fun v H' w ws' st env' rr nd dj => p.nx rfl g1 rfl H' ws' σ st.drop1 (env'.less fun a z => .inl z) KeepS.refl⟩
    · cases he
  · cases hc
/-- the reading of a store in a name -/
theorem asg_run {i : Nat} {e : E} {D : Ends} (h : RSt t G ts C r lp (.asg i e) D σ H) : tAsg (RE t G ts C e) (gName i) D σ H := by
  obtain ⟨T, ws, g, ρ, go, fl, ρ', hc, he, env, p⟩ := h
  simp only [cks, ex] at hc he
  split at hc
  · rename_i m g1 e1
    split at hc
    · rename_i f
      rw [decide_eq_true_eq] at f
      rw [Option.map_eq_some_iff] at hc
      obtain ⟨g2, e2, e3⟩ := hc
      subst e3
      split at he
      · rename_i d ρ1 e4
        cases he
        refine ⟨T, ws, g, ρ, m, g1, d, ρ1, e1, e4, env, fun v H' w ws' st env' rr nd dj => ?_⟩
        obtain ⟨ws2, env2, sub⟩ := asg_ok env' rr nd dj f e2
        refine p.nx rfl g2 rfl H' ws2 _ (st.less fun a ha => (sub a ha).elim (List.mem_append_right _) (List.mem_append_left _)) env2 ⟨by simp, fun j hj => ?_⟩
        exact List.getElem?_set_ne fun e => hj (by simp [asgd, e])
      · cases he
    · cases hc
  · cases hc
theorem asgT_run {is : List Nat} {e : E} {D : Ends} (h : RSt t G ts C r lp (.asgT is e) D σ H) : tAsg (RE t G ts C e) (gTup G.K is.length (gNs is)) D σ H := by
  obtain ⟨T, ws, g, ρ, go, fl, ρ', hc, he, env, p⟩ := h
  simp only [cks, ex] at hc he
  split at hc
  · rename_i m g1 e1
    split at hc
    · rename_i f
      rw [Bool.and_eq_true, List.all_eq_true, decide_eq_true_eq] at f
      rw [Option.map_eq_some_iff] at hc
      obtain ⟨g2, e2, e3⟩ := hc
      subst e3
      split at he
      · rename_i ds ρ1 e4
        rw [Option.map_eq_some_iff] at he
        obtain ⟨ρ2, e5, e6⟩ := he
        cases e6
        refine ⟨T, ws, g, ρ, m, g1, .tup ds, ρ1, e1, e4, env, fun v H' w ws' st env' rr nd dj => ?_⟩
        have hlen := setMany_len e5
        have key : ∃ (m0 : M) (p : Addr) (xs : List V), v = .ref p ∧ SqT G.K H' p xs ∧ RpT G H' (uni (uni T w) ws'.flatten).s (uni (uni T w) ws'.flatten).b true m0 ds xs w ∧ setManyM is m0 g1 = some g2 := by
          cases rr with
          | z h =>
            cases h with
            | tup hs hf =>
              simp only [setTgM] at e2
              cases e2
              exact ⟨_, _, _, rfl, hs, hf.chainz hlen, manyZ_ok⟩
          | T hs hr => exact ⟨_, _, _, rfl, hs, hr, by rw [← chain_many hr.chain]; exact e2⟩
          | O => exfalso; cases is <;> (simp only [setTgM, setManyM] at e2; cases e2)
          | w => exfalso; cases is <;> (simp only [setTgM, setManyM] at e2; cases e2)
        obtain ⟨m0, pa, xs, rfl, hs, hr, hset⟩ := key
        obtain ⟨l1, ws2, env2, sub⟩ := many_give env' hr nd dj e5 hset fun i hi => of_decide_eq_true (f.1 i hi)
        refine ⟨pa, xs, rfl, hs, l1, gNs_ok l1 ?_⟩
        exact p.nx rfl g2 rfl H' ws2 _ (st.less fun a ha => (sub a ha).elim (List.mem_append_right _) (List.mem_append_left _)) env2 ⟨sets_len, fun j hj => sets_out hj⟩
      · cases he
    · cases hc
  · cases hc
end
end DI
end
section
set_option Elab.async false
set_option linter.all false
set_option maxRecDepth 100000
/-! Statements: own lists written. -/
namespace DI
open PySem PySem.Spec L2
section
open PyProof.Rows
theorem list_extend_any (l : Addr) (items : Array Value) (n : Nat) (b : Addr) (items2 : Array Value) (n2 : Nat) (dd : Option Addr) (sl : Array (Option Value)) (hs0 : ¬(!items.isEmpty && Builtin.List.listTooLong (items.size + items2.size)) = true) (hs1 : items.size ≤ sizeLine) (hs2 : items.size + items2.size ≤ sizeLine + 1) :
    Meets (Builtin.«list.extend» ⟨[.ref l, .ref b], []⟩) (fun _ R s => s.heap.get? l = some { cls := .type "list", dict := none, data := .seq items n, slots := #[] } ∧ s.heap.get? b = some { cls := .type "tuple", dict := dd, data := .seq items2 n2, slots := sl } ∧ R (.ok (.ret Value.none)) { s with heap := s.heap.update l (Obj.mapSeq fun x => x ++ items2), toks := s.toks }) :=
  .of_wp fun prog w A R s h => by
    obtain ⟨hp, g, d, tk, os⟩ := s; obtain ⟨hl, hb, h⟩ := h
    have hz' : (items ++ items2).size ≤ sizeLine + 1 := by rw [Array.size_append]; exact hs2
    wp_walk using (wpAny_updateSeq hl rfl (hz := hs1) (_hz' := hz')), wpAny_loadPart' hl, wpAny_loadPart' hb; exact ⟨_, rfl, h⟩
theorem list_extend_anyL (l : Addr) (items : Array Value) (n : Nat) (b : Addr) (items2 : Array Value) (n2 : Nat) (dd : Option Addr) (sl : Array (Option Value)) (hs0 : ¬(!items.isEmpty && Builtin.List.listTooLong (items.size + items2.size)) = true) (hs1 : items.size ≤ sizeLine) (hs2 : items.size + items2.size ≤ sizeLine + 1) :
    Meets (Builtin.«list.extend» ⟨[.ref l, .ref b], []⟩) (fun _ R s => s.heap.get? l = some { cls := .type "list", dict := none, data := .seq items n, slots := #[] } ∧ s.heap.get? b = some { cls := .type "list", dict := dd, data := .seq items2 n2, slots := sl } ∧ R (.ok (.ret Value.none)) { s with heap := s.heap.update l (Obj.mapSeq fun x => x ++ items2), toks := s.toks }) :=
  .of_wp fun prog w A R s h => by
    obtain ⟨hp, g, d, tk, os⟩ := s; obtain ⟨hl, hb, h⟩ := h
    have hz' : (items ++ items2).size ≤ sizeLine + 1 := by rw [Array.size_append]; exact hs2
    wp_walk using (wpAny_updateSeq hl rfl (hz := hs1) (_hz' := hz')), wpAny_loadPart' hl, wpAny_loadPart' hb; exact ⟨_, rfl, h⟩
def rExtA (K : PySem.W.Frag) : V → List V → Hp → VK → Prop := fun x vs H Q => ∃ l b xs zs, x = .ref l ∧ vs = [.ref b] ∧ H l = some (.lst xs) ∧ (SqL K H b zs ∨ SqT K H b zs) ∧ xs.length + zs.length ≤ sizeLine ∧ Q .non (upd H l (.lst (xs ++ zs)))
theorem mt_extA {X : Cx} : MtR X "list.extend" (rExtA X.K) := by
  intro pins s σ H x vs v us Q I rx rv h
  obtain ⟨l, b, xs, zs, rfl, rfl, hH, hB, hz, q⟩ := h
  cases rx
  obtain ⟨u, rfl, ru⟩ := rv.one
  cases ru
  obtain ⟨z, its, n, r, hl, e⟩ := I.lstM hH
  have fin : ∀ {its2 : Array Value}, Vals zs its2.toList → EP X pins σ Q .none { s with heap := s.heap.update l (Obj.mapSeq fun x => x ++ its2), toks := s.toks } := fun {its2} r2 => by
    refine ⟨.non, _, I.lset (its' := its ++ its2.toList) hH e (by simp) (r.append r2) ?_, rfl, q⟩
    rw [List.length_append]
    omega
  have pre : ∀ {its2 : Array Value}, Vals zs its2.toList → its.toArray.size + its2.size ≤ sizeLine ∧ ¬ (!its.toArray.isEmpty && Builtin.List.listTooLong (its.toArray.size + its2.size)) = true := fun {its2} r2 => by
    have h2 : zs.length = its2.size := by have := r2.length; simpa using this
    have hsz : its.toArray.size + its2.size ≤ sizeLine := by rw [List.size_toArray]; omega
    exact ⟨hsz, by rw [notLongL hsz, Bool.and_false]; exact Bool.false_ne_true⟩
  rcases hB with hB | hB
  · obtain ⟨its2, r2, ⟨⟨oc, od, odt, osl⟩, n2, e2, c1, c2, c3⟩, _⟩ := I.list hB
    simp only at c1 c2 c3
    subst c1 c2 c3
    obtain ⟨p1, p2⟩ := pre (its2 := its2.toArray) (by simpa using r2)
    refine call_meets F.slot_list_extend ⟨_, e, rfl⟩ F.entry_list_extend (F.args_list_extend_2 _ _) (list_extend_anyL l its.toArray n b its2.toArray n2 none osl p2 (by rw [List.size_toArray]; omega) (by omega)) ⟨e, e2, ?_⟩
    exact fin (its2 := its2.toArray) (by simpa using r2)
  · obtain ⟨its2, r2, ⟨⟨oc, od, odt, osl⟩, e2, c1, n2, c3⟩, _⟩ := I.tuple hB
    simp only at c1 c3
    subst c1 c3
    obtain ⟨p1, p2⟩ := pre (its2 := its2.toArray) (by simpa using r2)
    refine call_meets F.slot_list_extend ⟨_, e, rfl⟩ F.entry_list_extend (F.args_list_extend_2 _ _) (list_extend_any l its.toArray n b its2.toArray n2 od osl p2 (by rw [List.size_toArray]; omega) (by omega)) ⟨e, e2, ?_⟩
    exact fin (its2 := its2.toArray) (by simpa using r2)
end
section
variable {G : CT} {ts : List Addr} {H H' : Hp} {T T' : Tl} {ws ws' : List (List Addr)} {g g' : Md} {ρ ρ' : Rho} {σ σ' : L2.St}
variable {t : Tb} {C : Calls} {X : Cx} {mc : Mc} {k : Nat} {N B N' B' : Sets} {F : FA} {r : Rt0} {lp : Option Lp}
theorem line7 : (1000000 : Nat) < sizeLine := by rw [sizeLine_eq]; decide
theorem isVar_eq {p : E} (h : isVar p = true) : ∃ i, p = .var i := by
  cases p <;> first | exact ⟨_, rfl⟩ | cases h
/-- o.m(x): o a place, x an atom where o is a field -/
theorem arg1 (hG : GOk t mc G) {r0 : V → List V → Hp → VK → Prop} {p e : E} {me m : M} {g1 : Md} {d : D} {ρ1 : Rho} {xs : List D} {up : D → Rho} {Q : VK} (hp : isPath p = true) (hq : isVar p = true ∨ atom e = true) (hm : pmode t g p = some (.L me)) (hc : ck t e g = some (m, g1)) (he : ev C e ρ = some (d, ρ1))
    (env : EnvOk G ts H T ws g ρ σ) (hl : loc ρ1 p = some (.lst xs, up))
    (kk : ∀ a H' w ws' v, Stp H ws.flatten H' (w ++ ws'.flatten) → EnvOk G ts H' (uni T w) ws' g1 ρ1 σ → Rt G H' (uni (uni T w) ws'.flatten) m d v w → w.Nodup → (∀ a ∈ w, ¬ T a) → PathV G σ H' p (.ref a) → r0 (.ref a) [v] H' Q) :
    tBM G.K "list" r0 (tPath G p) (tCons (if atom e = true then tAtom e else RE t G ts C e) tNil) σ H Q := by
  have hl0 : ∃ x0 up0, loc ρ p = some (x0, up0) := by
    rcases hq with h | h
    · obtain ⟨i, rfl⟩ := isVar_eq h
      exact ⟨_, _, rfl⟩
    · obtain ⟨_, rfl, _⟩ := atom_ok h hc he env
      exact ⟨_, _, hl⟩
  obtain ⟨x0, up0, hl0⟩ := hl0
  obtain ⟨v0, w0, mr, vr, ur, f⟩ := foc hG env hp hm rfl hl0
  obtain ⟨ds, a, zs, wl, rfl, rfl, rfl, ha, rr⟩ := f.sub.1.isL rfl
  have pv := f.at_ H (fun _ => False) Kp.refl fun _ _ z => z
  refine ⟨.ref a, pv, .inl ⟨rfl, zs, SqL.of ha⟩, ?_⟩
  by_cases hat : atom e = true
  · rw [if_pos hat]
    obtain ⟨rfl, rfl, v1, hv1, r1⟩ := atom_ok hat hc he env
    refine ⟨v1, hv1, ?_⟩
    refine kk a H [] ws v1 (by simpa using Stp.refl) (env.less fun a => uni_nil) (Rt.sets r1 fun a _ z => z.imp uni_nil id) List.nodup_nil (fun a z => nomatch z) pv
  · rw [if_neg hat]
    have hv : isVar p = true := hq.resolve_right hat
    obtain ⟨i, rfl⟩ := isVar_eq hv
    exact ⟨T, ws, g, ρ, m, g1, d, ρ1, hc, he, env, fun v H' w ws' st env' rr nd dj => kk a H' w ws' v st env' rr nd dj pv⟩
theorem pa_one {e : E} {x : Expr} (hs : isStarX x = false) (h : PE X x (RE t G ts C e)) (ha : atom e = true → PE X x (tAtom e)) : PA X [x] (tCons (if atom e = true then tAtom e else RE t G ts C e) tNil) := by
  by_cases hat : atom e = true
  · rw [if_pos hat]; exact pa_cons (ha hat) pa_nil (starE_no hs)
  · rw [if_neg hat]; exact pa_cons h pa_nil (starE_no hs)
theorem few1 {x : Expr} {cpos : Pos} {env : Env} (hs : isStarX x = false) : ((backTo cpos (starEach [x] env)).all (fun x => !x.1) && (backToKw cpos (keywordEach [] env)).all (fun x => x.1.isSome)
      && decide ([x].length + ([] : List Keyword).length + (if ([] : List Keyword).isEmpty then 0 else 1) < 30)) = true := by
  rw [starE_no hs]; rfl
theorem few2 {x y : Expr} {cpos : Pos} {env : Env} (hs : isStarX x = false) (hs2 : isStarX y = false) : ((backTo cpos (starEach [x, y] env)).all (fun x => !x.1) && (backToKw cpos (keywordEach [] env)).all (fun x => x.1.isSome)
      && decide ([x, y].length + ([] : List Keyword).length + (if ([] : List Keyword).isEmpty then 0 else 1) < 30)) = true := by
  rw [starE_no hs, starE_no hs2]; rfl
theorem ss_app (c : Ctx t mc G ts C F X k) {p e : E} {o x : Expr} {ap pos epos : Pos} (hd : dotX o = true) (hl : ap.endLine = pos.line) (hs : isStarX x = false) (ho : isPath p = true → PE X o (tPath G p)) (h : PE X x (RE t G ts C e)) (ha : atom e = true → PE X x (tAtom e)) :
    PS X (.Expr (.Call (.Attribute o "append" ap) [x] [] pos) epos) (RSt t G ts C r lp (.app p e)) := by
  by_cases hp : isPath p = true
  · refine PS.of (ps_expr (pe_bm PySem.F.plainAttrs_list PySem.F.slot_list_append PySem.F.type_list_append mt_append (ho hp) (pa_one hs h ha) (dot_ok hd) (few1 hs) (by rw [hl]; simp) (starE_no hs) rfl) rfl) ?_
    rintro D σ H ⟨T, ws, g, ρ, go, fl, ρ', hc, he, env, po⟩
    simp only [cks, ex] at hc he
    split at hc
    · rename_i m g1 e1
      split at hc
      · rename_i me e2
        split at hc
        · rename_i f
          cases hc
          simp only [Bool.and_eq_true, Bool.or_eq_true, decide_eq_true_eq] at f
          obtain ⟨_, f2, f3, f4⟩ := f
          split at he
          · rename_i d ρ1 e3
            split at he
            · rename_i xs up e4
              split at he
              · rename_i hln
                cases he
                rw [c.K]
                refine arg1 c.g hp f2 e2 e1 e3 env e4 fun a H' w ws' v st env' rr nd dj pv => ?_
                obtain ⟨w', env2, st2, r2, nd2, dj2, pl⟩ := fit_ok env' st rr nd dj f4
                obtain ⟨a', zs, wl, pv', hz, row, wnd, wdj, put⟩ := list_put c.g st2 env2 nd2 dj2 hp f3 e4
                cases pv.inj pv'
                have len := row.length
                refine ⟨a, zs, v, rfl, rfl, hz, ?_, ?_⟩
                · have := lenOk_le hln
                  exact Nat.lt_of_le_of_lt (by omega) line7
                · obtain ⟨ws3, env3, st3⟩ := put (zs ++ [v]) (xs ++ [d]) (wl ++ (w' ++ [])) (fun b hb => (List.mem_append.mp hb).imp id fun q => by simpa using q) (List.nodup_append.mpr ⟨wnd, by simpa using nd2, fun b hb b' hb' e => wdj b hb (by rw [e]; simpa using hb')⟩) (row.append (.cons r2 .nil))
                  exact po.nx rfl g1 rfl _ ws3 σ st3 env3 KeepS.refl
              · cases he
            · cases he
          · cases he
        · cases hc
      · cases hc
    · cases hc
  · refine PS.vac ?_
    rintro D σ H ⟨T, ws, g, ρ, go, fl, ρ', hc, he, env, po⟩
    simp only [cks] at hc
    split at hc
    · split at hc
      · rw [if_neg (by simp [hp])] at hc; cases hc
      · cases hc
    · cases hc
end
end DI
end
section
set_option Elab.async false
set_option linter.all false
set_option maxRecDepth 100000
/-! Statements: own lists written, part 2. -/
namespace DI
open PySem PySem.Spec L2
section
variable {G : CT} {ts : List Addr} {H H' : Hp} {T T' : Tl} {ws ws' : List (List Addr)} {g g' : Md} {ρ ρ' : Rho} {σ σ' : L2.St}
variable {t : Tb} {C : Calls} {X : Cx} {mc : Mc} {k : Nat} {N B N' B' : Sets} {F : FA} {r : Rt0} {lp : Option Lp}
theorem SeqR.any' {N B : Sets} {d : D} {ds : List D} {v : V} (h : SeqR G H N B .z d v) (hs : seqOf d = some ds) : ∃ a xs, v = .ref a ∧ (SqL G.K H a xs ∨ SqT G.K H a xs) ∧ FzA G H N ds xs := by
  obtain ⟨a, xs, ds', rfl, h, l, q⟩ := h
  have key : ∀ (ds : List D) (xs : List V), ds.length = xs.length → (∀ (i : Nat) d' v', ds[i]? = some d' → xs[i]? = some v' → Rp G H N B true .z d' v' []) → FzA G H N ds xs := by
    intro ds
    induction ds with
    | nil => intro xs hl _; cases xs with
      | nil => exact .nil
      | cons => simp at hl
    | cons d ds ih =>
      intro xs hl q
      cases xs with
      | nil => simp at hl
      | cons x xs => exact .cons (q 0 d x rfl rfl).z_fz (ih xs (by simpa using hl) fun i d' v' e1 e2 => q (i + 1) d' v' (by simpa using e1) (by simpa using e2))
  rcases h with ⟨rfl, h⟩ | ⟨rfl, h⟩
  · cases hs; exact ⟨a, xs, rfl, .inr h, key ds xs l q⟩
  · cases hs; exact ⟨a, xs, rfl, .inl h, key ds xs l q⟩
theorem ss_ext (c : Ctx t mc G ts C F X k) {p e : E} {o x : Expr} {ap pos epos : Pos} (hd : dotX o = true) (hl : ap.endLine = pos.line) (hs : isStarX x = false) (ho : isPath p = true → PE X o (tPath G p)) (h : PE X x (RE t G ts C e)) (ha : atom e = true → PE X x (tAtom e)) :
    PS X (.Expr (.Call (.Attribute o "extend" ap) [x] [] pos) epos) (RSt t G ts C r lp (.ext p e)) := by
  by_cases hp : isPath p = true
  · refine PS.of (ps_expr (pe_bm PySem.F.plainAttrs_list PySem.F.slot_list_extend PySem.F.type_list_extend mt_extA (ho hp) (pa_one hs h ha) (dot_ok hd) (few1 hs) (by rw [hl]; simp) (starE_no hs) rfl) rfl) ?_
    rintro D σ H ⟨T, ws, g, ρ, go, fl, ρ', hc, he, env, po⟩
    simp only [cks, ex] at hc he
    split at hc
    · rename_i m g1 e1
      split at hc
      · rename_i e2
        split at hc
        · rename_i f
          cases hc
          simp only [Bool.and_eq_true, Bool.or_eq_true, decide_eq_true_eq] at f
          obtain ⟨_, f2, f3, f4⟩ := f
          split at he
          · rename_i d ρ1 e3
            split at he
            · rename_i ys xs up e5 e4
              split at he
              · rename_i hln
                cases he
                rw [c.K]
                refine arg1 c.g hp f2 e2 e1 e3 env e4 fun a H' w ws' v st env' rr nd dj pv => ?_
                obtain ⟨b, zb, rfl, hb, fa⟩ := (rr.seqR (N' := (uni T ws'.flatten).s) (lz_rd f4) e5 (fun a z => z.imp .inl id) fun a ha z => z.elim (dj a ha) fun q => env'.dj a q (.inr ha)).any' e5
                have env2 : EnvOk G ts H' (uni T []) ws' g1 ρ1 σ := env'.less fun a z => .inl (uni_nil z)
                obtain ⟨a', zs, wl, pv', hz, row, wnd, wdj, put⟩ := list_put (w := []) c.g (st.less fun a ha => List.mem_append_right _ (by simpa using ha)) env2 List.nodup_nil (fun a z => nomatch z) hp f3 e4
                cases pv.inj pv'
                have len := row.length
                have len2 := fa.length
                refine ⟨a, b, zs, zb, rfl, rfl, hz, hb, ?_, ?_⟩
                · have := lenOk_le hln
                  exact Nat.le_of_lt (Nat.lt_of_le_of_lt (by omega) line7)
                · have fa2 : FzA G H' (uni (uni T []) ws'.flatten) ys zb := fa.sets fun a _ z => z.imp uni_nil id
                  obtain ⟨ws3, env3, st3⟩ := put (zs ++ zb) (xs ++ ys) (wl ++ []) (fun b hb => .inl (by simpa using hb)) (by simpa using wnd) (row.append fa2.rp)
                  exact po.nx rfl g1 rfl _ ws3 σ st3 env3 KeepS.refl
              · cases he
            · cases he
          · cases he
        · cases hc
      · cases hc
    · cases hc
  · refine PS.vac ?_
    rintro D σ H ⟨T, ws, g, ρ, go, fl, ρ', hc, he, env, po⟩
    simp only [cks] at hc
    split at hc
    · split at hc
      · rw [if_neg (by simp [hp])] at hc; cases hc
      · cases hc
    · cases hc
theorem Rt.int {m : M} {i : Int} {v : V} {w : List Addr} (h : Rt G H T m (.int i) v w) : v = .int i ∧ w = [] := Rp.isInt h i rfl
theorem ss_ins (c : Ctx t mc G ts C F X k) {p i e : E} {o y x : Expr} {ap pos epos : Pos} (hd : dotX o = true) (hl : ap.endLine = pos.line) (hs : isStarX y = false) (hs2 : isStarX x = false) (ho : isPath p = true → PE X o (tPath G p)) (hi : PE X y (RE t G ts C i)) (h : PE X x (RE t G ts C e)) :
    PS X (.Expr (.Call (.Attribute o "insert" ap) [y, x] [] pos) epos) (RSt t G ts C r lp (.ins p i e)) := by
  by_cases hp : isPath p = true
  · refine PS.of (ps_expr (pe_bm PySem.F.plainAttrs_list PySem.F.slot_list_insert PySem.F.type_list_insert mt_insert (ho hp) (pa_cons hi (pa_cons h pa_nil (starE_no hs2)) (starE_no hs)) (dot_ok hd) (few2 hs hs2) (by rw [hl]; simp) (starE_no hs) (by rw [starE_no hs2]; rfl)) rfl) ?_
    rintro D σ H ⟨T, ws, g, ρ, go, fl, ρ', hc, he, env, po⟩
    simp only [cks, ex] at hc he
    split at hc
    · rename_i mi g1 e1
      split at hc
      · rename_i m g2 e2
        split at hc
        · rename_i me e3
          split at hc
          · rename_i f
            cases hc
            simp only [Bool.and_eq_true, decide_eq_true_eq] at f
            obtain ⟨f1, f2, f3, f4⟩ := f
            split at he
            · rename_i kk ρ1 e4
              split at he
              · rename_i d ρ2 e5
                split at he
                · rename_i xs up e6
                  split at he
                  · rename_i hln
                    cases he
                    simp only [Bool.and_eq_true, decide_eq_true_eq] at hln
                    obtain ⟨⟨k0, k1⟩, k2⟩ := hln
                    rw [c.K]
                    obtain ⟨i0, rfl⟩ := isVar_eq f1
                    obtain ⟨v0, w0, mr, vr, ur, fo⟩ := foc c.g env hp e3 rfl rfl
                    obtain ⟨ds, a, zs0, wl0, _, rfl, rfl, ha, _⟩ := fo.sub.1.isL rfl
                    have pv := fo.at_ H (fun _ => False) Kp.refl fun _ _ z => z
                    refine ⟨.ref a, pv, .inl ⟨rfl, zs0, SqL.of ha⟩, ?_⟩
                    refine RE.bin e1 e2 e4 e5 env fun v1 v2 H2 w1 w2 ws2 w => ?_
                    obtain ⟨rfl, rfl⟩ := Rp.isInt w.r1 kk rfl
                    have env' : EnvOk G ts H2 (uni T w2) ws2 g2 ρ2 σ := w.env.less fun a z => z.imp .inl id
                    have rr : Rt G H2 (uni (uni T w2) ws2.flatten) m d v2 w2 := Rt.sets w.r2 fun a _ z => z.imp (fun z => z.imp .inl id) id
                    obtain ⟨w', env2, st2, r2, nd2, dj2, pl⟩ := fit_ok env' (by simpa using w.st) rr w.n2 (fun a ha z => w.d2 a ha (.inl z)) f4
                    obtain ⟨a', zs, wl, pv', hz, row, wnd, wdj, put⟩ := list_put c.g st2 env2 nd2 dj2 hp f3 e6
                    cases (show PathV G σ H2 (.var i0) (.ref a) from pv).inj pv'
                    have len := row.length
                    have hle := lenOk_le k2
                    refine ⟨a, zs, kk, v2, rfl, rfl, hz, Nat.lt_of_le_of_lt (by omega) line7, k0, by omega, ?_⟩
                    obtain ⟨wa, wb, rfl, ra, rb⟩ := row.take (n := kk.toNat)
                    rw [List.nodup_append] at wnd
                    have rr2 := (ra.append (RpA.cons r2 .nil)).append rb
                    obtain ⟨ws3, env3, st3⟩ := put (zs.take kk.toNat ++ [v2] ++ zs.drop kk.toNat) (xs.take kk.toNat ++ [d] ++ xs.drop kk.toNat) _ (fun b hb => by
                        simp only [List.mem_append, List.append_nil] at hb ⊢
                        rcases hb with (hb | hb) | hb
                        · exact .inl (.inl hb)
                        · exact .inr hb
                        · exact .inl (.inr hb)) (by
                        rw [List.append_nil]
                        refine List.nodup_append.mpr ⟨List.nodup_append.mpr ⟨wnd.1, nd2, fun b hb b' hb' e => wdj b (List.mem_append_left _ hb) (e ▸ hb')⟩, wnd.2.1, fun b hb b' hb' e => ?_⟩
                        subst e
                        rcases List.mem_append.mp hb with q | q
                        · exact wnd.2.2 b q b hb' rfl
                        · exact wdj b (List.mem_append_right _ hb') q) rr2
                    have e9 : xs.take kk.toNat ++ [d] ++ xs.drop kk.toNat = xs.take kk.toNat ++ d :: xs.drop kk.toNat := by simp
                    rw [e9] at env3
                    exact po.nx rfl g2 rfl _ ws3 σ st3 env3 KeepS.refl
                  · cases he
                · cases he
              · cases he
            · cases he
          · cases hc
        · cases hc
      · cases hc
    · cases hc
  · refine PS.vac ?_
    rintro D σ H ⟨T, ws, g, ρ, go, fl, ρ', hc, he, env, po⟩
    simp only [cks] at hc
    split at hc
    · split at hc
      · split at hc
        · rename_i me e3
          split at hc
          · rename_i f
            simp only [Bool.and_eq_true] at f
            obtain ⟨i, rfl⟩ := isVar_eq f.1
            exact hp rfl
          · cases hc
        · cases hc
      · cases hc
    · cases hc
/-! ### o[i] = e -/
theorem sw_sub {x o ix : Expr} {sp : Pos} {l : Nat} {env : Env} : swapsWithSole [.Subscript o ix sp] x l env = pure false := by
  cases x <;> rfl
theorem asg_sub {o ix : Expr} {sp : Pos} {env : Env} (h : isSliceX ix = false) : ∀ v, assign (.Subscript o ix sp) env v = (do
      let ov ← holding [v] (eval o env)
      let iv ← holding [v, ov] (eval ix env)
      standAt sp
      holding [v, ov, iv] (setItem ov iv v)
      release [v, ov, iv] []) := by
  intro v
  cases ix <;> first | rfl | cases h
theorem ss_setI (c : Ctx t mc G ts C F X k) {p i e : E} {o ix x : Expr} {sp pos : Pos} (hsl : isSliceX ix = false) (ho : isPath p = true → PE X o (tPath G p)) (hi : PE X ix (RE t G ts C i)) (hia : atom i = true → PE X ix (tAtom i)) (h : PE X x (RE t G ts C e)) :
    PS X (.Assign [.Subscript o ix sp] x pos) (RSt t G ts C r lp (.setI p i e)) := by
  by_cases hp : isPath p = true
  · have hti : PE X ix (if atom i = true then tAtom i else RE t G ts C i) := by
      by_cases hat : atom i = true
      · rw [if_pos hat]; exact hia hat
      · rw [if_neg hat]; exact hi
    refine PS.of (ps_asg h (pg_sub (ho hp) hti set_list (asg_sub hsl)) sw_sub rfl rfl) ?_
    rintro D σ H ⟨T, ws, g, ρ, go, fl, ρ', hc, he, env, po⟩
    simp only [cks, ex] at hc he
    split at hc
    · rename_i m g1 e1
      split at hc
      · rename_i mi g2 e2
        split at hc
        · rename_i me e3
          split at hc
          · rename_i f
            cases hc
            simp only [Bool.and_eq_true, Bool.or_eq_true, decide_eq_true_eq] at f
            obtain ⟨_, f2, f3, f4, f5⟩ := f
            split at he
            · rename_i d ρ1 e4
              split at he
              · rename_i kk ρ2 e5
                split at he
                · rename_i xs up e6
                  rw [Option.map_eq_some_iff] at he
                  obtain ⟨j, hj, he⟩ := he
                  cases he
                  refine ⟨T, ws, g, ρ, m, g1, d, ρ1, e1, e4, env, fun v H1 w ws1 st env1 rr nd dj => ?_⟩
                  obtain ⟨w', env1', st1, r1, nd1, dj1, pl⟩ := fit_ok env1 st rr nd dj f4
                  have hl1 : ∃ x0 up0, loc ρ1 p = some (x0, up0) := by
                    rcases f2 with h | h
                    · obtain ⟨i, rfl⟩ := isVar_eq h
                      exact ⟨_, _, rfl⟩
                    · obtain ⟨_, rfl, _⟩ := atom_ok h e2 e5 env1'
                      exact ⟨_, _, e6⟩
                  obtain ⟨x0, up0, hl1⟩ := hl1
                  obtain ⟨v0, w0, mr, vr, ur, fo⟩ := foc c.g env1' hp e3 rfl hl1
                  obtain ⟨ds, a, zs0, wl0, _, rfl, rfl, ha, _⟩ := fo.sub.1.isL rfl
                  have pv := fo.at_ H1 (fun _ => False) Kp.refl fun _ _ z => z
                  refine ⟨.ref a, pv, ?_⟩
                  have fin : ∀ (H2 : Hp) (ws2 : List (List Addr)) (v2 : V), Stp H ws.flatten H2 (w' ++ ws2.flatten) → EnvOk G ts H2 (uni T w') ws2 g2 ρ2 σ → Rt G H2 (uni (uni T w') ws2.flatten) me d v w' → v2 = .int kk → PathV G σ H2 p (.ref a) → rSetL (.ref a) v2 v H2 fun H3 => D.nx σ H3 := by
                    intro H2 ws2 v2 st2 env2 r2 e7 pv2
                    obtain ⟨a', zs, wl, pv', hz, row, wnd, wdj, put⟩ := list_put c.g st2 env2 nd1 dj1 hp f5 e6
                    cases pv2.inj pv'
                    have len := row.length
                    have hj' : L2.ixN xs.length kk = some j := hj
                    refine ⟨a, zs, kk, j, rfl, e7, hz, by rw [← len]; exact hj', ?_⟩
                    obtain ⟨_, jl, _⟩ := ixN_seq hj'
                    obtain ⟨wl', row', nd', sub'⟩ := row.set jl r2 wnd nd1 wdj
                    obtain ⟨ws3, env3, st3⟩ := put (zs.set j v) (xs.set j d) wl' sub' nd' row'
                    exact po.nx rfl g2 rfl _ ws3 σ st3 env3 KeepS.refl
                  by_cases hat : atom i = true
                  · rw [if_pos hat]
                    obtain ⟨rfl, rfl, v2, hv2, rv2⟩ := atom_ok hat e2 e5 env1'
                    exact ⟨v2, hv2, fin H1 ws1 v2 st1 env1' r1 (Rp.isInt rv2 kk rfl).1 pv⟩
                  · rw [if_neg hat]
                    have hv : isVar p = true := f2.resolve_right hat
                    obtain ⟨i0, rfl⟩ := isVar_eq hv
                    refine ⟨uni T w', ws1, g1, ρ1, mi, g2, .int kk, ρ2, e2, e5, env1', fun v2 H2 w2 ws2 st2 env2 r2 nd2 dj2 => ?_⟩
                    obtain ⟨rfl, rfl⟩ := Rp.isInt r2 kk rfl
                    refine fin H2 ws2 _ (by simpa using st1.two st2) (env2.less fun a z => .inl z) ?_ rfl pv
                    exact Rt.sets (r1.on env1' st2) fun a _ z => z.imp .inl id
                · cases he
              · cases he
            · cases he
          · cases hc
        · cases hc
      · cases hc
    · cases hc
  · refine PS.vac ?_
    rintro D σ H ⟨T, ws, g, ρ, go, fl, ρ', hc, he, env, po⟩
    simp only [cks] at hc
    split at hc
    · split at hc
      · split at hc
        · rw [if_neg (by simp [hp])] at hc; cases hc
        · cases hc
      · cases hc
    · cases hc
/-! ### in place, on ints -/
def rAug (o : O2) : V → V → Hp → VK → Prop := fun x y H Q => ∃ i j z, x = .int i ∧ y = .int j ∧ o2D o (.int i) (.int j) = some (.int z) ∧ Q (.int z) H
theorem ip_aug {o : O2} (ho : augOk o = true) : PIp X (opB o) (rAug o) := by
  intro pins s σ H x y v u Q I r1 r2 ⟨i, j, z, e1, e2, hz, q⟩
  subst e1; subst e2
  obtain ⟨t, rfl⟩ := r1
  obtain ⟨t', rfl⟩ := r2
  cases o <;> first | (cases ho; done) | skip
  · simp only [o2D] at hz; cases hz
    exact PyProof.Rows.iadd_int ⟨.int _, H, I.tok _, ⟨_, rfl⟩, q⟩
  · simp only [o2D] at hz; cases hz
    exact PyProof.Rows.isub_int ⟨.int _, H, I.tok _, ⟨_, rfl⟩, q⟩
  · simp only [o2D] at hz
    split at hz
    · rename_i hm
      cases hz
      exact PyProof.Rows.imul_int ⟨.int _, H, I.tok _, ⟨_, rfl⟩, q⟩ (CMulD.ok hm)
    · cases hz
theorem aug_int {o : O2} (ho : augOk o = true) {x y z : D} (h : augD o x y = some z) : ∃ i j k, x = .int i ∧ y = .int j ∧ z = .int k ∧ o2D o (.int i) (.int j) = some (.int k) := by
  unfold augD at h
  split at h
  · rename_i i j
    cases o <;> first | (cases ho; done) | skip
    · simp only [o2D] at h; cases h; exact ⟨_, _, _, rfl, rfl, rfl, rfl⟩
    · simp only [o2D] at h; cases h; exact ⟨_, _, _, rfl, rfl, rfl, rfl⟩
    · have h' := h
      simp only [o2D] at h
      split at h
      · cases h; exact ⟨_, _, _, rfl, rfl, rfl, h'⟩
      · cases h
  · cases h
theorem ss_aug (c : Ctx t mc G ts C F X k) {o : O2} {i : Nat} {e : E} {y : Str} {x : Expr} {sp pos : Pos} (hy : okS mc i y = true) (h : PE X x (RE t G ts C e)) : PS X (.AugAssign (.Name y sp) (opB o) x pos) (RSt t G ts C r lp (.aug o i e)) := by
  by_cases ho : augOk o = true
  · obtain ⟨h1, h2, h3⟩ := okS_ok c.cx hy
    refine PS.of (ps_aug (i := i) (by rw [c.cx.hN]; exact c.cx.nd) h1 h2 h (ip_aug ho) h3) ?_
    rintro D σ H ⟨T, ws, g, ρ, go, fl, ρ', hc, he, env, po⟩
    simp only [cks, ex] at hc he
    split at hc
    · rename_i m g1 e1
      split at hc
      · rename_i f
        cases hc
        simp only [Bool.and_eq_true, decide_eq_true_eq] at f
        obtain ⟨_, f1, f2, f3⟩ := f
        split at he
        · rename_i d ρ1 e2
          rw [Option.map_eq_some_iff] at he
          obtain ⟨z, hz, he⟩ := he
          cases he
          obtain ⟨a, b, z0, ea, rfl, rfl, hz'⟩ := aug_int ho hz
          rcases env.sl i .z f1 with ⟨q, _⟩ | ⟨v, hv, rv⟩
          · cases q
          · refine ⟨v, hv, T, ws, g, ρ, m, g1, _, ρ1, e1, e2, env, fun v2 H' w ws' st env' rr nd dj => ?_⟩
            obtain ⟨rfl, rfl⟩ := Rp.isInt rr b rfl
            have env2 : EnvOk G ts H' T ws' g1 ρ1 σ := env'.less fun a z => .inl z
            rcases env2.sl i .z f2 with ⟨q, _⟩ | ⟨v', hv', rv'⟩
            · cases q
            · rw [hv] at hv'
              cases hv'
              rw [ea] at rv'
              obtain ⟨rfl, _⟩ := Rp.isInt rv' a rfl
              refine ⟨a, b, z0, rfl, rfl, hz', ?_⟩
              have hi : i < g1.length := (List.getElem?_eq_some_iff.mp f2).1
              have := env'.give (i := i) (m := .z) (d := .int z0) (v := .int z0) (w := []) hi (.z (.int z0)) List.nodup_nil fun a z => nomatch z
              rw [set_same f2] at this
              refine po.nx rfl g1 rfl H' _ _ (st.less fun a ha => List.mem_append_right _ ((mem_set_flat ha).elim id fun q => absurd q (by simp))) this ⟨by simp, fun j hj => ?_⟩
              exact List.getElem?_set_ne fun e => hj (by simp [asgd, e])
        · cases he
      · cases hc
    · cases hc
  · refine PS.vac ?_
    rintro D σ H ⟨T, ws, g, ρ, go, fl, ρ', hc, he, env, po⟩
    simp only [cks] at hc
    split at hc
    · rw [if_neg (by simp [ho])] at hc; cases hc
    · cases hc
theorem get_list : PGet X (rIxL X.K) := by
  intro pins s σ H o i ov iv Q I rx ry h
  obtain ⟨p, xs, i, z, rfl, rfl, hq, he, q⟩ := h
  cases rx
  obtain ⟨t, rfl⟩ := ry
  obtain ⟨its, r, pl, hz⟩ := I.list hq
  obtain ⟨j, h1, h2, h3, h4, h5⟩ := atI_get he
  obtain ⟨w, ew, rw'⟩ := r.get h2
  have hl := r.length
  have hn := line63
  have fin : EP X pins σ Q w s := ⟨z, H, I, rw', q⟩
  by_cases h0 : 0 ≤ i
  · have hj : i.toNat = j := by
      rw [seqIndex_of h0 h5] at h1
      exact Option.some.inj h1
    exact wpAny_getItem_list pl.isList h0 (by omega) (by rw [hj]; simpa using ew) fin
  · have hj : (i + (its.toArray.size : Int)).toNat = j := by
      rw [seqIndex_neg (by omega) h4] at h1
      rw [List.size_toArray, ← hl]
      exact Option.some.inj h1
    exact wpAny_getItem_list_neg pl.isList (by omega) (by rw [List.size_toArray] <;> omega) (by omega) (by rw [hj]; simpa using ew) fin
theorem aug_sub {ix : Expr} (h : isSliceX ix = false) : ∀ ov iv new, augStore ix ov iv new = (do holding [new, ov, iv] (setItem ov iv new); release [new, ov, iv] []; pure .next) := by
  intro ov iv new
  cases ix <;> first | rfl | cases h
theorem ss_augI (c : Ctx t mc G ts C F X k) {o : O2} {p i e : E} {b ix x : Expr} {sp pos : Pos} (hsl : isSliceX ix = false) (ho : isPath p = true → PE X b (tPath G p)) (hi : PE X ix (RE t G ts C i)) (h : PE X x (RE t G ts C e)) :
    PS X (.AugAssign (.Subscript b ix sp) (opB o) x pos) (RSt t G ts C r lp (.augI o p i e)) := by
  by_cases hvp : isVar p = true ∧ augOk o = true
  · obtain ⟨hvp, hop⟩ := hvp
    obtain ⟨i0, rfl⟩ := isVar_eq hvp
    refine PS.of (ps_augS (ho rfl) hi get_list h (ip_aug hop) set_list (aug_sub hsl)) ?_
    rintro D σ H ⟨T, ws, g, ρ, go, fl, ρ', hc, he, env, po⟩
    simp only [cks, ex] at hc he
    split at hc
    · rename_i mi g1 e1
      split at hc
      · rename_i m g2 e2
        split at hc
        · rename_i e3
          split at hc
          · rename_i f
            cases hc
            simp only [Bool.and_eq_true, decide_eq_true_eq] at f
            obtain ⟨_, _, f2, f3, f4, f5⟩ := f
            split at he
            · rename_i kk ρ1 e4
              split at he
              · rename_i xs up1 e5
                split at he
                · rename_i j x0 hjx
                  rw [Option.bind_eq_some_iff] at hjx
                  obtain ⟨j', hj, hjx⟩ := hjx
                  rw [Option.map_eq_some_iff] at hjx
                  obtain ⟨x0', hx0, e0⟩ := hjx
                  cases e0
                  split at he
                  · rename_i d ρ2 e6
                    split at he
                    · rename_i z hz
                      split at he
                      · rename_i xs2 up e7
                        rw [Option.map_eq_some_iff] at he
                        obtain ⟨j2, hj2, he⟩ := he
                        cases he
                        obtain ⟨ia, ib, zi, rfl, rfl, rfl, hz'⟩ := aug_int hop hz
                        obtain ⟨v0, w0, mr, vr, ur, fo⟩ := foc c.g env rfl e3 rfl rfl
                        obtain ⟨ds, a, zs0, wl0, _, rfl, rfl, ha, _⟩ := fo.sub.1.isL rfl
                        have pv := fo.at_ H (fun _ => False) Kp.refl fun _ _ z => z
                        refine ⟨.ref a, pv, T, ws, g, ρ, mi, g1, .int kk, ρ1, e1, e4, env, fun v1 H1 w1 ws1 st1 env1 r1 nd1 dj1 => ?_⟩
                        obtain ⟨rfl, rfl⟩ := Rp.isInt r1 kk rfl
                        have env1' : EnvOk G ts H1 T ws1 g1 ρ1 σ := env1.less fun a z => .inl z
                        have st1' : Stp H ws.flatten H1 ws1.flatten := by simpa using st1
                        obtain ⟨v1, w1, mr1, vr1, ur1, fo1⟩ := foc c.g env1' rfl f4 rfl e5
                        obtain ⟨ds1, a1, zs1, wl1, ed, ev1, ew1, ha1, row1⟩ := fo1.sub.1.isL rfl
                        cases ed; subst ev1 ew1
                        have pv1 := fo1.at_ H1 (fun _ => False) Kp.refl fun _ _ z => z
                        cases (show PathV G σ H1 (.var i0) (.ref a) from pv).inj pv1
                        obtain ⟨vx, wx, hvx, rx⟩ := row1.get hx0
                        obtain ⟨rfl, _⟩ := Rp.isInt rx ia rfl
                        have len1 := row1.length
                        have hj' : L2.ixN xs.length kk = some j := hj
                        refine ⟨a, zs1, kk, .int ia, rfl, rfl, SqL.of ha1, ?_, ?_⟩
                        · unfold atI
                          rw [← len1, hj']
                          exact hvx
                        · refine ⟨T, ws1, g1, ρ1, m, g2, .int ib, ρ2, e2, e6, env1', fun v2 H2 w2 ws2 st2 env2 r2 nd2 dj2 => ?_⟩
                          obtain ⟨rfl, rfl⟩ := Rp.isInt r2 ib rfl
                          refine ⟨ia, ib, zi, rfl, rfl, hz', ?_⟩
                          have st2' : Stp H ws.flatten H2 ([] ++ ws2.flatten) := by simpa using Stp.trans st1' (fun x z => z) (by simpa using st2)
                          obtain ⟨a', zs, wl, pv', hzz, row, wnd, wdj, put⟩ := list_put (w := []) c.g st2' env2 List.nodup_nil (fun a z => nomatch z) rfl f5 e7
                          cases (show PathV G σ H2 (.var i0) (.ref a) from pv).inj pv'
                          have len := row.length
                          have hj2' : L2.ixN xs2.length kk = some j2 := hj2
                          obtain ⟨_, jl, _⟩ := ixN_seq hj2'
                          refine ⟨a, zs, kk, j2, rfl, rfl, hzz, by rw [← len]; exact hj2', ?_⟩
                          obtain ⟨wl', row', nd', sub'⟩ := row.set (d := .int zi) (v := .int zi) (w2 := []) jl (.z (.int zi)) wnd List.nodup_nil (fun a _ z => nomatch z)
                          obtain ⟨ws3, env3, st3⟩ := put (zs.set j2 (.int zi)) (xs2.set j2 (.int zi)) wl' (fun b hb => (sub' b hb).imp id fun q => absurd q (by simp)) nd' row'
                          exact po.nx rfl g2 rfl _ ws3 σ st3 env3 KeepS.refl
                      · cases he
                    · cases he
                  · cases he
                · cases he
              · cases he
            · cases he
          · cases hc
        · cases hc
      · cases hc
    · cases hc
  · refine PS.vac ?_
    rintro D σ H ⟨T, ws, g, ρ, go, fl, ρ', hc, he, env, po⟩
    simp only [cks] at hc
    split at hc
    · split at hc
      · split at hc
        · split at hc
          · rename_i f
            simp only [Bool.and_eq_true] at f
            exact hvp ⟨f.2.1, f.1⟩
          · cases hc
        · cases hc
      · cases hc
    · cases hc
end
end DI
end
section
set_option Elab.async false
set_option linter.all false
set_option maxRecDepth 100000
/-! Statements: blocks, branches, loops. -/
namespace DI
open PySem PySem.Spec L2
section
variable {G : CT} {ts : List Addr} {H H' : Hp} {T T' : Tl} {ws ws' : List (List Addr)} {g g' : Md} {ρ ρ' : Rho} {σ σ' : L2.St}
variable {t : Tb} {C : Calls} {X : Cx} {mc : Mc} {k : Nat} {N B N' B' : Sets} {F : FA} {r : Rt0} {lp : Option Lp}
/-- a block that never ends by its end -/
theorem cks_fall : ∀ {s : S} {lp : Option Lp} {g : Md} {ρ ρ' : Rho} {fl : Fl}, cks t r lp s g = some none → ex C s ρ = some (fl, ρ') → fl ≠ .nx := by
  intro s
  induction s with
  | nil => intro lp g ρ ρ' fl h; simp only [cks] at h; cases h
  | cons s1 s2 i1 i2 =>
    intro lp g ρ ρ' fl h he
    simp only [cks, ex] at h he
    split at h
    · rename_i g1 e1
      split at he
      · exact i2 h he
      · rename_i hn
        intro z
        subst z
        exact hn _ he
    · rename_i hn
      split at he
      · rename_i ρ1 e2
        exact absurd rfl (i1 h e2)
      · exact i1 h he
  | ret e =>
    intro lp g ρ ρ' fl _ he
    simp only [ex] at he
    split at he <;> cases he
    exact fun z => nomatch z
  | retn => intro lp g ρ ρ' fl _ he; simp only [ex] at he; cases he; exact fun z => nomatch z
  | ifs c a b ia ib =>
    intro lp g ρ ρ' fl h he
    simp only [cks, ex] at h he
    split at h
    · split at h
      · split at h
        · rename_i ga gb ea eb
          have key : ga = none ∧ gb = none := by
            cases ga <;> cases gb <;> simp only [joinO] at h
            · exact ⟨rfl, rfl⟩
            · cases h
            · cases h
            · split at h <;> cases h
          obtain ⟨rfl, rfl⟩ := key
          split at he
          · exact ia ea he
          · exact ib eb he
          · cases he
        · cases h
      · cases h
    · cases h
  | cont => intro lp g ρ ρ' fl _ he; simp only [ex] at he; cases he; exact fun z => nomatch z
  | brk => intro lp g ρ ρ' fl _ he; simp only [ex] at he; cases he; exact fun z => nomatch z
  | asg i e =>
    intro lp g ρ ρ' fl h _
    simp only [cks] at h
    split at h
    · split at h
      · rw [Option.map_eq_some_iff] at h
        obtain ⟨_, _, q⟩ := h
        cases q
      · cases h
    · cases h
  | asgT i e =>
    intro lp g ρ ρ' fl h _
    simp only [cks] at h
    split at h
    · split at h
      · rw [Option.map_eq_some_iff] at h
        obtain ⟨_, _, q⟩ := h
        cases q
      · cases h
    · cases h
  | asgF p c j e =>
    intro lp g ρ ρ' fl h _
    simp only [cks] at h
    split at h
    · split at h
      · split at h
        · split at h
          · cases h
          · split at h <;> cases h
        · cases h
      · cases h
    · cases h
  | asgFT p c js e => intro lp g ρ ρ' fl h _; simp only [cks] at h; cases h
  | setI p i e =>
    intro lp g ρ ρ' fl h _
    simp only [cks] at h
    split at h
    · split at h
      · split at h
        · split at h <;> cases h
        · cases h
      · cases h
    · cases h
  | aug o i e =>
    intro lp g ρ ρ' fl h _
    simp only [cks] at h
    split at h
    · split at h <;> cases h
    · cases h
  | augI o p i e =>
    intro lp g ρ ρ' fl h _
    simp only [cks] at h
    split at h
    · split at h
      · split at h
        · split at h <;> cases h
        · cases h
      · cases h
    · cases h
  | augF o p c j e => intro lp g ρ ρ' fl h _; simp only [cks] at h; cases h
  | app p e =>
    intro lp g ρ ρ' fl h _
    simp only [cks] at h
    split at h
    · split at h
      · split at h <;> cases h
      · cases h
    · cases h
  | ext p e =>
    intro lp g ρ ρ' fl h _
    simp only [cks] at h
    split at h
    · split at h
      · split at h <;> cases h
      · cases h
    · cases h
  | ins p i e =>
    intro lp g ρ ρ' fl h _
    simp only [cks] at h
    split at h
    · split at h
      · split at h
        · split at h <;> cases h
        · cases h
      · cases h
    · cases h
  | for_ tg src body kills hide ih =>
    intro lp g ρ ρ' fl h _
    simp only [cks] at h
    split at h
    · split at h
      · split at h
        · split at h
          · split at h <;> cases h
          · cases h
        · cases h
      · cases h
    · cases h
  | whl c body kills ih =>
    intro lp g ρ ρ' fl h _
    simp only [cks] at h
    split at h
    · split at h
      · split at h <;> cases h
      · cases h
    · cases h
  | drop e =>
    intro lp g ρ ρ' fl h _
    simp only [cks] at h
    split at h <;> cases h
  | pass => intro lp g ρ ρ' fl h _; simp only [cks] at h; cases h
theorem ss_nil : PSs X [] (RSt t G ts C r lp .nil) := by
  refine PSs.of pss_nil ?_
  rintro D σ H ⟨T, ws, g, ρ, go, fl, ρ', hc, he, env, p⟩
  simp only [cks, ex] at hc he
  cases he; cases hc
  exact p.nx rfl g rfl H ws σ Stp.refl env KeepS.refl
theorem ss_cons {s1 s2 : S} {st : Stmt} {rest : List Stmt} (h1 : PS X st (RSt t G ts C r lp s1)) (h2 : PSs X rest (RSt t G ts C r lp s2)) : PSs X (st :: rest) (RSt t G ts C r lp (.cons s1 s2)) := by
  refine PSs.of (pss_cons h1 h2) ?_
  rintro D σ H ⟨T, ws, g, ρ, go, fl, ρ', hc, he, env, p⟩
  simp only [cks, ex] at hc he
  cases e1 : cks t r lp s1 g with
  | none => rw [e1] at hc; cases hc
  | some o1 =>
    rw [e1] at hc
    cases e2 : ex C s1 ρ with
    | none => rw [e2] at he; cases he
    | some q =>
      obtain ⟨fl1, ρ1⟩ := q
      rw [e2] at he
      refine ⟨T, ws, g, ρ, o1, fl1, ρ1, e1, e2, env, ?_⟩
      have sub : ∀ i ∈ asgd s1, i ∈ asgd (.cons s1 s2) := fun i hi => List.mem_append_left _ hi
      cases fl1 with
      | nx =>
        simp only at he
        cases o1 with
        | none => exact absurd rfl (cks_fall e1 e2)
        | some g1 =>
          simp only at hc
          refine ⟨fun _ g' hg H' ws' σ' st env1 ks => ?_, fun z => (nomatch z), fun z => (nomatch z), fun d z => nomatch z⟩
          cases hg
          refine ⟨T, ws', g1, ρ1, go, fl, ρ', hc, he, env1, ?_⟩
          refine ⟨fun e g' hg H2 ws2 σ2 st2 env2 ks2 => ?_, fun e l hl H2 ws2 σ2 st2 env2 ks2 => ?_, fun e l hl H2 ws2 σ2 st2 env2 ks2 => ?_, fun d e gr v H2 w ws2 σ2 st2 env2 f rr pl nd dj ks2 => ?_⟩
          · exact p.nx e g' hg H2 ws2 σ2 (Stp.trans st (fun x z => z) st2) env2 (ks.trans ks2)
          · exact p.ct e l hl H2 ws2 σ2 (Stp.trans st (fun x z => z) st2) env2 (ks.trans ks2)
          · exact p.bk e l hl H2 ws2 σ2 (Stp.trans st (fun x z => z) st2) env2 (ks.trans ks2)
          · exact p.rt d e gr v H2 w ws2 σ2 (Stp.trans st (fun x z => z) st2) env2 f rr pl nd dj (ks.trans ks2)
      | rt d =>
        simp only at he
        cases he
        refine ⟨fun z => (nomatch z), fun z => (nomatch z), fun z => (nomatch z), fun d' e gr v H2 w ws2 σ2 st2 env2 f rr pl nd dj ks2 => ?_⟩
        exact p.rt d' e gr v H2 w ws2 σ2 st2 env2 f rr pl nd dj (ks2.mono sub)
      | bk =>
        simp only at he
        cases he
        exact ⟨fun z => (nomatch z), fun z => (nomatch z), fun e l hl H2 ws2 σ2 st2 env2 ks2 => p.bk e l hl H2 ws2 σ2 st2 env2 (ks2.mono sub), fun d z => nomatch z⟩
      | ct =>
        simp only at he
        cases he
        exact ⟨fun z => (nomatch z), fun e l hl H2 ws2 σ2 st2 env2 ks2 => p.ct e l hl H2 ws2 σ2 st2 env2 (ks2.mono sub), fun z => (nomatch z), fun d z => nomatch z⟩
theorem PoS.sub {as bs : List Nat} {go : Option Md} {fl : Fl} {D : Ends} {B : List Addr} (p : PoS t G ts H T B σ r lp as go fl ρ' D) (h : ∀ i ∈ bs, i ∈ as) : PoS t G ts H T B σ r lp bs go fl ρ' D :=
  ⟨fun e g' hg H2 ws2 σ2 st2 env2 ks2 => p.nx e g' hg H2 ws2 σ2 st2 env2 (ks2.mono h), fun e l hl H2 ws2 σ2 st2 env2 ks2 => p.ct e l hl H2 ws2 σ2 st2 env2 (ks2.mono h), fun e l hl H2 ws2 σ2 st2 env2 ks2 => p.bk e l hl H2 ws2 σ2 st2 env2 (ks2.mono h),
    fun d e gr v H2 w ws2 σ2 st2 env2 f rr pl nd dj ks2 => p.rt d e gr v H2 w ws2 σ2 st2 env2 f rr pl nd dj (ks2.mono h)⟩
/-- from a step on -/
theorem PoS.step {as : List Nat} {go : Option Md} {fl : Fl} {D : Ends} {B : List Addr} {H1 : Hp} (p : PoS t G ts H T B σ r lp as go fl ρ' D) {ws1 : List (List Addr)} (st : Stp H B H1 ws1.flatten) : PoS t G ts H1 T ws1.flatten σ r lp as go fl ρ' D :=
  ⟨fun e g' hg H2 ws2 σ2 st2 env2 ks2 => p.nx e g' hg H2 ws2 σ2 (Stp.trans st (fun x z => z) st2) env2 ks2, fun e l hl H2 ws2 σ2 st2 env2 ks2 => p.ct e l hl H2 ws2 σ2 (Stp.trans st (fun x z => z) st2) env2 ks2, fun e l hl H2 ws2 σ2 st2 env2 ks2 => p.bk e l hl H2 ws2 σ2 (Stp.trans st (fun x z => z) st2) env2 ks2,
    fun d e gr v H2 w ws2 σ2 st2 env2 f rr pl nd dj ks2 => p.rt d e gr v H2 w ws2 σ2 (Stp.trans st (fun x z => z) st2) env2 f rr pl nd dj ks2⟩
/-- a mode less known -/
theorem PoS.weaker {as : List Nat} {ga gb : Option Md} {fl : Fl} {D : Ends} {B : List Addr} (p : PoS t G ts H T B σ r lp as gb fl ρ' D) (h : ∀ g', ga = some g' → ∃ g2, gb = some g2 ∧ weakM g' g2 = true) : PoS t G ts H T B σ r lp as ga fl ρ' D :=
  ⟨fun e g' hg H2 ws2 σ2 st2 env2 ks2 => by
    obtain ⟨g2, h1, h2⟩ := h g' hg
    obtain ⟨ws3, env3, sub⟩ := env2.weak h2
    exact p.nx e g2 h1 H2 ws3 σ2 (st2.less sub) env3 ks2, p.ct, p.bk, p.rt⟩
theorem ss_if {c : E} {a b : S} {x : Expr} {as bs : List Stmt} {pos : Pos} (hc0 : PT X x (RT t G ts C c)) (ha : PSs X as (RSt t G ts C r lp a)) (hb : PSs X bs (RSt t G ts C r lp b)) : PS X (.If x as bs pos) (RSt t G ts C r lp (.ifs c a b)) := by
  refine PS.of (ps_if hc0 ha hb) ?_
  rintro D σ H ⟨T, ws, g, ρ, go, fl, ρ', hc, he, env, p⟩
  simp only [cks, ex] at hc he
  split at hc
  · rename_i m g1 e1
    split at hc
    · rename_i hf
      split at hc
      · rename_i ga gb ea eb
        have jl : ∀ g', ga = some g' → ∃ g2, go = some g2 ∧ weakM g' g2 = true := fun g' hg => by
          subst hg
          cases gb <;> simp only [joinO] at hc
          · cases hc; exact ⟨g', rfl, weakM_of rfl fun i m m' h1 h2 => by rw [h1] at h2; cases h2; exact weak1_refl⟩
          · split at hc
            · rename_i hl; cases hc; exact ⟨_, rfl, joinM_l hl⟩
            · cases hc
        have jr : ∀ g', gb = some g' → ∃ g2, go = some g2 ∧ weakM g' g2 = true := fun g' hg => by
          subst hg
          cases ga <;> simp only [joinO] at hc
          · cases hc; exact ⟨g', rfl, weakM_of rfl fun i m m' h1 h2 => by rw [h1] at h2; cases h2; exact weak1_refl⟩
          · split at hc
            · rename_i hl; cases hc; exact ⟨_, rfl, joinM_r hl⟩
            · cases hc
        split at he
        · rename_i ρ1 e2
          refine ⟨T, ws, g, ρ, m, g1, true, ρ1, e1, hf, e2, env, fun H1 ws1 st1 env1 => ?_⟩
          show RSt t G ts C r lp a D σ H1
          exact ⟨T, ws1, g1, ρ1, ga, fl, ρ', ea, he, env1, ((p.step st1).weaker jl).sub fun i hi => List.mem_append_left _ hi⟩
        · rename_i ρ1 e2
          refine ⟨T, ws, g, ρ, m, g1, false, ρ1, e1, hf, e2, env, fun H1 ws1 st1 env1 => ?_⟩
          show RSt t G ts C r lp b D σ H1
          exact ⟨T, ws1, g1, ρ1, gb, fl, ρ', eb, he, env1, ((p.step st1).weaker jr).sub fun i hi => List.mem_append_right _ hi⟩
        · cases he
      · cases hc
    · cases hc
  · cases hc
/-- the reading of a loop's body -/
def RSb (t : Tb) (G : CT) (ts : List Addr) (C : Calls) (r : Rt0) (s : S) : TS := fun D σ H => ∃ lp, RSt t G ts C r lp s D σ H
theorem PSs.anyL {s : S} {sts : List Stmt} (h : ∀ lp, PSs X sts (RSt t G ts C r lp s)) : PSs X sts (RSb t G ts C r s) := ⟨fun pins s σ H D I ⟨lp, q⟩ => (h lp).run pins s σ H D I q⟩
theorem go_weak {go : Option Md} {g0 : Md} (h : goOk go g0 = true) {ge : Md} (e : go = some ge) : weakM ge g0 = true := by subst e; exact h
theorem ss_while {c : E} {body : S} {kills : List Nat} {x : Expr} {bs : List Stmt} {pos : Pos} (hp : PassesOwn (model X.prog X.w) X.A X.env X.xe) (hc0 : PT X x (RT t G ts C c)) (hb : ∀ lp, PSs X bs (RSt t G ts C r lp body)) : PS X (.While x bs [] pos) (RSt t G ts C r lp (.whl c body kills)) := by
  refine PS.of (ps_while hp hc0 (PSs.anyL hb)) ?_
  rintro D σ H ⟨T, ws, g, ρ, go, fl, ρ', hc, he, env, p⟩
  simp only [cks, ex] at hc he
  split at hc
  · rename_i m g1 e1
    split at hc
    · rename_i gb e2
      split at hc
      · rename_i f
        cases hc
        simp only [Bool.and_eq_true] at f
        obtain ⟨f1, f2, f3, f4⟩ := f
        obtain ⟨n, hn⟩ := of_whileD he
        obtain ⟨ws0, env0, sub0⟩ := env.weak (killM_weak (is := kills))
        refine ⟨fun n σ' H' => ∃ ws_i ρ_i, Stp H ws.flatten H' ws_i.flatten ∧ EnvOk G ts H' T ws_i (killM kills g) ρ_i σ' ∧ KeepS (asgd body) σ σ' ∧ iterW (fun ρ => ev C c ρ) (fun ρ => ex C body ρ) kills n ρ_i = some (fl, ρ'), ⟨n, ws0, ρ, Stp.refl.less sub0, env0, KeepS.refl, hn⟩, ?_⟩
        rintro n σ1 H1 ⟨ws1, ρ1, st1, env1, ks1, hit⟩
        cases n with
        | zero => unfold iterW at hit; cases hit
        | succ n =>
          unfold iterW at hit
          split at hit
          · rename_i ρ2 e3
            cases hit
            refine ⟨T, ws1, _, ρ1, m, g1, false, ρ', e1, f1, e3, env1, fun H2 ws2 st2 env2 => ?_⟩
            show D.nx σ1 H2
            obtain ⟨ws3, env3, sub3⟩ := env2.weak f4
            exact p.nx rfl _ rfl H2 ws3 σ1 ((Stp.trans st1 (fun x z => z) st2).less sub3) env3 ks1
          · rename_i ρ2 e3
            refine ⟨T, ws1, _, ρ1, m, g1, true, ρ2, e1, f1, e3, env1, fun H2 ws2 st2 env2 => ?_⟩
            dsimp only
            rw [if_pos rfl]
            have st12 := Stp.trans st1 (fun x z => z) st2
            refine ⟨fun σ' H' => ∃ ws_i ρ_i, Stp H ws.flatten H' ws_i.flatten ∧ EnvOk G ts H' T ws_i (killM kills g) ρ_i σ' ∧ KeepS (asgd body) σ σ' ∧ iterW (fun ρ => ev C c ρ) (fun ρ => ex C body ρ) kills n ρ_i = some (fl, ρ'), fun σ' H' h => ⟨n, Nat.lt_succ_self n, h⟩, some ⟨killM kills g, kills⟩, ?_⟩
            cases e4 : ex C body ρ2 with
            | none => simp only [e4] at hit; cases hit
            | some q =>
              obtain ⟨fl2, ρ3⟩ := q
              simp only [e4] at hit
              refine ⟨T, ws2, g1, ρ2, gb, fl2, ρ3, e2, e4, env2, ?_⟩
              refine ⟨fun e g' hg H3 ws3 σ3 st3 env3 ks3 => ?_, fun e l hl H3 ws3 σ3 st3 env3 ks3 => ?_, fun e l hl H3 ws3 σ3 st3 env3 ks3 => ?_, fun d e gr v H3 w ws3 σ3 st3 env3 f rr pl nd dj ks3 => ?_⟩
              · subst e
                obtain ⟨ws4, env4, sub4⟩ := env3.weak (go_weak f3 hg)
                exact ⟨ws4, _, (Stp.trans st12 (fun x z => z) st3).less sub4, env4.kill f2, (ks1.trans ks3).mono fun i hi => (List.mem_append.mp hi).elim id id, hit⟩
              · subst e
                cases hl
                exact ⟨ws3, _, Stp.trans st12 (fun x z => z) st3, env3.kill f2, (ks1.trans ks3).mono fun i hi => (List.mem_append.mp hi).elim id id, hit⟩
              · subst e
                cases hl
                cases hit
                exact p.nx rfl _ rfl H3 ws3 σ3 (Stp.trans st12 (fun x z => z) st3) (env3.kill f2) ((ks1.trans ks3).mono fun i hi => (List.mem_append.mp hi).elim id id)
              · subst e
                cases hit
                exact p.rt d rfl gr v H3 w ws3 σ3 (Stp.trans st12 (fun x z => z) st3) env3 f rr pl nd dj ((ks1.trans ks3).mono fun i hi => (List.mem_append.mp hi).elim id id)
          · cases hit
      · cases hc
    · cases hc
  · cases hc
/-! ### for -/
theorem tg_ok0 {tg : Tg} {im : M} {x : D} {v : V} {ga : Md} {ρa : Rho} {H2 : Hp} {Q : L2.St → Hp → Prop} (env : EnvOk G ts H2 T ws g ρ σ) (hp : plainSl g tg.slots = true) (hm : setTgM tg im g = some ga) (hd : setTg tg x ρ = some ρa)
    (hv : Rt G H2 (uni T ws.flatten) im x v [] ∨ ∃ p xs ds, H2 p = some (.tup xs) ∧ v = .ref p ∧ x = .tup ds ∧ RpT G H2 (uni T ws.flatten).s (uni T ws.flatten).b true im ds xs [])
    (q : ∀ σ2, EnvOk G ts H2 T ws ga ρa σ2 → KeepS tg.slots σ σ2 → Q σ2 H2) : tgG G.K tg v σ H2 Q := by
  obtain ⟨nd, ow⟩ := plain_ok env hp
  cases tg with
  | one i =>
    have hi := ow i (by simp [Tg.slots])
    simp only [setTg] at hd
    cases hd
    have key : ∃ m0, ga = g.set i m0 ∧ Rt G H2 (uni T ws.flatten) m0 x v [] := by
      simp only [setTgM] at hm
      split at hm
      · split at hm
        · rename_i hch hz
          cases hm
          refine ⟨_, rfl, ?_⟩
          rcases hv with r | ⟨p, xs, ds, h1, rfl, rfl, r⟩
          · refine .z ?_
            cases r with
            | T h r => exact .tup h (r.allz hz).1
            | z h => cases hch
            | w => cases hch
          · exact .z (.tup (.of h1) (r.allz hz).1)
        · cases hm
      · rename_i hch
        split at hm
        · cases hm
        · cases hm
          refine ⟨_, rfl, ?_⟩
          rcases hv with r | ⟨p, xs, ds, h1, rfl, rfl, r⟩
          · exact r
          · exact absurd r.chain hch
    obtain ⟨m0, rfl, r⟩ := key
    refine q _ (env.mix [i] (by simp) (by simp) (by simp) (fun j hj => ?_) fun j hj => ?_) ⟨by simp, fun j hj => ?_⟩
    · have hne : i ≠ j := fun e => hj (by simp [e])
      exact ⟨List.getElem?_set_ne hne, getD_set_ne hne, List.getElem?_set_ne hne⟩
    · have e : j = i := by simpa using hj
      subst e
      refine ⟨hi.2, fun m hmj => .inr ⟨v, ?_, ?_⟩⟩
      · exact List.getElem?_set_self (by rw [env.ls]; exact hi.1)
      · rw [List.getElem?_set_self hi.1] at hmj
        cases hmj
        rw [getD_set_eq (by rw [env.lr]; exact hi.1)]
        exact r
    · have hne : i ≠ j := fun e => hj (by simp [e, Tg.slots])
      exact List.getElem?_set_ne hne
  | many is =>
    cases x <;> simp only [setTg] at hd <;> try cases hd
    rename_i ds
    have hlen := setMany_len hd
    have key : ∃ (m : M) (p : Addr) (xs : List V), v = .ref p ∧ SqT G.K H2 p xs ∧ RpT G H2 (uni T ws.flatten).s (uni T ws.flatten).b true m ds xs [] ∧ setManyM is m g = some ga := by
      rcases hv with r | ⟨p, xs, ds', h1, rfl, e, r⟩
      · cases r with
        | z h =>
          cases h with
          | tup hs hf =>
            simp only [setTgM] at hm
            cases hm
            exact ⟨_, _, _, rfl, hs, hf.chainz hlen, manyZ_ok⟩
        | T hs hr =>
          exact ⟨_, _, _, rfl, hs, hr, by rw [← chain_many hr.chain]; exact hm⟩
        | w =>
          exfalso
          cases is <;> (simp only [setTgM, setManyM] at hm; cases hm)
      · cases e
        exact ⟨_, _, _, rfl, .of h1, r, by rw [← chain_many r.chain]; exact hm⟩
    obtain ⟨m, p, xs, rfl, hs, r, hset⟩ := key
    have lt : ∀ i ∈ is, i < g.length ∧ i < ρ.length ∧ i < σ.length := fun i hi => by
      have := ow i hi
      rw [env.lr, env.ls]
      exact ⟨this.1, this.1, this.1⟩
    obtain ⟨l1, l2, l3, o, n⟩ := many_ok (σ := σ) r rfl hd hset nd lt
    refine ⟨p, xs, rfl, hs, l1, gNs_ok l1 (q _ (env.mix is l2 l3 sets_len (fun i hi => ?_) fun i hi => ?_) ⟨sets_len, fun i hi => ?_⟩)⟩
    · obtain ⟨o1, o2⟩ := o i hi
      exact ⟨o1, o2, sets_out hi⟩
    · obtain ⟨m0, v, n1, n2, n3⟩ := n i hi
      refine ⟨(ow i hi).2, fun m' hm' => .inr ⟨v, n2, ?_⟩⟩
      rw [n1] at hm'
      cases hm'
      exact n3
    · exact sets_out hi
theorem parOk_map {hide : List Nat} {g0 : Md} : ∀ {ps : List PK} {i n : Nat} {g : Md}, parOk t ps i g = true → (∀ j ∈ hide, ∀ q, (List.replicate i PK.z ++ ps)[j]? = some q → q = .z ∨ ∃ m, q = .bw m) → parOk t ps i (g.mapIdx fun i m => unhide1 hide g0 i m) = true
  | [], _, _, _, _, _ => rfl
  | p :: ps, i, n, g, h, hh => by
    have nx : ∀ j ∈ hide, ∀ q, (List.replicate (i + 1) PK.z ++ ps)[j]? = some q → q = .z ∨ ∃ m, q = .bw m := fun j hj q hq => by
      by_cases hlt : j < i + 1
      · rw [List.getElem?_append_left (by simpa using hlt), List.getElem?_replicate, if_pos hlt] at hq
        exact .inl (Option.some.inj hq).symm
      · refine hh j hj q ?_
        rw [List.getElem?_append_right (by simp; omega)] at hq ⊢
        rw [List.length_replicate] at hq ⊢
        rw [show j - i = (j - (i + 1)) + 1 by omega]
        simpa using hq
    have at_ : (List.replicate i PK.z ++ p :: ps)[i]? = some p := by
      rw [List.getElem?_append_right (by simp)]; simp
    have io : ∀ {m : M}, m.pl = true → g[i]? = some m → (∀ q, p = q → ¬ (q = .z ∨ ∃ m, q = .bw m)) → (g.mapIdx fun i m => unhide1 hide g0 i m)[i]? = some m := fun {m} pl e np => by
      rw [List.getElem?_mapIdx, e]
      show some (unhide1 hide g0 i m) = some m
      unfold unhide1
      have hi : ¬ hide.contains i = true := fun z => np p rfl (hh i (by simpa using z) p at_)
      rw [if_neg hi, if_pos pl]
    cases p with
    | io m =>
      simp only [parOk, Bool.and_eq_true, decide_eq_true_eq] at h ⊢
      exact ⟨⟨h.1.1, io h.1.1 h.1.2 fun q e z => by subst e; rcases z with z | ⟨_, z⟩ <;> cases z⟩, parOk_map (n := n) h.2 nx⟩
    | ini c =>
      simp only [parOk, Bool.and_eq_true, decide_eq_true_eq] at h ⊢
      exact ⟨io rfl h.1 (fun q e z => by subst e; rcases z with z | ⟨_, z⟩ <;> cases z), parOk_map (n := n) h.2 nx⟩
    | z => exact parOk_map (ps := ps) (i := i + 1) (n := n) (show parOk t ps (i + 1) g = true from h) nx
    | bw m => exact parOk_map (ps := ps) (i := i + 1) (n := n) (show parOk t ps (i + 1) g = true from h) nx
end
end DI
end
section
set_option Elab.async false
set_option linter.all false
set_option maxRecDepth 100000
/-! Statements: for. -/
namespace DI
open PySem PySem.Spec L2
section
variable {G : CT} {ts : List Addr} {H H' : Hp} {T T' : Tl} {ws ws' : List (List Addr)} {g g' : Md} {ρ ρ' : Rho} {σ σ' : L2.St}
variable {t : Tb} {C : Calls} {X : Cx} {mc : Mc} {k : Nat} {N B N' B' : Sets} {F : FA} {r : Rt0} {lp : Option Lp}
theorem hideOk_at {ps : List PK} {n : Nat} {hide ss : List Nat} (h : hideOk ps n hide ss = true) : ∀ i ∈ hide, i < n ∧ i ∉ ss ∧ ∀ q, ps[i]? = some q → q = .z ∨ ∃ m, q = .bw m := fun i hi => by
  unfold hideOk at h
  rw [List.all_eq_true] at h
  have := h i hi
  simp only [Bool.and_eq_true, decide_eq_true_eq, Bool.not_eq_true', List.contains_eq_mem, decide_eq_false_iff_not] at this
  refine ⟨this.1, this.2.1, fun q hq => ?_⟩
  have h3 := this.2.2
  unfold isIo at h3
  rw [hq] at h3
  cases q with
  | z => exact .inl rfl
  | bw m => exact .inr ⟨m, rfl⟩
  | io m => cases h3
  | ini c => cases h3
theorem hw_nil : (hw [] ws).flatten = [] := by
  refine List.eq_nil_iff_forall_not_mem.mpr fun a ha => ?_
  obtain ⟨i, h, _⟩ := keepW_mem ha
  simp at h
theorem ow_nil : ow [] ws = ws := by
  have key : ∀ (i : Nat) (ws : List (List Addr)), keepW (fun i => !([] : List Nat).contains i) i ws = ws := fun i ws => by
    induction ws generalizing i with
    | nil => rfl
    | cons w ws ih => unfold keepW; rw [ih]; simp
  exact key 0 ws
theorem ss_for (c : Ctx t mc G ts C F X k) {tg : Tg} {src : E} {body : S} {kills hide : List Nat} {te it : Expr} {bs : List Stmt} {pos : Pos} (hp : PassesOwn (model X.prog X.w) X.A X.env X.xe) (hset : isSetX it = false) (hT : matT mc tg te = true)
    (hi : PI X te it (RS t G ts C src)) (hb : ∀ lp, PSs X bs (RSt t G ts C r lp body)) : PS X (.For te it bs [] pos) (RSt t G ts C r lp (.for_ tg src body kills hide)) := by
  refine PS.of (ps_for hp c.cx.calm hi (pg_tg c.cx hT) (PSs.anyL hb) (fold_ok hset X.env)) ?_
  rintro D σ H ⟨T, ws, g, ρ, go, fl, ρ', hc, he, env, p⟩
  simp only [cks, ex] at hc he
  split at hc
  · rename_i gh hh
    split at hc
    · rename_i im g1 e1
      split at hc
      · rename_i ga e2
        split at hc
        · rename_i gb e3
          split at hc
          · rename_i f
            cases hc
            simp only [Bool.and_eq_true] at f
            obtain ⟨f1, f2, f3, f4⟩ := f
            have hok := hideOk_at f4
            split at he
            · rename_i items ρ1 e4
              rw [Option.map_eq_some_iff] at he
              obtain ⟨⟨fl', ρ2⟩, hlp, he⟩ := he
              cases he
              have envh := env.hide hh
              refine ⟨_, ow hide ws, gh, ρ, im, g1, items, ρ1, e1, e4, envh, fun J H1 ws1 st1 env1 so => ?_⟩
              obtain ⟨ws0, env0, sub0⟩ := env1.weak (killM_weak (is := kills))
              have l0 : (killM kills g1).length = g.length := by rw [killM_len, ← env1.ls, env.ls]
              have keep : ∀ {σ' : L2.St}, KeepS (tg.slots ++ asgd body) σ σ' → ∀ i ∈ hide, σ'[i]? = σ[i]? := fun ks i hi => ks.2 i fun z => (hok i hi).2.1 (List.mem_append_left _ z)
              have fnx : fl' = .nx → ∀ (H2 : Hp) (ws2 : List (List Addr)) (σ2 : L2.St), Stp H1 ws1.flatten H2 ws2.flatten → EnvOk G ts H2 (lent T (hw hide ws).flatten) ws2 (killM kills g1) ρ2 σ2 → KeepS (tg.slots ++ asgd body) σ σ2 → D.nx σ2 H2 := by
                intro efl H2 ws2 σ2 st2 env2 ks
                have st12 := Stp.trans st1 (fun x z => z) st2
                cases hid : hide.isEmpty with
                | true =>
                  have e0 : hide = [] := by simpa using hid
                  subst e0
                  rw [ow_nil] at st12
                  refine p.nx efl _ rfl H2 ws2 σ2 st12 ?_ ks
                  show EnvOk G ts H2 T ws2 (killM kills g1) ρ2 σ2
                  exact env2.less (fun a z => .inl z) fun a z => z.elim id fun q => by rw [hw_nil] at q; cases q
                | false =>
                  obtain ⟨ws3, env3, st3, _⟩ := env.unhide (w := []) c.g hh (by simpa using st12) (env2.less fun a z => uni_nil z) (keep ks) (fun i hi => (hok i hi).1) l0 List.nodup_nil fun a z => nomatch z
                  refine p.nx efl _ rfl H2 ws3 σ2 (by simpa using st3) ?_ ks
                  unfold unhideM
                  rw [hid]
                  exact env3.less fun a z => .inl z
              have frt : ∀ d, fl' = .rt d → ∀ (gr : Md) (v : V) (H2 : Hp) (w : List Addr) (ws2 : List (List Addr)) (σ2 : L2.St), Stp H1 ws1.flatten H2 (w ++ ws2.flatten) → EnvOk G ts H2 (uni (lent T (hw hide ws).flatten) w) ws2 gr ρ2 σ2 → parOk t r.ps 0 gr = true →
                  Rt G H2 (uni (uni (lent T (hw hide ws).flatten) w) ws2.flatten) r.ret d v w → r.ret.pl = true → w.Nodup → (∀ a ∈ w, ¬ lent T (hw hide ws).flatten a) → KeepS (tg.slots ++ asgd body) σ σ2 → D.rt v H2 := by
                intro d efl gr v H2 w ws2 σ2 st2 env2 f rr pl nd dj ks
                have st12 := Stp.trans st1 (fun x z => z) st2
                have lr : gr.length = g.length := by
                  have h1 := env2.ls
                  rw [← h1, ks.1, env.ls]
                obtain ⟨ws3, env3, st3, sub3⟩ := env.unhide c.g hh st12 env2 (keep ks) (fun i hi => (hok i hi).1) lr nd dj
                refine p.rt d efl _ v H2 w ws3 σ2 st3 env3 (parOk_map (n := 0) f fun j hj q hq => (hok j hj).2.2 q (by simpa using hq)) ?_ pl nd (fun a ha z => dj a ha (.inl z)) ks
                refine Rp.sets (rr.anyB c.g.pl pl) (fun a _ z => ?_) fun _ _ z => z
                rcases z with (z | z) | z
                · exact .inl (.inl (.inl z))
                · exact .inl (.inr z)
                · rcases sub3 a z with q | q
                  · exact .inr q
                  · exact .inl (.inl (.inr q))
              refine ⟨fun i n σ' H' => n = items.length - i ∧ i ≤ items.length ∧ ∃ ws_i ρ_i, Stp H1 ws1.flatten H' ws_i.flatten ∧ EnvOk G ts H' (lent T (hw hide ws).flatten) ws_i (killM kills g1) ρ_i σ' ∧ KeepS (tg.slots ++ asgd body) σ σ' ∧ loopF kills tg (fun ρ => ex C body ρ) (items.drop i) ρ_i = some (fl', ρ2),
                ⟨items.length, by simp, Nat.zero_le _, ws0, ρ1, Stp.refl.less sub0, env0, KeepS.refl, by simpa using hlp⟩, ?_⟩
              rintro i n σ3 H3 ⟨rfl, hi, ws3, ρ3, st3, env3, ks3, hl3⟩
              have hnx : Nx H1 (· ∈ ws1.flatten) (uni (lent T (hw hide ws).flatten) ws1.flatten).s (uni (lent T (hw hide ws).flatten) ws1.flatten).b (uni (lent T (hw hide ws).flatten) ws3.flatten).s (uni (lent T (hw hide ws).flatten) ws3.flatten).b := by
                have hn : ∀ a, H1 a ≠ none → (uni (lent T (hw hide ws).flatten) ws3.flatten).s a → (uni (lent T (hw hide ws).flatten) ws1.flatten).s a := fun a ha z => by
                  rcases z with z | z
                  · exact .inl z
                  · exact .inr ((st3.sub a z).elim id fun q => absurd q ha)
                exact ⟨fun a z => .inr z, fun a z => ⟨.inr z, fun q => env1.dj a z ((lent T (hw hide ws).flatten).h a q)⟩, hn, fun a ha z => ⟨hn a ha z.1, z.2⟩⟩
              obtain ⟨hstop, hitem⟩ := so H3 _ _ _ st3.kp hnx
              by_cases hlt : i < items.length
              · right
                have hget : items[i]? = some items[i] := List.getElem?_eq_getElem hlt
                obtain ⟨hgo, hyld⟩ := hitem i _ hget
                refine ⟨hgo, fun σn Hn => ∃ ws_i ρ_i, Stp H1 ws1.flatten Hn ws_i.flatten ∧ EnvOk G ts Hn (lent T (hw hide ws).flatten) ws_i (killM kills g1) ρ_i σn ∧ KeepS (tg.slots ++ asgd body) σ σn ∧ loopF kills tg (fun ρ => ex C body ρ) (items.drop (i + 1)) ρ_i = some (fl', ρ2),
                  fun σ' H' hN => ⟨items.length - (i + 1), by omega, rfl, hlt, hN⟩, fun v H4 hy => ?_⟩
                obtain ⟨env4, st4, kp4, hv⟩ := yld_ok env3 (hyld v H4 hy)
                rw [List.drop_eq_getElem_cons hlt] at hl3
                unfold loopF at hl3
                rw [c.K]
                split at hl3
                · rename_i ρa ha
                  refine tg_ok0 env4 f1 e2 ha hv fun σ5 env5 hs5 => ⟨some ⟨killM kills g1, kills⟩, ?_⟩
                  have ks5 : KeepS (tg.slots ++ asgd body) σ σ5 := ⟨hs5.1.trans ks3.1, fun j hj => by
                    rw [hs5.2 j fun z => hj (List.mem_append_left _ z), ks3.2 j hj]⟩
                  have st34 := Stp.trans st3 (fun x z => z) st4
                  cases e5 : ex C body ρa with
                  | none => simp only [e5] at hl3; cases hl3
                  | some q =>
                    obtain ⟨fl2, ρb⟩ := q
                    simp only [e5] at hl3
                    have ks56 : ∀ {σ6 : L2.St}, KeepS (asgd body) σ5 σ6 → KeepS (tg.slots ++ asgd body) σ σ6 := fun h => ⟨h.1.trans ks5.1, fun j hj => by
                      rw [h.2 j fun z => hj (List.mem_append_right _ z), ks5.2 j hj]⟩
                    refine ⟨_, ws3, ga, ρa, gb, fl2, ρb, e3, e5, env5, ?_⟩
                    refine ⟨fun e g' hg H6 ws6 σ6 st6 env6 ks6 => ?_, fun e l hl H6 ws6 σ6 st6 env6 ks6 => ?_, fun e l hl H6 ws6 σ6 st6 env6 ks6 => ?_, fun d e gr v H6 w ws6 σ6 st6 env6 f rr pl nd dj ks6 => ?_⟩
                    · subst e
                      obtain ⟨ws7, env7, sub7⟩ := env6.weak (go_weak f3 hg)
                      exact ⟨ws7, _, (Stp.trans st34 (fun x z => z) st6).less sub7, env7.kill f2, ks56 ks6, hl3⟩
                    · subst e
                      cases hl
                      exact ⟨ws6, _, Stp.trans st34 (fun x z => z) st6, env6.kill f2, ks56 ks6, hl3⟩
                    · subst e
                      cases hl
                      cases hl3
                      exact fnx rfl H6 ws6 σ6 (Stp.trans st34 (fun x z => z) st6) (env6.kill f2) (ks56 ks6)
                    · subst e
                      cases hl3
                      exact frt d rfl gr v H6 w ws6 σ6 (Stp.trans st34 (fun x z => z) st6) env6 f rr pl nd dj (ks56 ks6)
                · cases hl3
              · left
                have ei : i = items.length := by omega
                subst ei
                refine ⟨hstop, ?_⟩
                rw [List.drop_length] at hl3
                unfold loopF at hl3
                cases hl3
                exact fnx rfl H3 ws3 σ3 st3 env3 ks3
            · cases he
          · cases hc
        · cases hc
      · cases hc
    · cases hc
  · cases hc
end
end DI
end
section
set_option Elab.async false
set_option linter.all false
set_option maxRecDepth 100000
/-! Statements: fields written; names. -/
namespace DI
open PySem PySem.Spec L2
section
variable {G : CT} {ts : List Addr} {H H' : Hp} {T T' : Tl} {ws ws' : List (List Addr)} {g g' : Md} {ρ ρ' : Rho} {σ σ' : L2.St}
variable {t : Tb} {C : Calls} {X : Cx} {mc : Mc} {k : Nat} {N B N' B' : Sets} {F : FA} {r : Rt0} {lp : Option Lp}
/-- a slot's object is written, its mode with it -/
theorem EnvOk.putVar {w0 : List Addr} {i : Nat} {m0 m' : M} {d' : D} {v : V} {w' : List Addr} {H3 : Hp} (env : EnvOk G ts H (uni T w0) ws g ρ σ) (nd0 : w0.Nodup) (dj0 : ∀ a ∈ w0, ¬ T a) (hg : g[i]? = some m0) (hv : σ[i]? = some (some v))
    (kp : Kp H H3 (· ∈ ws.getD i [])) (tr : ∀ a, H a ≠ none → H3 a ≠ none) (tb : Tabs ts H3) (hw : ∀ a ∈ w', a ∈ ws.getD i [] ∨ a ∈ w0) (nd : w'.Nodup)
    (r : Rp G H3 (uni (uni T w0) ws.flatten).s (uni (uni T w0) ws.flatten).b true m' d' v w') :
    ∃ ws3, EnvOk G ts H3 T ws3 (g.set i m') (ρ.set i d') σ ∧ (∀ a ∈ ws3.flatten, a ∈ ws.flatten ∨ a ∈ w0) := by
  have hig : i < g.length := (List.getElem?_eq_some_iff.mp hg).1
  have hwi : i < ws.length := by rw [env.lw]; exact hig
  have hnot : ∀ a ∈ ws.getD i [], a ∉ (ws.set i []).flatten := fun a ha => hid_not env.nd hwi ha
  have inW : ∀ a ∈ ws.getD i [], a ∈ ws.flatten := fun a ha => mem_flat ha
  have djr : ∀ a ∈ w', ¬ T a := fun a ha z => (hw a ha).elim (fun q => env.dj a (inW a q) (.inl z)) fun q => dj0 a q z
  have envh := env.take (d' := ρ.getD i .non) hig (.inl (rfl : M.x = .x))
  rw [set_getD] at envh
  have envp : EnvOk G ts H3 (uni T w') (ws.set i []) (g.set i .x) ρ σ := by
    refine envh.pass kp (fun a z => ⟨.inl (.inr z), fun l => env.dj a (inW a z) (.inl (T.h a l))⟩) (fun a ha z => hnot a z ha) tr tb (fun a z => ?_) (fun a z => .inl ?_) (fun a z q => ?_) fun a z => z
    · rcases z with z | z
      · exact tr a (env.tt a (.inl z))
      · exact r.trk a z
    · rcases z with z | z
      · exact .inl (.inl (.inl z))
      · exact (hw a z).elim (fun q => .inl (.inr q)) fun q => .inl (.inl (.inr q))
    · rcases z with z | z
      · exact env.dj a (flat_set_nil.subset q) (.inl z)
      · exact (hw a z).elim (fun y => hnot a y q) fun y => env.dj a (flat_set_nil.subset q) (.inr y)
  have sub : ∀ a, (uni (uni T w') (ws.set i []).flatten).s a → (uni (uni T w0) ws.flatten).s a := fun a z => by
    rcases z with (z | z) | z
    · exact .inl (.inl z)
    · exact (hw a z).elim (fun q => .inr (inW a q)) fun q => .inl (.inr q)
    · exact .inr (flat_set_nil.subset z)
  have envf := envp.give (i := i) (m := m') (d := d') (v := v) (w := w') (by simpa using hig) (Rp.sets r (fun a _ z => sub a z) fun a _ z => ⟨sub a z.1, z.2⟩) nd djr
  rw [List.set_set, List.set_set, set_same hv] at envf
  refine ⟨_, envf, fun a ha => ?_⟩
  rcases mem_set_flat ha with q | q
  · exact .inl q
  · exact (hw a q).imp (inW a) id
theorem putF_at {f : Str} {y : V} : ∀ {fs : List (Str × V)} {j : Nat}, (fs.map (·.1)).Nodup → (fs.map (·.1))[j]? = some f → (putF f y fs).map (·.1) = fs.map (·.1) ∧ (putF f y fs).map (·.2) = (fs.map (·.2)).set j y
  | [], j, _, h => by simp at h
  | (g, x) :: fs, 0, nd, h => by
    simp at h; subst h
    unfold putF
    rw [if_pos rfl]
    exact ⟨rfl, rfl⟩
  | (g, x) :: fs, j + 1, nd, h => by
    simp only [List.map_cons, List.nodup_cons] at nd
    simp only [List.map_cons, List.getElem?_cons_succ] at h
    obtain ⟨h1, h2⟩ := putF_at (y := y) nd.2 h
    unfold putF
    rw [if_neg fun e => nd.1 (by rw [e]; exact List.mem_of_getElem? h)]
    exact ⟨by simp [h1], by simp [h2]⟩
theorem putF_new {f : Str} {y : V} : ∀ {fs : List (Str × V)}, f ∉ fs.map (·.1) → putF f y fs = fs ++ [(f, y)]
  | [], _ => rfl
  | (g, x) :: fs, h => by
    simp only [List.map_cons, List.mem_cons, not_or] at h
    unfold putF
    rw [if_neg fun e => h.1 e.symm, putF_new h.2]; rfl
theorem RpT.snoc : ∀ {ms : List M} {ds : List D} {vs : List V} {w : List Addr} {m : M} {d : D} {v : V} {w2 : List Addr}, RpT G H N B true (DI.chain ms) ds vs w → Rp G H N B true m d v w2 → RpT G H N B true (DI.chain (ms ++ [m])) (ds ++ [d]) (vs ++ [v]) (w ++ w2)
  | [], _, _, _, _, _, _, _, .nil, h => by
    have := RpT.cons (w2 := []) h .nil
    rw [List.append_nil] at this
    exact this
  | m0 :: ms, _, _, _, _, _, _, _, .cons h0 t, h => by
    rw [List.append_assoc]
    exact .cons h0 (t.snoc h)
theorem RpT.lenC : ∀ {ms : List M} {ds : List D} {vs : List V} {w : List Addr} {o : Bool}, RpT G H N B o (DI.chain ms) ds vs w → ds.length = ms.length
  | [], _, _, _, _, .nil => rfl
  | _ :: _, _, _, _, _, .cons _ t => by simp [t.lenC]
theorem Rp.isO {m : M} {c kk : Nat} {d : D} {v : V} {w : List Addr} (h : Rp G H N B true m d v w) (hm : m = .O c kk) : ∃ (ds : List D) (a dx : Addr) (fs : List (Str × V)) (wl : List Addr), d = .tup ds ∧ v = .ref a ∧ w = a :: wl ∧ H a = some (.ins (G.ca c) dx fs) ∧ fs.map (·.1) = ((G.cf c).take kk).map (·.1) ∧
    RpT G H N B true (DI.chain (((G.cf c).take kk).map (·.2))) ds (fs.map (·.2)) wl := by
  subst hm
  cases h with
  | T _ r => cases r
  | @O _ _ _ ds a dx fs wl h _ e r => exact ⟨ds, a, dx, fs, wl, rfl, rfl, rfl, h, e, r⟩
theorem sw_fld {x o : Expr} {f : Str} {sp : Pos} {l : Nat} {env : Env} : swapsWith x (some (.Attribute o f sp)) l env = pure false := by
  cases x <;> rfl
theorem ss_asgF (c0 : Ctx t mc G ts C F X k) (few : ∀ c, (G.cf c).length < 1000) {p e : E} {c j : Nat} {o x : Expr} {f : Str} {sp pos : Pos} (hf : ((mc.cf.getD c [])[j]?).map (·.1) = some f) (ho : isPath p = true → PE X o (tPath G p)) (h : PE X x (RE t G ts C e)) :
    PS X (.Assign [.Attribute o f sp] x pos) (RSt t G ts C r lp (.asgF p c j e)) := by
  by_cases hp : isPath p = true
  · refine PS.of (ps_fld (ho hp) h sw_fld) ?_
    rintro D σ H ⟨T, ws, g, ρ, go, fl, ρ', hc, he, env, po⟩
    simp only [cks, ex] at hc he
    split at hc
    · rename_i m g1 e1
      split at hc
      · rename_i c' kk q e2 e3
        split at hc
        · rename_i fl0
          simp only [Bool.and_eq_true, decide_eq_true_eq] at fl0
          obtain ⟨rfl, _, f1⟩ := fl0
          have hq : (G.cf c)[j]? = some q := by rw [c0.g.cf]; exact e3
          have ef : f = q.1 := by
            rw [c0.g.mcf, ← c0.g.cf, hq] at hf
            exact (Option.some.inj hf).symm
          subst ef
          have hcls := c0.g.cls c q (List.mem_of_getElem? hq)
          split at he
          · rename_i d ρ1 e4
            split at he
            · rename_i ds up e5
              refine ⟨T, ws, g, ρ, m, g1, d, ρ1, e1, e4, env, fun v H1 w ws1 st env1 rr nd dj => ?_⟩
              obtain ⟨w', env2, st2, r2, nd2, dj2, pl⟩ := fit_ok env1 st rr nd dj f1
              obtain ⟨v0, w0, mr, vr, ur, fo⟩ := foc c0.g env2 hp e2 rfl e5
              obtain ⟨ds', a, dx, fs, wl, ed, rfl, rfl, ha, en, row⟩ := fo.sub.1.isO rfl
              cases ed
              have pv := fo.at_ H1 (fun _ => False) Kp.refl fun _ _ z => z
              have hjl : j < (G.cf c).length := (List.getElem?_eq_some_iff.mp hq).1
              have hlen := row.lenC
              rw [List.length_map, List.length_take] at hlen
              have hfl : fs.length = ds.length := by
                have := congrArg List.length en
                rw [List.length_map, List.length_map, List.length_take] at this
                omega
              have hig : root p < g1.length := (List.getElem?_eq_some_iff.mp fo.hi).1
              have hwi : root p < ws1.length := by rw [env2.lw]; exact hig
              obtain ⟨_, rest, hperm, _⟩ := fo.sub
              have pnd : (ws1.getD (root p) []).Nodup := by
                have := (flat_split hwi).nodup_iff.mp env2.nd
                rw [List.nodup_append] at this
                exact this.1
              have wrn := hperm.nodup_iff.mp pnd
              rw [List.nodup_append] at wrn
              have wmem : ∀ b ∈ a :: wl, b ∈ ws1.flatten := fun b hb => mem_flat (hperm.symm.subset (List.mem_append_left _ hb))
              have na := (List.nodup_cons.mp wrn.1)
              have aw : ∀ b ∈ a :: wl, b ∉ w' := fun b hb z => env2.dj b (wmem b hb) (.inr z)
              have hown : ∃ o', H1 a = some o' ∧ ownH o' = true := ⟨_, ha, rfl⟩
              refine ⟨.ref a, pv, a, G.ca c, dx, fs, rfl, ha, by rw [c0.K]; exact hcls.1, by rw [c0.K]; exact hcls.2, by have := few c; omega, ?_⟩
              have kp1 : ∀ o', Kp H1 (upd H1 a o') (· ∈ [a]) := fun o' => kp_set hown (by simp)
              have nx1 : Nx H1 (· ∈ [a]) (uni (uni T w') ws1.flatten).s (uni (uni T w') ws1.flatten).b (uni (uni T w') ws1.flatten).s (uni (uni T w') ws1.flatten).b :=
                ⟨fun b z => by rw [List.mem_singleton.mp z]; exact .inr (wmem a List.mem_cons_self), fun b z => by rw [List.mem_singleton.mp z]; exact ⟨.inr (wmem a List.mem_cons_self), fun q => env2.dj a (wmem a List.mem_cons_self) (.inl (T.h a q))⟩, fun _ _ z => z, fun _ _ z => z⟩
              have rv : ∀ o', Rp G (upd H1 a o') (uni (uni T w') ws1.flatten).s (uni (uni T w') ws1.flatten).b true q.2 d v w' := fun o' => Rp.next (kp1 o') nx1 r2 fun b hb z => aw a List.mem_cons_self (by rw [← List.mem_singleton.mp z]; exact hb)
              have finx : ∀ (o' : HO) (ws3 : List (List Addr)) (g3 : Md) (ρ3 : Rho), (fl = .nx ∧ ρ' = ρ3 ∧ go = some g3) → EnvOk G ts (upd H1 a o') T ws3 g3 ρ3 σ → (∀ b ∈ ws3.flatten, b ∈ ws1.flatten ∨ b ∈ w') → D.nx σ (upd H1 a o') := by
                rintro o' ws3 g3 ρ3 ⟨rfl, rfl, rfl⟩ env3 h3
                exact po.nx rfl g3 rfl _ ws3 σ (stp_put st2 (wmem a List.mem_cons_self) hown h3) env3 KeepS.refl
              have hnd : (fs.map (·.1)).Nodup := by
                rw [en, List.map_take]
                exact List.Nodup.sublist (List.take_sublist _ _) (c0.g.nd c)
              split at hc
              · rename_i hj
                cases hc
                rw [if_pos (by omega)] at he
                cases he
                have hqt : ((G.cf c).take kk)[j]? = some q := by rw [List.getElem?_take, if_pos hj]; exact hq
                have hnj : (fs.map (·.1))[j]? = some q.1 := by rw [en, List.getElem?_map, hqt]; rfl
                obtain ⟨n1, n2⟩ := putF_at (y := v) hnd hnj
                have hdj : ds[j]? = some ds[j] := List.getElem?_eq_getElem (by omega)
                obtain ⟨u, wj, rest2, h1, h2, h3, h4⟩ := RpT.put row hdj (m := q.2) (by rw [List.getElem?_map, hqt]; rfl)
                have rnd := h3.nodup_iff.mp na.2
                rw [List.nodup_append] at rnd
                obtain ⟨w2, r5, p5⟩ := h4 (upd H1 a (.ins (G.ca c) dx (putF q.1 v fs))) _ _ _ d v w' (kp1 _) nx1 (fun b hb z => na.1 (by rw [← List.mem_singleton.mp z]; exact h3.symm.subset (List.mem_append_right _ hb))) (rv _)
                have rmem : ∀ b ∈ rest2, b ∈ wl := fun b hb => h3.symm.subset (List.mem_append_right _ hb)
                have w2s : ∀ b ∈ w2, b ∈ wl ∨ b ∈ w' := fun b hb => (List.mem_append.mp (p5.subset hb)).elim .inr fun z => .inl (rmem b z)
                have w2n : w2.Nodup := p5.nodup_iff.mpr (List.nodup_append.mpr ⟨nd2, rnd.2.1, fun b hb b' hb' e => aw b' (List.mem_cons_of_mem _ (rmem b' hb')) (e ▸ hb)⟩)
                obtain ⟨ws3, e6, h6⟩ := env2.putAt nd2 dj2 fo (kp_set (o := .ins (G.ca c) dx (putF q.1 v fs)) hown List.mem_cons_self) (fun b hb => trk_new b hb) (tabs_set ⟨_, ha, rfl⟩ env2.tb) (w' := a :: w2) (d' := .tup (ds.set j d))
                  (fun b hb => by
                    rcases List.mem_cons.mp hb with rfl | hb
                    · exact .inl List.mem_cons_self
                    · exact (w2s b hb).imp (List.mem_cons_of_mem _) id)
                  (List.nodup_cons.mpr ⟨fun z => (w2s a z).elim na.1 (aw a List.mem_cons_self), w2n⟩)
                  (Rp.O (w := w2) upd_same (fun z => nomatch z) (n1.trans en) (by rw [n2]; exact r5))
                exact finx _ ws3 g1 _ ⟨rfl, rfl, rfl⟩ e6 h6
              · rename_i hj
                split at hc
                · rename_i hjv
                  cases hc
                  rw [Bool.and_eq_true, decide_eq_true_eq] at hjv
                  obtain ⟨rfl, hv⟩ := hjv
                  obtain ⟨i, rfl⟩ := isVar_eq hv
                  rw [if_neg (by omega), if_pos (by omega)] at he
                  have el : (.nx, up (.tup (ds ++ [d]))) = (fl, ρ') := Option.some.inj he
                  have hnn : q.1 ∉ fs.map (·.1) := fun z => by
                    rw [en] at z
                    obtain ⟨i', hi', e'⟩ := List.getElem_of_mem z
                    have h1 : ((G.cf c).map (·.1))[i']? = some q.1 := by
                      rw [List.length_map, List.length_take] at hi'
                      have : (((G.cf c).take j).map (·.1))[i']? = some q.1 := by rw [List.getElem?_eq_getElem (by simpa using hi'), e']
                      rw [List.map_take, List.getElem?_take, if_pos (by omega)] at this
                      exact this
                    have h2 : ((G.cf c).map (·.1))[j]? = some q.1 := by rw [List.getElem?_map, hq]; rfl
                    have hil : i' < j := by rw [List.length_map, List.length_take] at hi'; omega
                    have := (List.getElem?_inj (by rw [List.length_map]; omega) (c0.g.nd c)).mp (h1.trans h2.symm)
                    omega
                  have etake : (G.cf c).take (j + 1) = (G.cf c).take j ++ [q] := by
                    rw [List.take_succ, hq]; rfl
                  have hρ : up (.tup (ds ++ [d])) = ρ1.set i (.tup (ds ++ [d])) := by
                    have e7 : loc ρ1 (.var i) = some (.tup ds, up) := e5
                    simp only [loc] at e7
                    have e8 := (Prod.mk.inj (Option.some.inj e7)).2
                    rw [← e8]
                  have hgi : g1[i]? = some (.O c j) := e2
                  have hvi : σ[i]? = some (some (.ref a)) := pv
                  have hws : ∀ b ∈ a :: wl, b ∈ ws1.getD i [] := fun b hb => hperm.symm.subset (List.mem_append_left _ hb)
                  have row2 := RpT.next (kp1 (.ins (G.ca c) dx (putF q.1 v fs))) nx1 row fun b hb z => na.1 (by rw [← List.mem_singleton.mp z]; exact hb)
                  have row3 := row2.snoc (rv _)
                  obtain ⟨ws3, e6, h6⟩ := env2.putVar nd2 dj2 hgi hvi (kp_set (o := .ins (G.ca c) dx (putF q.1 v fs)) hown (hws a List.mem_cons_self)) (fun b hb => trk_new b hb) (tabs_set ⟨_, ha, rfl⟩ env2.tb) (w' := a :: (wl ++ w')) (m' := .O c (j + 1)) (d' := .tup (ds ++ [d]))
                    (fun b hb => by
                      rcases List.mem_cons.mp hb with rfl | hb
                      · exact .inl (hws _ List.mem_cons_self)
                      · exact (List.mem_append.mp hb).imp (fun z => hws b (List.mem_cons_of_mem _ z)) id)
                    (List.nodup_cons.mpr ⟨fun z => (List.mem_append.mp z).elim na.1 (aw a List.mem_cons_self), List.nodup_append.mpr ⟨na.2, nd2, fun b hb b' hb' e => aw b (List.mem_cons_of_mem _ hb) (e ▸ hb')⟩⟩)
                    (Rp.O (w := wl ++ w') upd_same (fun z => nomatch z) (by rw [putF_new hnn, etake, List.map_append, List.map_append, en]; rfl) (by rw [putF_new hnn, etake, List.map_append, List.map_append]; rw [putF_new hnn] at row3; exact row3))
                  rw [← hρ] at e6
                  cases el
                  exact finx _ ws3 _ _ ⟨rfl, rfl, rfl⟩ e6 h6
                · cases hc
            · cases he
          · cases he
        · cases hc
      · cases hc
    · cases hc
  · refine PS.vac ?_
    rintro D σ H ⟨T, ws, g, ρ, go, fl, ρ', hc, he, env, po⟩
    simp only [cks] at hc
    split at hc
    · split at hc
      · rw [if_neg (by simp [hp])] at hc; cases hc
      · cases hc
    · cases hc
/-! ### names -/
theorem sw_name {x : Expr} {y : Str} {py : Pos} {l : Nat} {env : Env} (h : swapFree' x = true) : swapsWith x (some (.Name y py)) l env = pure false := by
  cases x <;> first | rfl | cases h
theorem sw_none {x : Expr} {l : Nat} {env : Env} (h : swapFree' x = true) : swapsWith x none l env = pure false := by
  cases x <;> first | rfl | cases h
theorem sw_tup {x : Expr} {ts : List Expr} {k : Nat} {py : Pos} {l : Nat} {env : Env} : swapsWithSole [.Tuple ts k py] x l env = pure false := by
  cases x <;> rfl
theorem sw_tupS {x : Expr} {ts : List Expr} {k : Nat} {py : Pos} {env : Env} (h : isTupX x = false) : swappedStores [.Tuple ts k py] x env = pure none := by
  cases x <;> first | rfl | cases h
theorem ss_asgT (c : Ctx t mc G ts C F X k) {is : List Nat} {e : E} {es : List Expr} {kx : Nat} {x : Expr} {px pos : Pos} (hT : matTs mc is es = true) (hx : isTupX x = false) (h : PE X x (RE t G ts C e)) : PS X (.Assign [.Tuple es kx px] x pos) (RSt t G ts C r lp (.asgT is e)) := by
  have hg : PG X (.Tuple es kx px) (tgG X.K (.many is)) := pg_tg c.cx (tg := .many is) (by simpa only [matT] using hT)
  refine PS.of (ps_asg h hg sw_tup (sw_tupS hx) rfl) ?_
  intro D σ H q
  have := asgT_run q
  rw [← c.K] at this
  exact this
theorem ss_asg (c : Ctx t mc G ts C F X k) {i : Nat} {e : E} {y : Str} {py : Pos} {x : Expr} {pos : Pos} (hy : okS mc i y = true) (hx : swapFree' x = true) (h : PE X x (RE t G ts C e)) : PS X (.Assign [.Name y py] x pos) (RSt t G ts C r lp (.asg i e)) := by
  obtain ⟨h1, h2, h3⟩ := okS_ok c.cx hy
  exact PS.of (ps_set (i := i) (by rw [c.cx.hN]; exact c.cx.nd) h1 h2 h (sw_name hx) h3) fun D σ H q => asg_run q
theorem ss_asgC (c : Ctx t mc G ts C F X k) {i : Nat} {tg : Tg} {src cond elt : E} {y : Str} {py : Pos} {e te it : Expr} {ifs : List Expr} {scope : Scope} {p pos : Pos} (hs : OkE t G ts C F k src) (hc : OkE t G ts C F k cond) (he : OkE t G ts C F k elt) (hy : okS mc i y = true)
    (hl : mc.sc.names.lookup y = some .local) (hn : (py.line == p.line) = true) (ha : (scope.names.any fun (n, k) => n == y && (k == .local || k == .cell)) = false) (hm : mat mc (.comp tg src cond elt) (.ListComp e [⟨te, it, ifs, 0⟩] scope p) = true) :
    PS X (.Assign [.Name y py] (.ListComp e [⟨te, it, ifs, 0⟩] scope p) pos) (RSt t G ts C r lp (.asg i (.comp tg src cond elt))) := by
  obtain ⟨hb, ⟨⟨hset, hsrc⟩, hms⟩, hT, hif, hel⟩ := comp_key hm
  have hp : BlkPs t G ts C mc X scope tg te cond ifs elt e := by
    refine ⟨fun s H Ca cl fp => ?_, fun s H Ca cl fp => ?_, fun s H Ca cl fp => ?_⟩
    · exact pg_tg (c.blk hb s H Ca cl fp).cx hT
    · unfold tCond
      rcases hif with ⟨rfl, h⟩ | ⟨c0, rfl, h, h2⟩
      · rw [if_pos h]
        exact pts_nil
      · rw [if_neg (by rw [h]; exact Bool.false_ne_true)]
        exact pts_one ((hc (c.blk hb s H Ca cl fp)).1 c0 h2).pt
    · exact ((he (c.blk hb s H Ca cl fp)).1 e hel).pe
  obtain ⟨h1, h2, h3⟩ := okS_ok c.cx hy
  have ok : BlkOk X.N X.env.scope scope (ownOf mc tg.slots) := BlkOk.up c.cx hb
  have hN : X.N.Nodup := by rw [c.cx.hN]; exact c.cx.nd
  have hyl : X.env.scope.names.lookup y = some .local := c.cx.loc y .local (by simp) hl
  have h := ps_setLc (spos := pos) (pos := p) (py := py) (y := y) (i := i) c.cx.calm hN h1 hyl (sw_true c.cx.knd hyl hn ha) ((hs c).2.2 te it hms hsrc) ok hp.pg hp.pt hp.pe (fold_ok hset X.env)
  rw [blk_own (tg_in hT)] at h
  exact PS.of h fun D σ H q => comp_run c.K (asg_run q)
end
end DI
end
section
set_option Elab.async false
set_option linter.all false
set_option maxRecDepth 100000
/-! The induction over statements. -/
namespace DI
open PySem PySem.Spec L2
section
variable {G : CT} {ts : List Addr} {t : Tb} {C : Calls} {X : Cx} {mc : Mc} {k : Nat} {F : FA}
structure SCtx (t : Tb) (mc : Mc) (G : CT) (ts : List Addr) (C : Calls) (F : FA) (X : Cx) (k : Nat) : Prop where
  c : Ctx t mc G ts C F X k
  po : PassesOwn (model X.prog X.w) X.A X.env X.xe
  few : ∀ c, (G.cf c).length < 1000
def OkS (t : Tb) (G : CT) (ts : List Addr) (C : Calls) (F : FA) (k : Nat) (s : S) : Prop :=
  ∀ {mc : Mc} {X : Cx}, SCtx t mc G ts C F X k → ∀ (r : Rt0) (lp : Option Lp), (∀ st, matSt mc s st = true → PS X st (RSt t G ts C r lp s)) ∧ (∀ sts, matSs mc s sts = true → PSs X sts (RSt t G ts C r lp s))
theorem noSs {s : S} {sts : List Stmt} (h : s ≠ .nil) (h2 : ∀ a b, s ≠ .cons a b) : matSs mc s sts = true → False := by
  intro q
  cases s <;> cases sts <;> first | exact h rfl | exact h2 _ _ rfl | (simp only [matSs] at q; cases q)
theorem OkS.st {s : S} (h : s ≠ .nil) (h2 : ∀ a b, s ≠ .cons a b) (k0 : ∀ {mc : Mc} {X : Cx}, SCtx t mc G ts C F X k → ∀ (r : Rt0) (lp : Option Lp) (st : Stmt), matSt mc s st = true → PS X st (RSt t G ts C r lp s)) : OkS t G ts C F k s :=
  fun c r lp => ⟨fun st hm => k0 c r lp st hm, fun sts hm => (noSs h h2 hm).elim⟩
theorem ok_e (c : Ctx t mc G ts C F X k) {e : E} {x : Expr} (h : mat mc e x = true) : PE X x (RE t G ts C e) := ((expr_ok e).1 c).1 x h |>.pe
theorem ok_t (c : Ctx t mc G ts C F X k) {e : E} {x : Expr} (h : mat mc e x = true) : PT X x (RT t G ts C e) := ((expr_ok e).1 c).1 x h |>.pt
theorem stmt_ok (s : S) : OkS t G ts C F k s := by
  induction s with
  | nil => exact fun {mc X} c r lp => ⟨fun st hm => absurd hm (by cases st <;> simp [matSt]), fun sts hm => by
      cases sts with
      | nil => exact ss_nil
      | cons => simp only [matSs] at hm; cases hm⟩
  | cons s1 s2 i1 i2 => exact fun {mc X} c r lp => ⟨fun st hm => absurd hm (by cases st <;> simp [matSt]), fun sts hm => by
      cases sts with
      | nil => simp only [matSs] at hm; cases hm
      | cons st rest =>
        simp only [matSs, Bool.and_eq_true] at hm
        exact ss_cons ((i1 c r lp).1 st hm.1) ((i2 c r lp).2 rest hm.2)⟩
  | ret e =>
    refine OkS.st (by simp) (by simp) fun {mc X} c r lp st hm => ?_
    cases st with
    | Return v p =>
      cases v with
      | none => simp only [matSt] at hm; cases hm
      | some x => simp only [matSt] at hm; exact ss_ret (ok_e c.c hm)
    | _ => simp [matSt] at hm
  | retn =>
    refine OkS.st (by simp) (by simp) fun {mc X} c r lp st hm => ?_
    cases st with
    | Return v p =>
      cases v with
      | none => exact ss_retn
      | some x => simp only [matSt] at hm; cases hm
    | _ => simp [matSt] at hm
  | asg i e =>
    refine OkS.st (by simp) (by simp) fun {mc X} c r lp st hm => ?_
    cases st with
    | Assign tgs x p =>
      rcases tgs with _ | ⟨tg, _ | ⟨_, _⟩⟩
      · simp [matSt] at hm
      · cases tg with
        | Name y py =>
          simp only [matSt, Bool.and_eq_true] at hm
          obtain ⟨h1, h2, h3⟩ := hm
          by_cases hf : swapFree' x = true
          · exact ss_asg c.c h1 hf (ok_e c.c h2)
          · cases x with
            | ListComp el gens scope xp =>
              simp only [swOk, Bool.and_eq_true, decide_eq_true_eq, Bool.not_eq_true'] at h3
              obtain ⟨h4, h5, h6, h7⟩ := h3
              cases e with
              | comp tg src cond elt =>
                rcases gens with _ | ⟨⟨te, it, ifs, as⟩, _ | ⟨_, _⟩⟩
                · simp [mat] at h2
                · by_cases ha : as = 0
                  · subst ha
                    exact ss_asgC c.c (expr_ok src).1 (expr_ok cond).1 (expr_ok elt).1 h1 h4 h5 h6 h2
                  · simp [mat, ha] at h2
                · simp [mat] at h2
              | comp2 => simp [mat] at h2
              | _ => simp [isComp] at h7
            | SetComp => simp [swOk] at h3
            | DictComp => simp [swOk] at h3
            | _ => exact absurd rfl hf
        | _ => simp [matSt] at hm
      · cases tg <;> simp [matSt] at hm
    | _ => simp [matSt] at hm
  | asgT is e =>
    refine OkS.st (by simp) (by simp) fun {mc X} c r lp st hm => ?_
    cases st with
    | Assign tgs x p =>
      rcases tgs with _ | ⟨tg, _ | ⟨_, _⟩⟩
      · simp [matSt] at hm
      · cases tg with
        | Tuple es kx px =>
          simp only [matSt, Bool.and_eq_true, Bool.not_eq_true'] at hm
          obtain ⟨h1, h2, _, h4⟩ := hm
          exact ss_asgT c.c h1 h4 (ok_e c.c h2)
        | _ => simp [matSt] at hm
      · cases tg <;> simp [matSt] at hm
    | _ => simp [matSt] at hm
  | asgF p c0 j e =>
    refine OkS.st (by simp) (by simp) fun {mc X} c r lp st hm => ?_
    cases st with
    | Assign tgs x p =>
      rcases tgs with _ | ⟨tg, _ | ⟨_, _⟩⟩
      · simp [matSt] at hm
      · cases tg with
        | Attribute o f sp =>
          simp only [matSt, Bool.and_eq_true, decide_eq_true_eq] at hm
          obtain ⟨h1, h2, h3⟩ := hm
          exact ss_asgF c.c c.few h1 (fun hp => sd_path c.c.cx c.c.K c.c.g hp h2) (ok_e c.c h3)
        | _ => simp [matSt] at hm
      · cases tg <;> simp [matSt] at hm
    | _ => simp [matSt] at hm
  | setI p i e =>
    refine OkS.st (by simp) (by simp) fun {mc X} c r lp st hm => ?_
    cases st with
    | Assign tgs x p =>
      rcases tgs with _ | ⟨tg, _ | ⟨_, _⟩⟩
      · simp [matSt] at hm
      · cases tg with
        | Subscript o ix sp =>
          simp only [matSt, Bool.and_eq_true, Bool.not_eq_true'] at hm
          obtain ⟨h1, h2, h3, h4⟩ := hm
          exact ss_setI c.c h1 (fun hp => sd_path c.c.cx c.c.K c.c.g hp h2) (ok_e c.c h3) (at_pe c.c h3) (ok_e c.c h4)
        | _ => simp [matSt] at hm
      · cases tg <;> simp [matSt] at hm
    | _ => simp [matSt] at hm
  | aug o i e =>
    refine OkS.st (by simp) (by simp) fun {mc X} c r lp st hm => ?_
    cases st with
    | AugAssign tg op x p =>
      cases tg with
      | Name y sp =>
        simp only [matSt, Bool.and_eq_true, decide_eq_true_eq] at hm
        obtain ⟨rfl, h2, h3⟩ := hm
        exact ss_aug c.c h2 (ok_e c.c h3)
      | _ => simp [matSt] at hm
    | _ => simp [matSt] at hm
  | augI o p i e =>
    refine OkS.st (by simp) (by simp) fun {mc X} c r lp st hm => ?_
    cases st with
    | AugAssign tg op x p =>
      cases tg with
      | Subscript b ix sp =>
        simp only [matSt, Bool.and_eq_true, decide_eq_true_eq, Bool.not_eq_true'] at hm
        obtain ⟨rfl, h1, h2, h3, h4⟩ := hm
        exact ss_augI c.c h1 (fun hp => sd_path c.c.cx c.c.K c.c.g hp h2) (ok_e c.c h3) (ok_e c.c h4)
      | _ => simp [matSt] at hm
    | _ => simp [matSt] at hm
  | app p e =>
    refine OkS.st (by simp) (by simp) fun {mc X} c r lp st hm => ?_
    cases st with
    | Expr x ep =>
      cases x with
      | Call fx es kw pos =>
        cases fx with
        | Attribute o m ap =>
          rcases kw with _ | ⟨_, _⟩
          · rcases es with _ | ⟨x, _ | ⟨_, _⟩⟩
            · simp [matSt] at hm
            · simp only [matSt, Bool.and_eq_true, decide_eq_true_eq, Bool.not_eq_true'] at hm
              obtain ⟨rfl, h1, h2, h3, h4, h5⟩ := hm
              exact ss_app c.c h2 h1 h3 (fun hp => sd_path c.c.cx c.c.K c.c.g hp h4) (ok_e c.c h5) (at_pe c.c h5)
            · simp [matSt] at hm
          · rcases es with _ | ⟨x, _ | ⟨_, _⟩⟩ <;> simp [matSt] at hm
        | _ => simp [matSt] at hm
      | _ => simp [matSt] at hm
    | _ => simp [matSt] at hm
  | ext p e =>
    refine OkS.st (by simp) (by simp) fun {mc X} c r lp st hm => ?_
    cases st with
    | Expr x ep =>
      cases x with
      | Call fx es kw pos =>
        cases fx with
        | Attribute o m ap =>
          rcases kw with _ | ⟨_, _⟩
          · rcases es with _ | ⟨x, _ | ⟨_, _⟩⟩
            · simp [matSt] at hm
            · simp only [matSt, Bool.and_eq_true, decide_eq_true_eq, Bool.not_eq_true'] at hm
              obtain ⟨rfl, h1, h2, h3, h4, h5⟩ := hm
              exact ss_ext c.c h2 h1 h3 (fun hp => sd_path c.c.cx c.c.K c.c.g hp h4) (ok_e c.c h5) (at_pe c.c h5)
            · simp [matSt] at hm
          · rcases es with _ | ⟨x, _ | ⟨_, _⟩⟩ <;> simp [matSt] at hm
        | _ => simp [matSt] at hm
      | _ => simp [matSt] at hm
    | _ => simp [matSt] at hm
  | ins p i e =>
    refine OkS.st (by simp) (by simp) fun {mc X} c r lp st hm => ?_
    cases st with
    | Expr x ep =>
      cases x with
      | Call fx es kw pos =>
        cases fx with
        | Attribute o m ap =>
          rcases kw with _ | ⟨_, _⟩
          · rcases es with _ | ⟨y, _ | ⟨x, _ | ⟨_, _⟩⟩⟩
            · simp [matSt] at hm
            · simp [matSt] at hm
            · simp only [matSt, Bool.and_eq_true, decide_eq_true_eq, Bool.not_eq_true'] at hm
              obtain ⟨rfl, h1, h2, h3, h4, h5, h6, h7⟩ := hm
              exact ss_ins c.c h2 h1 h3 h4 (fun hp => sd_path c.c.cx c.c.K c.c.g hp h5) (ok_e c.c h6) (ok_e c.c h7)
            · simp [matSt] at hm
          · rcases es with _ | ⟨y, _ | ⟨x, _ | ⟨_, _⟩⟩⟩ <;> simp [matSt] at hm
        | _ => simp [matSt] at hm
      | _ => simp [matSt] at hm
    | _ => simp [matSt] at hm
  | ifs e a b ia ib =>
    refine OkS.st (by simp) (by simp) fun {mc X} c r lp st hm => ?_
    cases st with
    | If x as bs p =>
      simp only [matSt, Bool.and_eq_true] at hm
      obtain ⟨h1, h2, h3⟩ := hm
      exact ss_if (ok_t c.c h1) ((ia c r lp).2 as h2) ((ib c r lp).2 bs h3)
    | _ => simp [matSt] at hm
  | for_ tg src body kills hide ih =>
    refine OkS.st (by simp) (by simp) fun {mc X} c r lp st hm => ?_
    cases st with
    | For te it bs os p =>
      simp only [matSt, Bool.and_eq_true, Bool.not_eq_true'] at hm
      obtain ⟨h0, h1, h2, h3, h4, h5⟩ := hm
      have e0 : os = [] := by simpa using h0
      subst e0
      exact ss_for c.c c.po h1 h4 (((expr_ok src).1 c.c).2.2 te it h3 h2) fun lp => (ih c r lp).2 bs h5
    | _ => simp [matSt] at hm
  | whl e body kills ih =>
    refine OkS.st (by simp) (by simp) fun {mc X} c r lp st hm => ?_
    cases st with
    | While x bs os p =>
      simp only [matSt, Bool.and_eq_true] at hm
      obtain ⟨h0, h1, h2⟩ := hm
      have e0 : os = [] := by simpa using h0
      subst e0
      exact ss_while c.po (ok_t c.c h1) fun lp => (ih c r lp).2 bs h2
    | _ => simp [matSt] at hm
  | drop e =>
    refine OkS.st (by simp) (by simp) fun {mc X} c r lp st hm => ?_
    cases st with
    | Expr x p =>
      simp only [matSt, Bool.and_eq_true] at hm
      exact ss_drop (ok_e c.c hm.1) (sw_none hm.2)
    | _ => simp [matSt] at hm
  | pass =>
    refine OkS.st (by simp) (by simp) fun {mc X} c r lp st hm => ?_
    cases st with
    | Pass p => exact ss_pass ps_pass
    | Expr x p =>
      cases x with
      | Constant v j px =>
        cases v with
        | str s => exact ss_pass ps_doc
        | _ => simp [matSt] at hm
      | _ => simp [matSt] at hm
    | _ => simp [matSt] at hm
  | cont =>
    refine OkS.st (by simp) (by simp) fun {mc X} c r lp st hm => ?_
    cases st with
    | Continue p => exact ss_cont
    | _ => simp [matSt] at hm
  | brk =>
    refine OkS.st (by simp) (by simp) fun {mc X} c r lp st hm => ?_
    cases st with
    | Break p => exact ss_brk
    | _ => simp [matSt] at hm
  | asgFT p c0 js e =>
    refine OkS.st (by simp) (by simp) fun {mc X} c r lp st hm => PS.vac fun D σ H h => ?_
    obtain ⟨T, ws, g, ρ, go, fl, ρ', hc, _⟩ := h
    simp only [cks] at hc; cases hc
  | augF o p c0 j e =>
    refine OkS.st (by simp) (by simp) fun {mc X} c r lp st hm => PS.vac fun D σ H h => ?_
    obtain ⟨T, ws, g, ρ, go, fl, ρ', hc, _⟩ := h
    simp only [cks] at hc; cases hc
end
end DI
end
section
set_option Elab.async false
set_option linter.all false
set_option maxRecDepth 100000
/-! Defs. -/
namespace DI
open PySem PySem.Spec L2
structure Fn where
  at_ : FnAt
  sg : Sig
  body : S
  nn : Nat
def outsOf : List PK → Rho → List D
  | .io _ :: ps, d :: ρ => d :: outsOf ps ρ
  | .ini _ :: ps, d :: ρ => d :: outsOf ps ρ
  | _ :: ps, _ :: ρ => outsOf ps ρ
  | _, _ => []
/-- a def's call -/
noncomputable def runF (C : Calls) (d : Fn) (ds : List D) : Option (D × List D) :=
  if ds.length = d.sg.ps.length then (match ex C d.body (ds ++ List.replicate (d.nn - ds.length) .non) with
    | some (.rt r, ρ) => some (r, outsOf d.sg.ps ρ)
    | some (.nx, ρ) => some (.non, outsOf d.sg.ps ρ)
    | _ => none) else none
noncomputable def callN (fs : List Fn) : Nat → Calls
  | 0 => fun _ _ => none
  | k + 1 => fun f ds => match fs[f]? with
    | some d => runF (callN fs k) d ds
    | none => none
def ioIx : List PK → Nat → List Nat
  | [], _ => []
  | .io _ :: ps, i => i :: ioIx ps (i + 1)
  | .ini _ :: ps, i => i :: ioIx ps (i + 1)
  | _ :: ps, i => ioIx ps (i + 1)
def ckDef (t : Tb) (d : Fn) : Bool := (match cks t ⟨d.sg.ps, d.sg.ret⟩ none d.body (d.sg.ps.map pmE ++ List.replicate (d.nn - d.sg.ps.length) .x) with
    | some none => true
    | some (some g) => decide (d.sg.ret = .z) && parOk t d.sg.ps 0 g
    | none => false) && (decide (d.sg.ps.length ≤ d.nn) && (ioIx d.sg.ps 0).all fun i => !(asgd d.body).contains i)
section
variable {G : CT} {ts : List Addr} {H H' : Hp} {T T' : Tl} {ws ws' : List (List Addr)} {g g' : Md} {ρ ρ' : Rho} {σ σ' : L2.St}
variable {t : Tb} {C : Calls} {X : Cx} {mc : Mc} {k : Nat} {N B N' B' : Sets} {F : FA}
theorem take_flat : ∀ {n : Nat} {ws : List (List Addr)}, (ws.take n).flatten.Sublist ws.flatten
  | 0, ws => by simp
  | n + 1, [] => by simp
  | n + 1, w :: ws => by
    rw [List.take_succ_cons, List.flatten_cons, List.flatten_cons]
    exact List.Sublist.append (List.Sublist.refl _) take_flat
theorem getD_take {α : Type} {l : List α} {n i : Nat} {b : α} (h : i < n) : (l.take n).getD i b = l.getD i b := by
  rw [List.getD_eq_getElem?_getD, List.getD_eq_getElem?_getD, List.getElem?_take, if_pos h]
/-- the parameters behind the body -/
theorem par_at : ∀ {ps : List PK} {i : Nat} {g : Md}, parOk t ps i g = true → ∀ j m, (ps.map (pmX t))[j]? = some m → m = .x ∨ g[i + j]? = some m
  | [], _, _, _, j, m, h => by simp at h
  | p :: ps, i, g, hp, 0, m, h => by
    simp at h
    cases p with
    | io m0 =>
      simp only [parOk, Bool.and_eq_true, decide_eq_true_eq] at hp
      exact .inr (by rw [← h]; exact hp.1.2)
    | ini c =>
      simp only [parOk, Bool.and_eq_true, decide_eq_true_eq] at hp
      exact .inr (by rw [← h]; exact hp.1)
    | z => exact .inl h.symm
    | bw m0 => exact .inl h.symm
  | p :: ps, i, g, hp, j + 1, m, h => by
    have h' : parOk t ps (i + 1) g = true := by
      cases p with
      | io m0 => simp only [parOk, Bool.and_eq_true] at hp; exact hp.2
      | ini c => simp only [parOk, Bool.and_eq_true] at hp; exact hp.2
      | z => exact hp
      | bw m0 => exact hp
    have := par_at h' j m (by simpa using h)
    rw [show i + (j + 1) = i + 1 + j by omega]
    exact this
theorem put_at : ∀ {ps : List PK} {ds : List D} {ρ : Rho} {j : Nat} {m : M}, ds.length = ps.length → ps.length ≤ ρ.length → (ps.map (pmX t))[j]? = some m → m ≠ .x → (putP ps ds (outsOf ps ρ)).getD j .non = ρ.getD j .non
  | [], _, _, j, m, _, _, h, _ => by simp at h
  | p :: ps, [], _, _, _, h, _, _, _ => by simp at h
  | p :: ps, d :: ds, [], _, _, _, h, _, _ => by simp at h
  | p :: ps, d :: ds, a :: ρ, 0, m, _, _, h, hm => by
    simp at h
    cases p with
    | io m0 => simp [putP, outsOf]
    | ini c => simp [putP, outsOf]
    | z => exact absurd h.symm hm
    | bw m0 => exact absurd h.symm hm
  | p :: ps, d :: ds, a :: ρ, j + 1, m, h1, h2, h, hm => by
    have ih := put_at (ps := ps) (ds := ds) (ρ := ρ) (j := j) (m := m) (by simpa using h1) (by simpa using h2) (by simpa using h) hm
    cases p <;> simpa [putP, outsOf] using ih
theorem put_len2 : ∀ {ps : List PK} {ds : List D} {ρ : Rho}, ds.length = ps.length → ps.length ≤ ρ.length → (putP ps ds (outsOf ps ρ)).length = ps.length ∧ (outsOf ps ρ).length = nIo ps
  | [], [], _, _, _ => by simp [putP, outsOf, nIo]
  | [], _ :: _, _, h, _ => by simp at h
  | p :: ps, [], _, h, _ => by simp at h
  | p :: ps, d :: ds, [], _, h => by simp at h
  | p :: ps, d :: ds, a :: ρ, h1, h2 => by
    obtain ⟨i1, i2⟩ := put_len2 (ps := ps) (ds := ds) (ρ := ρ) (by simpa using h1) (by simpa using h2)
    cases p <;> simp [putP, outsOf, nIo, i1, i2]
theorem io_mem : ∀ {ps : List PK} {i j : Nat} {m : M}, (ps.map (pmX t))[j]? = some m → m ≠ .x → i + j ∈ ioIx ps i
  | [], _, j, m, h, _ => by simp at h
  | p :: ps, i, 0, m, h, hm => by
    simp at h
    cases p with
    | io m0 => simp [ioIx]
    | ini c => simp [ioIx]
    | z => exact absurd h.symm hm
    | bw m0 => exact absurd h.symm hm
  | p :: ps, i, j + 1, m, h, hm => by
    have ih := io_mem (i := i + 1) (j := j) (m := m) (ps := ps) (by simpa using h) hm
    rw [show i + 1 + j = i + (j + 1) by omega] at ih
    cases p <;> first | exact ih | exact List.mem_cons_of_mem _ ih
theorem EnvOk.fin {ps : List PK} {ds : List D} {σ0 : L2.St} {as : List Nat} (e : EnvOk G ts H T ws g ρ σ) (hp : parOk t ps 0 g = true) (hd : ds.length = ps.length) (hl : ps.length ≤ g.length) (h0 : σ0.length = ps.length) (hσ : ∀ i, i < ps.length → i ∉ as → σ[i]? = σ0[i]?) (hio : ∀ i ∈ ioIx ps 0, i ∉ as) :
    EnvOk G ts H T ((keepW (fun i => decide ((ps.map (pmX t)).getD i .x ≠ .x)) 0 ws).take ps.length) (ps.map (pmX t)) (putP ps ds (outsOf ps ρ)) σ0 := by
  have hlr : ps.length ≤ ρ.length := by rw [e.lr]; exact hl
  have hlw : ps.length ≤ ws.length := by rw [e.lw]; exact hl
  have sub : ∀ a ∈ ((keepW (fun i => decide ((ps.map (pmX t)).getD i .x ≠ .x)) 0 ws).take ps.length).flatten, a ∈ ws.flatten := fun a ha => keepW_sub.subset (take_flat.subset ha)
  refine ⟨by rw [(put_len2 hd hlr).1, List.length_map], by rw [h0, List.length_map], by rw [List.length_take, keepW_len, List.length_map]; omega, (e.nd.sublist keepW_sub).sublist take_flat, e.tt, fun a ha => e.dj a (sub a ha), fun i m hm => ?_, e.tb⟩
  have hi : i < ps.length := by have := (List.getElem?_eq_some_iff.mp hm).1; simpa using this
  rw [getD_take hi, keepW_get, Nat.zero_add]
  have hmg : (ps.map (pmX t)).getD i .x = m := by rw [List.getD_eq_getElem?_getD, hm]; rfl
  rw [hmg]
  by_cases hx : m = .x
  · rw [if_neg (by simp [hx])]
    exact .inl ⟨hx, rfl⟩
  · rw [if_pos (by simp [hx])]
    have hg := (par_at hp i m hm).resolve_left hx
    rw [Nat.zero_add] at hg
    rw [put_at hd hlr hm hx]
    have hmem := io_mem (i := 0) hm hx
    rw [Nat.zero_add] at hmem
    rw [← hσ i hi (hio i hmem)]
    exact (e.sl i m hg).imp (fun z => absurd z.1 hx) fun ⟨v, h1, h2⟩ => ⟨v, h1, Rt.sets h2 fun a _ z => z.imp id (sub a)⟩
theorem EnvOk.start (e : EnvOk G ts H T ws g ρ σ) (n : Nat) : EnvOk G ts H T (ws ++ List.replicate n []) (g ++ List.replicate n .x) (ρ ++ List.replicate n D.non) (σ ++ List.replicate n none) := by
  have fl : (ws ++ List.replicate n []).flatten = ws.flatten := by rw [List.flatten_append, nil_flat, List.append_nil]
  refine ⟨by simp [e.lr], by simp [e.ls], by simp [e.lw], by rw [fl]; exact e.nd, e.tt, by rw [fl]; exact e.dj, fun i m hm => ?_, e.tb⟩
  rw [fl]
  by_cases hi : i < g.length
  · rw [List.getElem?_append_left hi] at hm
    have w1 : (ws ++ List.replicate n []).getD i [] = ws.getD i [] := by rw [List.getD_eq_getElem?_getD, List.getD_eq_getElem?_getD, List.getElem?_append_left (by rw [e.lw]; exact hi)]
    have r1 : (ρ ++ List.replicate n D.non).getD i .non = ρ.getD i .non := by rw [List.getD_eq_getElem?_getD, List.getD_eq_getElem?_getD, List.getElem?_append_left (by rw [e.lr]; exact hi)]
    rw [w1, r1, List.getElem?_append_left (by rw [e.ls]; exact hi)]
    exact e.sl i m hm
  · rw [List.getElem?_append_right (by omega), List.getElem?_replicate] at hm
    split at hm
    · cases hm
      left
      refine ⟨rfl, ?_⟩
      rw [List.getD_eq_getElem?_getD, List.getElem?_append_right (by rw [e.lw]; omega), List.getElem?_replicate]
      split <;> rfl
    · cases hm
/-- a body keeps its def's promise -/
theorem def_ok {fs : List Fn} {f : Nat} {d : Fn} {Nm : List Str} {vs : List V} {Q : VK} {E : XK} (hf : fs[f]? = some d) (hck : ckDef t d = true) (hn : Nm.length = d.nn) (h : Spf t G ts (callN fs (k + 1)) f d.sg vs H Q E) :
    RSt t G ts (callN fs k) ⟨d.sg.ps, d.sg.ret⟩ none d.body { nx := fun _ H' => Q .non H', rt := Q } (L2.start Nm vs) H := by
  obtain ⟨T, ws, ds, r0, outs, hC, hlo, env, po⟩ := h
  have hC' : runF (callN fs k) d ds = some (r0, outs) := by
    have : callN fs (k + 1) f ds = runF (callN fs k) d ds := by
      show (match fs[f]? with
        | some d => runF (callN fs k) d ds
        | none => none) = _
      rw [hf]
    rw [this] at hC; exact hC
  unfold runF at hC'
  unfold ckDef at hck
  simp only [Bool.and_eq_true, decide_eq_true_eq, List.all_eq_true, Bool.not_eq_true', List.contains_eq_mem, decide_eq_false_iff_not] at hck
  obtain ⟨hck, hle, hio⟩ := hck
  split at hC'
  · rename_i hlen
    have lv : vs.length = d.sg.ps.length := by have := env.ls; simpa using this
    have hst : L2.start Nm vs = vs.map some ++ List.replicate (d.nn - ds.length) none := by
      unfold L2.start; rw [hn, lv, hlen]
    have env1 := env.start (d.nn - ds.length)
    rw [← hst] at env1
    have fl : (ws ++ List.replicate (d.nn - ds.length) []).flatten = ws.flatten := by rw [List.flatten_append, nil_flat, List.append_nil]
    rw [hlen] at env1 fl hC'
    have pin : ∀ i, i < d.sg.ps.length → (L2.start Nm vs)[i]? = (vs.map some)[i]? := fun i hi => by
      rw [hst, List.getElem?_append_left (by simpa using (by omega : i < vs.length))]
    -- the end of it
    have fin : ∀ {gr : Md} {v : V} {H2 : Hp} {w : List Addr} {ws2 : List (List Addr)} {σ2 : L2.St} {ρ2 : Rho} {rr : D}, r0 = rr → outs = outsOf d.sg.ps ρ2 → Stp H ws.flatten H2 (w ++ ws2.flatten) → EnvOk G ts H2 (uni T w) ws2 gr ρ2 σ2 → parOk t d.sg.ps 0 gr = true → Rt G H2 (uni (uni T w) ws2.flatten) d.sg.ret rr v w → w.Nodup → (∀ a ∈ w, ¬ T a) →
        KeepS (asgd d.body) (L2.start Nm vs) σ2 → Q v H2 := by
      intro gr v H2 w ws2 σ2 ρ2 rr e1 e2 st2 env2 hp rv nd dj ks
      subst e1 e2
      have hgl : gr.length = (L2.start Nm vs).length := by rw [← env2.ls, ks.1]
      have hsl : (L2.start Nm vs).length = d.nn := by rw [hst, List.length_append, List.length_map, List.length_replicate]; omega
      have hds : ds.length = d.sg.ps.length := hlen
      have envf := env2.fin (ds := ds) (σ0 := vs.map some) (as := asgd d.body) hp hds (by rw [hgl, hsl]; exact hle) (by simpa using lv) (fun i hi hni => by rw [ks.2 i hni, pin i hi]) hio
      have sub : ∀ a ∈ ((keepW (fun i => decide ((d.sg.ps.map (pmX t)).getD i .x ≠ .x)) 0 ws2).take d.sg.ps.length).flatten, a ∈ ws2.flatten := fun a ha => keepW_sub.subset (take_flat.subset ha)
      refine po v H2 w _ (st2.less fun a ha => ?_) envf (Rt.sets rv fun a _ z => z.imp id (sub a)) nd dj
      rcases List.mem_append.mp ha with q | q
      · exact List.mem_append_left _ q
      · exact List.mem_append_right _ (sub a q)
    cases hx : ex (callN fs k) d.body (ds ++ List.replicate (d.nn - d.sg.ps.length) .non) with
    | none => rw [hx] at hC'; cases hC'
    | some q =>
      obtain ⟨flow, ρ2⟩ := q
      rw [hx] at hC'
      cases hcs : cks t ⟨d.sg.ps, d.sg.ret⟩ none d.body (d.sg.ps.map pmE ++ List.replicate (d.nn - d.sg.ps.length) .x) with
      | none => rw [hcs] at hck; cases hck
      | some go =>
        rw [hcs] at hck
        refine ⟨T, _, _, _, go, flow, ρ2, hcs, hx, env1, ?_⟩
        refine ⟨fun e g' hg H2 ws2 σ2 st2 env2 ks => ?_, fun e l hl => (nomatch hl), fun e l hl => (nomatch hl), fun d' e gr v H2 w ws2 σ2 st2 env2 f rr pl nd dj ks => ?_⟩
        · subst e
          subst hg
          simp only [Bool.and_eq_true, decide_eq_true_eq] at hck hC'
          cases hC'
          rw [fl] at st2
          exact fin (w := []) rfl rfl (by simpa using st2) (env2.less fun a => uni_nil) hck.2 (by rw [hck.1]; exact .z .non) List.nodup_nil (fun a z => nomatch z) ks
        · subst e
          simp only at hC'
          cases hC'
          rw [fl] at st2
          exact fin rfl rfl st2 env2 f rr nd dj ks
  · cases hC'
end
end DI
end
section
set_option Elab.async false
set_option linter.all false
set_option maxRecDepth 100000
/-! The program's table; what the head tells of it; a law's end. -/
namespace DI
open PySem PySem.Spec L2
structure Tx where
  N : List Str
  P : List Str
  d : He.DefD
structure Pg where
  fs : List Fn
  tx : List Tx
  cls : List Str
  cf : List (List (Str × M))
  gcd : Bool
namespace Pg
variable (p : Pg)
def tb : Tb := ⟨p.fs.map (·.sg), p.cf⟩
def mc (x : Tx) : Mc := ⟨x.N, x.d.scope, p.fs.map (·.at_), p.cls, p.cf, p.gcd⟩
def cl (c : Nat) : Str := p.cls.getD c ""
def G (K : PySem.W.Frag) : CT := ⟨K, fun c => He.ga K (p.cl c), fun c => p.cf.getD c []⟩
end Pg
def atB (cls : List Str) : FnAt → Str × Option Str → Bool
  | .glob x, (y, none) => decide (x = y) && !(x == ("__debug__" : Str))
  | .meth c m, (y, some m') => decide (cls[c]? = some y) && decide (m = m')
  | _, _ => false
def firstB : FnAt → List PK → Bool
  | .glob _, _ => true
  | .meth c _, .io (.O c' _) :: _ => decide (c' = c)
  | .meth c _, .bw (.O c' _) :: _ => decide (c' = c)
  | .meth c _, .ini c' :: _ => decide (c' = c)
  | _, _ => false
def noFld (cf : List (List (Str × M))) : FnAt → Bool
  | .glob _ => true
  | .meth c m => (cf.getD c []).all fun q => !decide (q.1 = m)
def scB (N P : List Str) (sc : Scope) : Bool := decide (sc.kind = .function) && (decide (sc.isCoroutine = false) && (decide (sc.isGenerator = false) && (decide N.Nodup && (decide (N.take P.length = P) &&
  (P.all (fun x => decide (sc.names.lookup x = some .local) || decide (sc.names.lookup x = some .cell)) && sc.names.all fun y => !decide (y.2 = .free))))))
theorem scB_ok {N P : List Str} {sc : Scope} (h : scB N P sc = true) : FnScope N P sc := by
  unfold scB at h
  simp only [Bool.and_eq_true, decide_eq_true_eq, List.all_eq_true, Bool.or_eq_true, Bool.not_eq_true', decide_eq_false_iff_not] at h
  obtain ⟨h1, h2, h3, h4, h5, h6, h7⟩ := h
  exact ⟨h1, h2, h3, h4, h5, h6, h7⟩
def Pg.okD (p : Pg) (f : Fn) (x : Tx) : Bool := ckDef p.tb f && (matSs (p.mc x) f.body x.d.body && (decide (x.N.length = f.nn) && (decide (x.P.length = f.sg.ps.length) && (scB x.N x.P x.d.scope && (x.d.dfl.isEmpty && (x.d.kwd.isEmpty && (atB p.cls f.at_ x.d.at_ && (firstB f.at_ f.sg.ps && (noFld p.cf f.at_ && f.sg.ret.pl)))))))))
def okL (q : Fn → Tx → Bool) : List Fn → List Tx → Bool
  | [], [] => true
  | f :: fs, x :: xs => q f x && okL q fs xs
  | _, _ => false
theorem okL_at {q : Fn → Tx → Bool} : ∀ {fs : List Fn} {xs : List Tx} {i : Nat} {f : Fn}, okL q fs xs = true → fs[i]? = some f → ∃ x, xs[i]? = some x ∧ q f x = true
  | [], _, _, _, _, h => by simp at h
  | _ :: _, [], _, _, h, _ => by cases h
  | f :: fs, x :: xs, 0, _, h, e => by
    simp at e; subst e
    exact ⟨x, rfl, (Bool.and_eq_true_iff.mp h).1⟩
  | f :: fs, x :: xs, i + 1, _, h, e => by
    obtain ⟨y, h1, h2⟩ := okL_at (i := i) (Bool.and_eq_true_iff.mp h).2 (by simpa using e)
    exact ⟨y, by simpa using h1, h2⟩
def Pg.okC (p : Pg) : Bool := p.cf.all (fun l => l.all (fun q => q.2.pl) && (decide (l.map (·.1)).Nodup && decide (l.length < 1000))) && (p.cls.all (fun x => !(x == ("__debug__" : Str))) && decide (p.cls.length = p.cf.length))
/-! ### the head's facts -/
def Pg.fas (p : Pg) : List He.Fa :=
  p.fs.map (fun f => match f.at_ with
    | .glob x => .glo x
    | .meth c m => .meth (p.cl c) m) ++
  (p.cls.map He.Fa.glo ++ (p.cls.map He.Fa.cls ++ (p.cls.map He.Fa.mkr ++ ((p.cls.zip p.cf).flatMap (fun q => q.2.map fun r => He.Fa.noat q.1 r.1) ++ bnames.map He.Fa.free))))
def Pg.gcB (p : Pg) (K : PySem.W.Frag) : Bool := !p.gcd || He.eqO (PySem.W.nsIn K mainGlobals "gcd") (some (some (.builtin "math.gcd")))
abbrev AlX : Type := Bool × List He.FnW
def Pg.obs (p : Pg) (K : PySem.W.Frag) : AlX := ((p.fas.all fun f => f.ok K) && (p.gcB K && p.tx.all fun x => x.d.ok K), p.tx.map fun x => He.fnW K x.d.at_)
def Pg.val (p : Pg) : AlX := (true, p.tx.map fun x => x.d.val)
def Pg.Says (p : Pg) (K : PySem.W.Frag) : Prop := p.obs K = p.val
def Pg.obsG (p : Pg) (n : Nat) (g : Addr → Option Obj) : AlX := p.obs (He.frG g (He.asD g n))
def Pg.hook (p : Pg) (n : Nat) : PySem.W.Hook where
  α := AlX
  obs := fun s => p.obsG n s.heap.get?
  val := fun _ => p.val
  says := fun _ h => ∃ K : PySem.W.Frag, K.In h ∧ p.Says K
  of := fun _ _ e => ⟨_, He.frG_in, e⟩
  keeps := fun _ _ _ ⟨K, hK, c⟩ k => ⟨K, PySem.W.Frag.In.keeps hK k, c⟩
theorem Pg.obsG_eq {p : Pg} {n : Nat} {g : Addr → Option Obj} {s : Shared} (h : ∀ a, g a = s.heap.get? a) : p.obsG n g = (p.hook n).obs s := by
  have e : g = s.heap.get? := funext h
  rw [e] <;> rfl
/-- how the arguments are bound -/
def BindOk (x : Tx) : Prop := ∀ (kV doc pm : Value) (an : Option Addr) (cdv ct : Value) (us : List Value), us.length = x.P.length → bindArgs (PySem.W.fnOf x.d.name x.d.qual x.d.params x.d.body x.d.scope .none kV doc pm an cdv ct) ⟨us, []⟩ = pure (x.P.zip us)
structure Pg.Ok (p : Pg) : Prop where
  d : okL p.okD p.fs p.tx = true
  c : p.okC = true
  b : ∀ x ∈ p.tx, BindOk x
def fdAt (K : PySem.W.Frag) (a : Addr) : FuncData := match K.lookup a with
  | some ⟨_, _, .func fd, _⟩ => fd
  | _ => default
def Pg.F (p : Pg) (K : PySem.W.Frag) : FA := ⟨fun f => match p.tx[f]? with
    | some x => He.fAd K x.d.at_
    | none => 0, fun f => match p.tx[f]? with
    | some x => fdAt K (He.fAd K x.d.at_)
    | none => default, fun f => match p.tx[f]? with
    | some x => x.P
    | none => []⟩
section
variable {p : Pg} {P : Program} {w : World} {K : PySem.W.Frag} {mg : Str → Option Value} {base : Heap} {ts : List Addr}
theorem Pg.Ok.at_ (ok : p.Ok) {i : Nat} {f : Fn} (h : p.fs[i]? = some f) : ∃ x, p.tx[i]? = some x ∧ ckDef p.tb f = true ∧ matSs (p.mc x) f.body x.d.body = true ∧ x.N.length = f.nn ∧ x.P.length = f.sg.ps.length ∧ FnScope x.N x.P x.d.scope ∧ x.d.dfl = [] ∧ x.d.kwd = [] ∧ atB p.cls f.at_ x.d.at_ = true ∧ firstB f.at_ f.sg.ps = true ∧
    noFld p.cf f.at_ = true ∧ f.sg.ret.pl = true := by
  obtain ⟨x, h1, h2⟩ := okL_at ok.d h
  unfold Pg.okD at h2
  simp only [Bool.and_eq_true, decide_eq_true_eq, List.isEmpty_iff] at h2
  obtain ⟨a1, a2, a3, a4, a5, a6, a7, a8, a9, a10, a11⟩ := h2
  exact ⟨x, h1, a1, a2, a3, a4, scB_ok a5, a6, a7, a8, a9, a10, a11⟩
theorem Pg.Says.fa (c : p.Says K) {f : He.Fa} (h : f ∈ p.fas) : f.ok K = true := by
  have c1 := (Bool.and_eq_true_iff.mp (show ((p.fas.all fun f => f.ok K) && (p.gcB K && p.tx.all fun x => x.d.ok K)) = true from congrArg (fun z : AlX => z.1) c)).1
  exact List.all_eq_true.mp c1 f h
theorem Pg.Says.gc (c : p.Says K) : p.gcB K = true := by
  have c1 := (Bool.and_eq_true_iff.mp (show ((p.fas.all fun f => f.ok K) && (p.gcB K && p.tx.all fun x => x.d.ok K)) = true from congrArg (fun z : AlX => z.1) c)).2
  exact (Bool.and_eq_true_iff.mp c1).1
theorem Pg.Says.def_ (c : p.Says K) {i : Nat} {x : Tx} (h : p.tx[i]? = some x) : ∃ fd, He.fnW K x.d.at_ = x.d.val ∧ FunD K x.d.name x.d.qual x.d.params x.d.body x.d.scope (x.d.dvs K) (x.d.kws K) (He.fAd K x.d.at_) fd := by
  have c1 := (Bool.and_eq_true_iff.mp (show ((p.fas.all fun f => f.ok K) && (p.gcB K && p.tx.all fun x => x.d.ok K)) = true from congrArg (fun z : AlX => z.1) c)).2
  have c2 := (Bool.and_eq_true_iff.mp c1).2
  have e : (p.tx.map fun x => He.fnW K x.d.at_) = p.tx.map fun x => x.d.val := congrArg (fun z : AlX => z.2) c
  have e2 : (p.tx.map fun x => He.fnW K x.d.at_)[i]? = (p.tx.map fun x => x.d.val)[i]? := by rw [e]
  rw [List.getElem?_map, List.getElem?_map, h] at e2
  have e3 : He.fnW K x.d.at_ = x.d.val := Option.some.inj e2
  obtain ⟨fd, F⟩ := He.DefD.funD e3 (List.all_eq_true.mp c2 x (List.mem_of_getElem? h))
  exact ⟨fd, e3, F⟩
theorem fdAt_of {x qual : Str} {params : Arguments} {body : List Stmt} {scope : Scope} {dvs : List V} {kws : List (Str × V)} {f : Addr} {fd : FuncData} (F : FunD K x qual params body scope dvs kws f fd) : fdAt K f = fd := by
  obtain ⟨oc, od, dV, kV, doc, pm, an, cdv, ct, osl, _, lk, _⟩ := F.ex
  unfold fdAt
  rw [lk]
theorem Pg.gok (ok : p.Ok) (c : p.Says K) (x : Tx) : GOk p.tb (p.mc x) (p.G K) := by
  have hc := ok.c
  unfold Pg.okC at hc
  simp only [Bool.and_eq_true, List.all_eq_true, decide_eq_true_eq, Bool.not_eq_true'] at hc
  obtain ⟨h1, h2, h3⟩ := hc
  have at_ : ∀ (c : Nat) (q : Str × M), q ∈ p.cf.getD c [] → c < p.cf.length ∧ p.cf[c]? = some (p.cf.getD c []) := fun c q hq => by
    by_cases hl : c < p.cf.length
    · exact ⟨hl, by rw [List.getD_eq_getElem?_getD, List.getElem?_eq_getElem hl]; rfl⟩
    · rw [List.getD_eq_getElem?_getD, List.getElem?_eq_none (by omega)] at hq; cases hq
  refine ⟨fun _ => rfl, rfl, fun c q hq => ?_, fun c0 q hq => ?_, fun c => ?_, fun s hs => ?_⟩
  · obtain ⟨_, hm⟩ := at_ c q hq
    exact (h1 _ (List.mem_of_getElem? hm)).1 q hq
  · obtain ⟨hl, hm⟩ := at_ c0 q hq
    have hl2 : c0 < p.cls.length := by rw [h3]; exact hl
    have hcl : p.cls[c0]? = some (p.cl c0) := by unfold Pg.cl; rw [List.getD_eq_getElem?_getD, List.getElem?_eq_getElem hl2]; rfl
    have hmem : p.cl c0 ∈ p.cls := List.mem_of_getElem? hcl
    refine ⟨He.cls_ok (c.fa ?_), He.noat_ok (c.fa ?_)⟩
    · exact List.mem_append_right _ (List.mem_append_right _ (List.mem_append_left _ (List.mem_map.mpr ⟨_, hmem, rfl⟩)))
    · refine List.mem_append_right _ (List.mem_append_right _ (List.mem_append_right _ (List.mem_append_right _ (List.mem_append_left _ (List.mem_flatMap.mpr ⟨(p.cl c0, p.cf.getD c0 []), ?_, List.mem_map.mpr ⟨q, hq, rfl⟩⟩)))))
      refine List.mem_of_getElem? (i := c0) ?_
      rw [List.getElem?_zip_eq_some]
      exact ⟨hcl, hm⟩
  · by_cases hl : c < p.cf.length
    · have hm : p.cf[c]? = some (p.cf.getD c []) := by rw [List.getD_eq_getElem?_getD, List.getElem?_eq_getElem hl]; rfl
      exact (h1 _ (List.mem_of_getElem? hm)).2.1
    · show (((p.cf.getD c []).map (·.1))).Nodup
      rw [List.getD_eq_getElem?_getD, List.getElem?_eq_none (by omega)]; simp
  · have hs' : s ∈ p.fs.map (·.sg) := hs
    obtain ⟨f, hf, rfl⟩ := List.mem_map.mp hs'
    obtain ⟨i, hi, e⟩ := List.getElem_of_mem hf
    obtain ⟨x, _, _, _, _, _, _, _, _, _, _, _, h⟩ := ok.at_ (i := i) (f := f) (by rw [List.getElem?_eq_getElem hi, e])
    exact h
theorem Pg.few (ok : p.Ok) : ∀ c, ((p.G K).cf c).length < 1000 := fun c => by
  have hc := ok.c
  unfold Pg.okC at hc
  simp only [Bool.and_eq_true, List.all_eq_true, decide_eq_true_eq, Bool.not_eq_true'] at hc
  by_cases hl : c < p.cf.length
  · have hm : p.cf[c]? = some (p.cf.getD c []) := by rw [List.getD_eq_getElem?_getD, List.getElem?_eq_getElem hl]; rfl
    exact (hc.1 _ (List.mem_of_getElem? hm)).2.2
  · show (p.cf.getD c []).length < 1000
    rw [List.getD_eq_getElem?_getD, List.getElem?_eq_none (by omega)]; simp
/-- all defs of the text, k calls deep -/
def Pg.All (p : Pg) (P : Program) (w : World) (K : PySem.W.Frag) (mg : Str → Option Value) (base : Heap) (ts : List Addr) (k : Nat) : Prop :=
  ∀ f d, p.fs[f]? = some d → FnOk P w K mg base CX0 (2 * k) ((p.F K).fa f) ((p.F K).fd f) ((p.F K).ps f) (Spf p.tb (p.G K) ts (callN p.fs k) f d.sg)
theorem Pg.fnx (ok : p.Ok) (c : p.Says K) (KX : K.In base) (Gm : base.Ns mainGlobals mg) {k : Nat} (all : p.All P w K mg base ts k) {X : Cx} (hP : X.prog = P) (hw : X.w = w) (hK : X.K = K) (hm : X.mg = mg) (hb : X.base = base) (y : Tx) : FnX p.tb (p.mc y) (p.G K) ts (callN p.fs k) (p.F K) X (2 * k) := by
  subst hP hw hK hm hb
  have fnat : ∀ {f : Nat} {q : FnAt}, (p.mc y).fns[f]? = some q → ∃ d, p.fs[f]? = some d ∧ d.at_ = q := fun {f q} h => by
    have h' : (p.fs.map (·.at_))[f]? = some q := h
    rw [List.getElem?_map, Option.map_eq_some_iff] at h'
    exact h'
  have sgat : ∀ {f : Nat} {s : Sig} {d : Fn}, p.tb.sg[f]? = some s → p.fs[f]? = some d → s = d.sg := fun {f s d} h e => by
    have h' : (p.fs.map (·.sg))[f]? = some s := h
    rw [List.getElem?_map, e] at h'
    exact (Option.some.inj h').symm
  have hc := ok.c
  unfold Pg.okC at hc
  simp only [Bool.and_eq_true, List.all_eq_true, decide_eq_true_eq, Bool.not_eq_true'] at hc
  refine ⟨fun f q s hf hs => ?_, fun f x hf => ?_, fun f c0 m hf => ?_, fun f c0 m s hf hs => ?_, fun f c0 x hx hf => ?_⟩
  · obtain ⟨d, hd, _⟩ := fnat hf
    rw [sgat hs hd]
    refine ⟨all f d hd, ?_⟩
    obtain ⟨x, h1, _, _, _, _, _, hdf, hkw, _⟩ := ok.at_ hd
    obtain ⟨fd, _, F⟩ := c.def_ h1
    have e1 : (p.F X.K).fd f = fd := by
      show (match p.tx[f]? with
        | some x => fdAt X.K (He.fAd X.K x.d.at_)
        | none => default) = _
      rw [h1]; exact fdAt_of F
    have e2 : (p.F X.K).ps f = x.P := by
      show (match p.tx[f]? with
        | some x => x.P
        | none => []) = _
      rw [h1]
    rw [e1, e2]
    have F' : FunD X.K x.d.name x.d.qual x.d.params x.d.body x.d.scope [] (x.d.kws X.K) (He.fAd X.K x.d.at_) fd := by
      have : x.d.dvs X.K = [] := by unfold He.DefD.dvs; rw [hdf]; rfl
      rw [this] at F; exact F
    exact F'.bindsN (ok.b x (List.mem_of_getElem? h1))
  · obtain ⟨d, hd, e⟩ := fnat hf
    obtain ⟨t, h1, _, _, _, _, _, _, _, hat, _⟩ := ok.at_ hd
    rw [e] at hat
    obtain ⟨fd, _, F⟩ := c.def_ h1
    have eat : t.d.at_ = (x, none) ∧ (x == ("__debug__" : Str)) = false := by
      revert hat
      generalize t.d.at_ = q
      obtain ⟨q1, q2⟩ := q
      cases q2 with
      | none =>
        intro hat
        simp only [atB, Bool.and_eq_true, decide_eq_true_eq, Bool.not_eq_true'] at hat
        exact ⟨by rw [hat.1], hat.2⟩
      | some m => intro hat; cases hat
    have efa : (p.F X.K).fa f = He.ga X.K x := by
      show (match p.tx[f]? with
        | some x => He.fAd X.K x.d.at_
        | none => 0) = _
      rw [h1]
      show He.fAd X.K t.d.at_ = _
      rw [eat.1]; rfl
    refine ⟨?_, ?_, eat.2⟩
    · rw [efa]
      refine He.glo_ok KX Gm (c.fa (List.mem_append_left _ (List.mem_map.mpr ⟨d, List.mem_of_getElem? hd, ?_⟩)))
      rw [e]
    · have := F.kp
      rw [eat.1] at this
      rw [efa]
      exact this
  · obtain ⟨d, hd, e⟩ := fnat hf
    obtain ⟨t, h1, _, _, _, _, _, _, _, hat, _, hnf, _⟩ := ok.at_ hd
    rw [e] at hat hnf
    have eat : t.d.at_ = (p.cl c0, some m) ∧ p.cls[c0]? = some (p.cl c0) := by
      revert hat
      generalize t.d.at_ = q
      obtain ⟨q1, q2⟩ := q
      cases q2 with
      | none => intro hat; cases hat
      | some m' =>
        intro hat
        simp only [atB, Bool.and_eq_true, decide_eq_true_eq] at hat
        have : p.cl c0 = q1 := by unfold Pg.cl; rw [List.getD_eq_getElem?_getD, hat.1]; rfl
        exact ⟨by rw [this, hat.2], by rw [this]; exact hat.1⟩
    have efa : (p.F X.K).fa f = He.ma X.K (He.ga X.K (p.cl c0)) m := by
      show (match p.tx[f]? with
        | some x => He.fAd X.K x.d.at_
        | none => 0) = _
      rw [h1]
      show He.fAd X.K t.d.at_ = _
      rw [eat.1]; rfl
    have hmem : p.cl c0 ∈ p.cls := List.mem_of_getElem? eat.2
    refine ⟨?_, He.cls_ok (c.fa (List.mem_append_right _ (List.mem_append_right _ (List.mem_append_left _ (List.mem_map.mpr ⟨_, hmem, rfl⟩))))), fun q hq => ?_⟩
    · rw [efa]
      refine He.meth_ok (c.fa (List.mem_append_left _ (List.mem_map.mpr ⟨d, List.mem_of_getElem? hd, ?_⟩)))
      rw [e]
    · simp only [noFld, List.all_eq_true, Bool.not_eq_true', decide_eq_false_iff_not] at hnf
      exact hnf q hq
  · obtain ⟨d, hd, e⟩ := fnat hf
    obtain ⟨t, h1, _, _, _, _, _, _, _, _, hfst, _⟩ := ok.at_ hd
    rw [sgat hs hd]
    rw [e] at hfst
    revert hfst
    generalize d.sg.ps = ps
    intro hfst
    cases ps with
    | nil => cases hfst
    | cons q r =>
      cases q with
      | z => cases hfst
      | io m0 =>
        cases m0 <;> first | (cases hfst; done) | skip
        rename_i c' kk
        have e : c' = c0 := of_decide_eq_true hfst
        subst e
        exact ⟨kk, r, .inl rfl⟩
      | bw m0 =>
        cases m0 <;> first | (cases hfst; done) | skip
        rename_i c' kk
        have e : c' = c0 := of_decide_eq_true hfst
        subst e
        exact ⟨kk, r, .inr (.inl rfl)⟩
      | ini c' =>
        have e : c' = c0 := of_decide_eq_true hfst
        subst e
        exact ⟨0, r, .inr (.inr rfl)⟩
  · obtain ⟨d, hd, e⟩ := fnat hf
    obtain ⟨t, h1, _, _, _, _, _, _, _, hat, _⟩ := ok.at_ hd
    rw [e] at hat
    have hx' : p.cls[c0]? = some x := hx
    have ecl : p.cl c0 = x := by unfold Pg.cl; rw [List.getD_eq_getElem?_getD, hx']; rfl
    have hmem : x ∈ p.cls := List.mem_of_getElem? hx'
    have eat : t.d.at_ = (x, some ("__init__" : Str)) := by
      revert hat
      generalize t.d.at_ = q
      obtain ⟨q1, q2⟩ := q
      cases q2 with
      | none => intro hat; cases hat
      | some m' =>
        intro hat
        simp only [atB, Bool.and_eq_true, decide_eq_true_eq] at hat
        rw [hx'] at hat
        rw [Option.some.inj hat.1, hat.2]
    have efa : (p.F X.K).fa f = He.ma X.K (He.ga X.K x) "__init__" := by
      show (match p.tx[f]? with
        | some x => He.fAd X.K x.d.at_
        | none => 0) = _
      rw [h1]
      show He.fAd X.K t.d.at_ = _
      rw [eat]; rfl
    refine ⟨?_, ?_, hc.2.1 x hmem⟩
    · rw [efa]
      show Mk X.K (He.ga X.K (p.cl c0)) _
      rw [ecl]
      exact He.mkr_ok (c.fa (List.mem_append_right _ (List.mem_append_right _ (List.mem_append_right _ (List.mem_append_left _ (List.mem_map.mpr ⟨_, hmem, rfl⟩))))))
    · show X.mg x = some (.ref (He.ga X.K (p.cl c0)))
      rw [ecl]
      exact He.glo_ok KX Gm (c.fa (List.mem_append_right _ (List.mem_append_left _ (List.mem_map.mpr ⟨_, hmem, rfl⟩))))
end
end DI
end
section
set_option Elab.async false
set_option linter.all false
set_option maxRecDepth 100000
/-! All defs keep their promises; a law's end. -/
namespace DI
open PySem PySem.Spec L2
section
variable {p : Pg} {P : Program} {w : World} {K : PySem.W.Frag} {mg : Str → Option Value} {base : Heap} {ts : List Addr}
theorem Pg.all_ok (ok : p.Ok) (c : p.Says K) (KX : K.In base) (Gm : base.Ns mainGlobals mg) : ∀ k : Nat, p.All P w K mg base ts k
  | 0 => fun f d hd => by
    have no : ∀ vs H Q E, ¬ Spf p.tb (p.G K) ts (callN p.fs 0) f d.sg vs H Q E := fun vs H Q E ⟨_, _, _, _, _, h, _⟩ => by cases h
    exact ⟨fun vs H Q E h => (no vs H Q E h).elim, fun A outer s H args us vs Q E hr e0 hb r h => (no vs H Q E h).elim⟩
  | k + 1 => fun f d hd => by
    have ih := Pg.all_ok ok c KX Gm k
    obtain ⟨x, h1, hck, hmat, hN, hP, hS, hdf, hkw, hat, hfst, hnf, hpl⟩ := ok.at_ hd
    obtain ⟨fd, _, F⟩ := c.def_ h1
    have e0 : (p.F K).fa f = He.fAd K x.d.at_ := by
      show (match p.tx[f]? with
        | some x => He.fAd K x.d.at_
        | none => 0) = _
      rw [h1]
    have e1 : (p.F K).fd f = fd := by
      show (match p.tx[f]? with
        | some x => fdAt K (He.fAd K x.d.at_)
        | none => default) = _
      rw [h1]; exact fdAt_of F
    have e2 : (p.F K).ps f = x.P := by
      show (match p.tx[f]? with
        | some x => x.P
        | none => []) = _
      rw [h1]
    rw [e0, e1, e2]
    have r := F.ok (P := P) (w := w) (mg := mg) (base := base) (CX := CX0) (N := x.N) (ps := x.P) (k := 2 * k + 1) (sp := Spf p.tb (p.G K) ts (callN p.fs (k + 1)) f d.sg) hS (fun vs H Q E h => by
        obtain ⟨T, ws, ds, r, outs, _, _, env, _⟩ := h
        have := env.ls
        rw [List.length_map, List.length_map] at this
        rw [this, hP])
      (fun cdv A outer s H vs Q E hr h => ⟨_, PSs.nox ((stmt_ok (F := p.F K) (k := 2 * k) d.body (mc := p.mc x) ?_ ⟨d.sg.ps, d.sg.ret⟩ none).2 x.d.body hmat), def_ok hd hck hN h⟩)
    · exact r
    · refine ⟨⟨⟨rfl, hS.nd, fun y h => h, fun y k0 _ h => h, fun y h => .inr h, fun y h => rfl, hS.kind, rfl, hr, fun y hy => ?_, fun hg => ?_⟩, rfl, Pg.gok ok c x, Pg.fnx ok c KX Gm ih rfl rfl rfl rfl rfl x⟩, PassesOwn.never, Pg.few ok⟩
      · refine He.free_ok KX Gm (c.fa ?_)
        exact List.mem_append_right _ (List.mem_append_right _ (List.mem_append_right _ (List.mem_append_right _ (List.mem_append_right _ (List.mem_map.mpr ⟨y, hy, rfl⟩)))))
      · have := c.gc
        unfold Pg.gcB at this
        rw [show p.gcd = true from hg] at this
        exact PySem.W.mg_of KX Gm (He.eqO_ok (by simpa using this))
theorem fz_ints {G : CT} {H : Hp} {N : Sets} : ∀ ns : List Int, FzA G H N (ns.map D.int) (ns.map V.int)
  | [] => .nil
  | n :: ns => .cons (.int n) (fz_ints ns)
theorem Pg.end_ (ok : p.Ok) {li k : Nat} {d : Fn} {x : Tx} (hd : p.fs[li]? = some d) (hsg : d.sg = ⟨[.z], .z⟩) (hx : p.tx[li]? = some x) (hP : x.P = [("script" : Str)]) (hat : x.d.at_ = (("law" : Str), none))
    (hcall : ∀ ns : List Int, ns.length ≤ 63 → callN p.fs k li [.lst (ns.map D.int)] = some (.bl true, [])) {h : Heap} {fa : Addr} (KX : K.In h) (Gm : h.Ns mainGlobals mg) (hfa : mg ("law" : Str) = some (.ref fa)) (c : p.Says K) :
    ∃ (fd : FuncData) (sp : Sp), (∀ (s : Shared) (u : Value), BindsTo s fd ⟨[u], []⟩ [("script", u)]) ∧ (∀ (H : Hp) (a : Addr) (ns : List Int), ns.length ≤ 63 → Only H → SqL K H a (ns.map V.int) → sp [.ref a] H (fun v _ => v = .bl true) fun _ _ _ => False) ∧
      ∀ base : Heap, K.In base → base.Ns mainGlobals mg → FnOk P w K mg base CX0 (2 * k) fa fd ["script"] sp := by
  obtain ⟨x', h1, hck, hmat, hN, hPl, hS, hdf, hkw, hat', hfst, hnf, hpl⟩ := ok.at_ hd
  rw [hx] at h1
  cases h1
  obtain ⟨fd, _, F⟩ := c.def_ hx
  have F' : FunD K x.d.name x.d.qual x.d.params x.d.body x.d.scope [] (x.d.kws K) (He.fAd K x.d.at_) fd := by
    have : x.d.dvs K = [] := by unfold He.DefD.dvs; rw [hdf]; rfl
    rw [this] at F; exact F
  have efa : fa = He.fAd K x.d.at_ := by
    have g : mg "law" = some (.ref (He.ga K "law")) := by
      refine He.glo_ok KX Gm (c.fa (List.mem_append_left _ (List.mem_map.mpr ⟨d, List.mem_of_getElem? hd, ?_⟩)))
      rw [hat] at hat'
      revert hat'
      cases d.at_ with
      | glob y =>
        intro hat'
        simp only [atB, Bool.and_eq_true, decide_eq_true_eq] at hat'
        rw [hat'.1]
      | meth c m => intro hat'; cases hat'
    rw [hfa] at g
    rw [hat]
    have := Option.some.inj g
    injection this
  refine ⟨fd, Spf p.tb (p.G K) [] (callN p.fs k) li d.sg, fun s u => ?_, fun H a ns hl hO hs => ?_, fun base KB GB => ?_⟩
  · have := F'.bindsA (ok.b x (List.mem_of_getElem? hx)) s [u] (by rw [hP]; rfl)
    rw [hP] at this
    exact this
  · refine ⟨⟨fun _ => False, fun _ => False, fun _ z => z⟩, [[]], [.lst (ns.map D.int)], .bl true, [], hcall ns hl, by rw [hsg]; rfl, ?_, ?_⟩
    · rw [hsg]
      refine ⟨rfl, rfl, rfl, by simp, fun a z => z.elim, fun a h => by simp at h, fun i m hm => ?_, fun a h => nomatch h⟩
      cases i with
      | zero =>
        have em : m = .z := by simp [pmE] at hm; exact hm.symm
        subst em
        refine .inr ⟨.ref a, rfl, .z ?_⟩
        rcases hs with hs | hs
        · refine .lst hs (fun z => ?_) (fz_ints ns)
          rcases z with z | z
          · exact z
          · simp at z
        · exact .lstK (fun H' => .inr hs) (fz_ints ns)
      | succ i => simp at hm
    · rw [hsg]
      intro v H' w ws' st env r nd dj
      exact (Rp.isBl r true rfl).1
  · have all := Pg.all_ok (P := P) (w := w) (ts := []) ok c KB GB k li d hd
    have e0 : (p.F K).fa li = He.fAd K x.d.at_ := by
      show (match p.tx[li]? with
        | some x => He.fAd K x.d.at_
        | none => 0) = _
      rw [hx]
    have e1 : (p.F K).fd li = fd := by
      show (match p.tx[li]? with
        | some x => fdAt K (He.fAd K x.d.at_)
        | none => default) = _
      rw [hx]; exact fdAt_of F
    have e2 : (p.F K).ps li = [("script" : Str)] := by
      show (match p.tx[li]? with
        | some x => x.P
        | none => []) = _
      rw [hx]; exact hP
    rw [e0, e1, e2, ← efa] at all
    exact all
end
end DI
end
section
set_option Elab.async false
set_option linter.all false
set_option maxRecDepth 100000
/-! What an expression, a block must give: rules by construct. -/
namespace DI
open PySem
/-- a mark by which a simplifier leaves the argument q alone -/
class Fx {α : Sort _} (q : α) : Type where
instance Fx.it {α : Sort _} (q : α) : Fx q := {}
section
variable {C : Calls} {ρ : Rho} {Q : D → Rho → Prop}
/-- e gives a value and a frame of which Q holds -/
def wpE (C : Calls) (e : E) (ρ : Rho) (Q : D → Rho → Prop) [Fx Q] : Prop := ∃ d ρ', ev C e ρ = some (d, ρ') ∧ Q d ρ'
theorem wpE_mono {e : E} {Q' : D → Rho → Prop} (h : wpE C e ρ Q) (k : ∀ d ρ', Q d ρ' → Q' d ρ') : wpE C e ρ Q' := by
  obtain ⟨d, ρ', h1, h2⟩ := h; exact ⟨d, ρ', h1, k _ _ h2⟩
theorem wpE_of {e : E} {d : D} {ρ' : Rho} (h : ev C e ρ = some (d, ρ')) : wpE C e ρ Q ↔ Q d ρ' := by
  constructor
  · rintro ⟨_, _, h1, h2⟩; rw [h] at h1; cases h1; exact h2
  · intro q; exact ⟨_, _, h, q⟩
theorem wp_var {i : Nat} : wpE C (.var i) ρ Q ↔ Q (ρ.getD i .non) ρ := wpE_of rfl
theorem wp_mv {i : Nat} : wpE C (.mv i) ρ Q ↔ Q (ρ.getD i .non) (ρ.set i .non) := wpE_of rfl
theorem wp_fz {i : Nat} : wpE C (.fz i) ρ Q ↔ Q (ρ.getD i .non) ρ := wpE_of rfl
theorem wp_ci {i : Int} : wpE C (.ci i) ρ Q ↔ Q (.int i) ρ := wpE_of rfl
theorem wp_cs {i : Str} : wpE C (.cs i) ρ Q ↔ Q (.str i) ρ := wpE_of rfl
theorem wp_cb {i : Bool} : wpE C (.cb i) ρ Q ↔ Q (.bl i) ρ := wpE_of rfl
theorem wp_cn : wpE C .cn ρ Q ↔ Q .non ρ := wpE_of rfl
theorem wp_so : wpE C .so ρ Q ↔ Q .non ρ := wpE_of rfl
theorem wp_ct : wpE C .ct ρ Q ↔ Q (.bl true) ρ := wpE_of rfl
theorem wp_a0 : wpE C .a0 ρ Q ↔ Q (.tup []) ρ := wpE_of rfl
theorem wp_o2 {o : O2} {a b : E} : wpE C (.o2 o a b) ρ Q ↔ wpE C a ρ fun x ρ1 => wpE C b ρ1 fun y ρ2 => ∃ z, o2D o x y = some z ∧ Q z ρ2 := by
  constructor
  · rintro ⟨d, ρ', h, q⟩
    simp only [ev] at h
    split at h
    · rename_i x ρ1 e1
      split at h
      · rename_i y ρ2 e2
        rw [Option.map_eq_some_iff] at h
        obtain ⟨z, hz, ez⟩ := h
        cases ez
        exact ⟨x, ρ1, e1, y, _, e2, d, hz, q⟩
      · cases h
    · cases h
  · rintro ⟨x, ρ1, e1, y, ρ2, e2, z, hz, q⟩
    exact ⟨z, ρ2, by simp only [ev, e1, e2, hz, Option.map_some], q⟩
theorem wp_neg {a : E} : wpE C (.neg a) ρ Q ↔ wpE C a ρ fun x ρ1 => ∃ i, x = .int i ∧ Q (.int (-i)) ρ1 := by
  constructor
  · rintro ⟨d, ρ', h, q⟩
    simp only [ev] at h
    split at h
    · rename_i e1; cases h; exact ⟨_, _, e1, _, rfl, q⟩
    · cases h
  · rintro ⟨x, ρ1, e1, i, rfl, q⟩; exact ⟨_, _, by simp only [ev, e1], q⟩
theorem wp_nt {a : E} : wpE C (.nt a) ρ Q ↔ wpE C a ρ fun x ρ1 => ∃ b, x = .bl b ∧ Q (.bl (!b)) ρ1 := by
  constructor
  · rintro ⟨d, ρ', h, q⟩
    simp only [ev] at h
    split at h
    · rename_i e1; cases h; exact ⟨_, _, e1, _, rfl, q⟩
    · cases h
  · rintro ⟨x, ρ1, e1, i, rfl, q⟩; exact ⟨_, _, by simp only [ev, e1], q⟩
theorem wp_cp {o : Cp} {a b : E} : wpE C (.cp o a b) ρ Q ↔ wpE C a ρ fun x ρ1 => wpE C b ρ1 fun y ρ2 => ∃ z, cpD o x y = some z ∧ Q (.bl z) ρ2 := by
  constructor
  · rintro ⟨d, ρ', h, q⟩
    simp only [ev] at h
    split at h
    · rename_i x ρ1 e1
      split at h
      · rename_i y ρ2 e2
        rw [Option.map_eq_some_iff] at h
        obtain ⟨z, hz, ez⟩ := h
        cases ez
        exact ⟨x, ρ1, e1, y, _, e2, _, hz, q⟩
      · cases h
    · cases h
  · rintro ⟨x, ρ1, e1, y, ρ2, e2, z, hz, q⟩
    exact ⟨_, ρ2, by simp only [ev, e1, e2, hz, Option.map_some], q⟩
theorem wp_ch {o1 o2 : Cp} {a b c : E} : wpE C (.ch o1 o2 a b c) ρ Q ↔ wpE C a ρ fun x ρ1 => wpE C b ρ1 fun y ρ2 => ∃ z, cpD o1 x y = some z ∧ if z = true then wpE C c ρ2 fun u ρ3 => ∃ t, cpD o2 y u = some t ∧ Q (.bl t) ρ3 else Q (.bl false) ρ2 := by
  constructor
  · rintro ⟨d, ρ', h, q⟩
    simp only [ev] at h
    split at h
    · rename_i x ρ1 e1
      split at h
      · rename_i y ρ2 e2
        refine ⟨x, ρ1, e1, y, ρ2, e2, ?_⟩
        split at h
        · rename_i e3
          split at h
          · rename_i u ρ3 e4
            rw [Option.map_eq_some_iff] at h
            obtain ⟨z, hz, ez⟩ := h
            cases ez
            exact ⟨true, e3, u, _, e4, z, hz, q⟩
          · cases h
        · rename_i e3
          cases h
          exact ⟨false, e3, q⟩
        · cases h
      · cases h
    · cases h
  · rintro ⟨x, ρ1, e1, y, ρ2, e2, z, hz, q⟩
    cases z with
    | true =>
      obtain ⟨u, ρ3, e4, t, ht, q⟩ := q
      exact ⟨_, _, by simp only [ev, e1, e2, hz, e4, ht, Option.map_some], q⟩
    | false => exact ⟨_, _, by simp only [ev, e1, e2, hz], q⟩
theorem wp_an {a b : E} : wpE C (.an a b) ρ Q ↔ wpE C a ρ fun x ρ1 => ∃ z, x = .bl z ∧ if z = true then wpE C b ρ1 fun y ρ2 => ∃ t, y = .bl t ∧ Q (.bl t) ρ2 else Q (.bl false) ρ1 := by
  constructor
  · rintro ⟨d, ρ', h, q⟩
    simp only [ev] at h
    split at h
    · rename_i ρ1 e1
      split at h
      · rename_i e2; cases h; exact ⟨_, _, e1, true, rfl, _, _, e2, _, rfl, q⟩
      · cases h
    · rename_i ρ1 e1; cases h; exact ⟨_, _, e1, false, rfl, q⟩
    · cases h
  · rintro ⟨x, ρ1, e1, z, rfl, q⟩
    cases z with
    | true => obtain ⟨y, ρ2, e2, t, rfl, q⟩ := q; exact ⟨_, _, by simp only [ev, e1, e2], q⟩
    | false => exact ⟨_, _, by simp only [ev, e1], q⟩
theorem wp_orr {a b : E} : wpE C (.orr a b) ρ Q ↔ wpE C a ρ fun x ρ1 => ∃ z, x = .bl z ∧ if z = true then Q (.bl true) ρ1 else wpE C b ρ1 fun y ρ2 => ∃ t, y = .bl t ∧ Q (.bl t) ρ2 := by
  constructor
  · rintro ⟨d, ρ', h, q⟩
    simp only [ev] at h
    split at h
    · rename_i ρ1 e1
      split at h
      · rename_i e2; cases h; exact ⟨_, _, e1, false, rfl, _, _, e2, _, rfl, q⟩
      · cases h
    · rename_i ρ1 e1; cases h; exact ⟨_, _, e1, true, rfl, q⟩
    · cases h
  · rintro ⟨x, ρ1, e1, z, rfl, q⟩
    cases z with
    | false => obtain ⟨y, ρ2, e2, t, rfl, q⟩ := q; exact ⟨_, _, by simp only [ev, e1, e2], q⟩
    | true => exact ⟨_, _, by simp only [ev, e1], q⟩
theorem wp_ite {c a b : E} : wpE C (.ite c a b) ρ Q ↔ wpE C c ρ fun x ρ1 => ∃ z, x = .bl z ∧ if z = true then wpE C a ρ1 Q else wpE C b ρ1 Q := by
  constructor
  · rintro ⟨d, ρ', h, q⟩
    simp only [ev] at h
    split at h
    · rename_i ρ1 e1; exact ⟨_, _, e1, true, rfl, _, _, h, q⟩
    · rename_i ρ1 e1; exact ⟨_, _, e1, false, rfl, _, _, h, q⟩
    · cases h
  · rintro ⟨x, ρ1, e1, z, rfl, q⟩
    cases z with
    | true => obtain ⟨y, ρ2, e2, q⟩ := q; exact ⟨_, _, by simp only [ev, e1, e2], q⟩
    | false => obtain ⟨y, ρ2, e2, q⟩ := q; exact ⟨_, _, by simp only [ev, e1, e2], q⟩
theorem wp_tup {as : E} : wpE C (.tup as) ρ Q ↔ wpE C as ρ fun x ρ1 => ∃ xs, x = .tup xs ∧ lenOk xs.length = true ∧ Q (.tup xs) ρ1 := by
  constructor
  · rintro ⟨d, ρ', h, q⟩
    simp only [ev] at h
    split at h
    · rename_i e1
      split at h
      · rename_i hl; cases h; exact ⟨_, _, e1, _, rfl, hl, q⟩
      · cases h
    · cases h
  · rintro ⟨x, ρ1, e1, xs, rfl, hl, q⟩; exact ⟨_, _, by simp only [ev, e1, hl, if_true], q⟩
theorem wp_lst {as : E} : wpE C (.lst as) ρ Q ↔ wpE C as ρ fun x ρ1 => ∃ xs, x = .tup xs ∧ lenOk xs.length = true ∧ Q (.lst xs) ρ1 := by
  constructor
  · rintro ⟨d, ρ', h, q⟩
    simp only [ev] at h
    split at h
    · rename_i e1
      split at h
      · rename_i hl; cases h; exact ⟨_, _, e1, _, rfl, hl, q⟩
      · cases h
    · cases h
  · rintro ⟨x, ρ1, e1, xs, rfl, hl, q⟩; exact ⟨_, _, by simp only [ev, e1, hl, if_true], q⟩
theorem wp_aE {a r : E} : wpE C (.aE a r) ρ Q ↔ wpE C a ρ fun x ρ1 => wpE C r ρ1 fun y ρ2 => ∃ xs, y = .tup xs ∧ Q (.tup (x :: xs)) ρ2 := by
  constructor
  · rintro ⟨d, ρ', h, q⟩
    simp only [ev] at h
    split at h
    · rename_i x ρ1 e1
      split at h
      · rename_i e2; cases h; exact ⟨_, _, e1, _, _, e2, _, rfl, q⟩
      · cases h
    · cases h
  · rintro ⟨x, ρ1, e1, y, ρ2, e2, xs, rfl, q⟩; exact ⟨_, _, by simp only [ev, e1, e2], q⟩
theorem wp_aS {a r : E} : wpE C (.aS a r) ρ Q ↔ wpE C a ρ fun x ρ1 => ∃ ys, seqOf x = some ys ∧ wpE C r ρ1 fun y ρ2 => ∃ xs, y = .tup xs ∧ Q (.tup (ys ++ xs)) ρ2 := by
  constructor
  · rintro ⟨d, ρ', h, q⟩
    simp only [ev] at h
    split at h
    · rename_i x ρ1 e1
      split at h
      · rename_i ys e3
        split at h
        · rename_i e2; cases h; exact ⟨_, _, e1, _, e3, _, _, e2, _, rfl, q⟩
        · cases h
      · cases h
    · cases h
  · rintro ⟨x, ρ1, e1, ys, e3, y, ρ2, e2, xs, rfl, q⟩; exact ⟨_, _, by simp only [ev, e1, e2, e3], q⟩
theorem wp_ix {a i : E} : wpE C (.ix a i) ρ Q ↔ wpE C a ρ fun x ρ1 => wpE C i ρ1 fun y ρ2 => ∃ z, ixD x y = some z ∧ Q z ρ2 := by
  constructor
  · rintro ⟨d, ρ', h, q⟩
    simp only [ev] at h
    split at h
    · rename_i x ρ1 e1
      split at h
      · rename_i y ρ2 e2
        rw [Option.map_eq_some_iff] at h
        obtain ⟨z, hz, ez⟩ := h
        cases ez
        exact ⟨x, ρ1, e1, y, _, e2, d, hz, q⟩
      · cases h
    · cases h
  · rintro ⟨x, ρ1, e1, y, ρ2, e2, z, hz, q⟩
    exact ⟨z, ρ2, by simp only [ev, e1, e2, hz, Option.map_some], q⟩
theorem wp_sl {a lo hi : E} : wpE C (.sl a lo hi) ρ Q ↔ wpE C a ρ fun x ρ1 => wpE C lo ρ1 fun l ρ2 => wpE C hi ρ2 fun h ρ3 => ∃ l' h' z, optI l = some l' ∧ optI h = some h' ∧ slD x l' h' = some z ∧ Q z ρ3 := by
  constructor
  · rintro ⟨d, ρ', h, q⟩
    simp only [ev] at h
    split at h
    · rename_i x ρ1 e1
      split at h
      · rename_i l ρ2 e2
        split at h
        · rename_i hh ρ3 e3
          split at h
          · rename_i l' h' e4 e5
            rw [Option.map_eq_some_iff] at h
            obtain ⟨z, hz, ez⟩ := h
            cases ez
            exact ⟨x, ρ1, e1, l, ρ2, e2, hh, _, e3, l', h', d, e4, e5, hz, q⟩
          · cases h
        · cases h
      · cases h
    · cases h
  · rintro ⟨x, ρ1, e1, l, ρ2, e2, hh, ρ3, e3, l', h', z, e4, e5, hz, q⟩
    exact ⟨z, ρ3, by simp only [ev, e1, e2, e3, e4, e5, hz, Option.map_some], q⟩
theorem wp_fld {a : E} {c j : Nat} : wpE C (.fld a c j) ρ Q ↔ wpE C a ρ fun x ρ1 => ∃ fs z, x = .tup fs ∧ fs[j]? = some z ∧ Q z ρ1 := by
  constructor
  · rintro ⟨d, ρ', h, q⟩
    simp only [ev] at h
    split at h
    · rename_i fs ρ1 e1
      rw [Option.map_eq_some_iff] at h
      obtain ⟨z, hz, ez⟩ := h
      cases ez
      exact ⟨_, _, e1, fs, d, rfl, hz, q⟩
    · cases h
  · rintro ⟨x, ρ1, e1, fs, z, rfl, hz, q⟩
    exact ⟨z, ρ1, by simp only [ev, e1, hz, Option.map_some], q⟩
theorem wp_call {f : Nat} {as : E} : wpE C (.call f as) ρ Q ↔ wpE C as ρ fun x ρ1 => ∃ xs r outs, x = .tup xs ∧ C f xs = some (r, outs) ∧ ∃ ρ2, ev.putIo ρ1 as outs = some ρ2 ∧ Q r ρ2 := by
  constructor
  · rintro ⟨d, ρ', h, q⟩
    simp only [ev] at h
    split at h
    · rename_i xs ρ1 e1
      split at h
      · rename_i r outs e2
        rw [Option.map_eq_some_iff] at h
        obtain ⟨z, hz, ez⟩ := h
        cases ez
        exact ⟨_, _, e1, xs, _, outs, rfl, e2, _, hz, q⟩
      · cases h
    · cases h
  · rintro ⟨x, ρ1, e1, xs, r, outs, rfl, e2, ρ2, e3, q⟩
    exact ⟨r, ρ2, by simp only [ev, e1, e2, e3, Option.map_some], q⟩
theorem wp_mcall {f : Nat} {as : E} : wpE C (.mcall f as) ρ Q ↔ wpE C (.call f as) ρ Q := by
  unfold wpE; simp only [ev]
theorem wp_mk {c f : Nat} {as : E} : wpE C (.mk c f as) ρ Q ↔ wpE C as ρ fun x ρ1 => ∃ xs o outs, x = .tup xs ∧ C f (.tup [] :: xs) = some (.non, o :: outs) ∧ ∃ ρ2, ev.putIo ρ1 as outs = some ρ2 ∧ Q o ρ2 := by
  constructor
  · rintro ⟨d, ρ', h, q⟩
    simp only [ev] at h
    split at h
    · rename_i xs ρ1 e1
      split at h
      · rename_i o outs e2
        rw [Option.map_eq_some_iff] at h
        obtain ⟨z, hz, ez⟩ := h
        cases ez
        exact ⟨_, _, e1, xs, _, outs, rfl, e2, _, hz, q⟩
      · cases h
    · cases h
  · rintro ⟨x, ρ1, e1, xs, o, outs, rfl, e2, ρ2, e3, q⟩
    exact ⟨o, ρ2, by simp only [ev, e1, e2, e3, Option.map_some], q⟩
theorem wp_aio {p r : E} : wpE C (.aio p r) ρ Q ↔ wpE C r ρ fun y ρ1 => ∃ xs x up, y = .tup xs ∧ loc ρ1 p = some (x, up) ∧ Q (.tup (x :: xs)) ρ1 := by
  constructor
  · rintro ⟨d, ρ', h, q⟩
    simp only [ev] at h
    split at h
    · rename_i xs ρ1 e1
      split at h
      · rename_i x up e2; cases h; exact ⟨_, _, e1, _, _, _, rfl, e2, q⟩
      · cases h
    · cases h
  · rintro ⟨y, ρ1, e1, xs, x, up, rfl, e2, q⟩; exact ⟨_, _, by simp only [ev, e1, e2], q⟩
theorem wp_abw {p r : E} : wpE C (.abw p r) ρ Q ↔ wpE C r ρ fun y ρ1 => ∃ xs x up, y = .tup xs ∧ loc ρ1 p = some (x, up) ∧ Q (.tup (x :: xs)) ρ1 := by
  constructor
  · rintro ⟨d, ρ', h, q⟩
    simp only [ev] at h
    split at h
    · rename_i xs ρ1 e1
      split at h
      · rename_i x up e2; cases h; exact ⟨_, _, e1, _, _, _, rfl, e2, q⟩
      · cases h
    · cases h
  · rintro ⟨y, ρ1, e1, xs, x, up, rfl, e2, q⟩; exact ⟨_, _, by simp only [ev, e1, e2], q⟩
theorem wp_bi {b : Bi} {as : E} : wpE C (.bi b as) ρ Q ↔ wpE C as ρ fun x ρ1 => ∃ xs z, x = .tup xs ∧ biD b xs = some z ∧ Q z ρ1 := by
  constructor
  · rintro ⟨d, ρ', h, q⟩
    simp only [ev] at h
    split at h
    · rename_i xs ρ1 e1
      rw [Option.map_eq_some_iff] at h
      obtain ⟨z, hz, ez⟩ := h
      cases ez
      exact ⟨_, _, e1, xs, d, rfl, hz, q⟩
    · cases h
  · rintro ⟨x, ρ1, e1, xs, z, rfl, hz, q⟩
    exact ⟨z, ρ1, by simp only [ev, e1, hz, Option.map_some], q⟩
theorem wp_pur {e : E} : wpE C (.pur e) ρ Q ↔ wpE C e ρ fun x _ => Q x ρ := by
  constructor
  · rintro ⟨d, ρ', h, q⟩
    simp only [ev] at h
    split at h
    · rename_i e1; cases h; exact ⟨_, _, e1, q⟩
    · cases h
  · rintro ⟨x, ρ1, e1, q⟩; exact ⟨_, _, by simp only [ev, e1], q⟩
theorem wp_sq {e : E} : wpE C (.sq e) ρ Q ↔ wpE C e ρ fun x ρ1 => ∃ xs, seqOf x = some xs ∧ Q (.lst xs) ρ1 := by
  constructor
  · rintro ⟨d, ρ', h, q⟩
    simp only [ev] at h
    split at h
    · rename_i x ρ1 e1
      rw [Option.map_eq_some_iff] at h
      obtain ⟨z, hz, ez⟩ := h
      cases ez
      exact ⟨_, _, e1, z, hz, q⟩
    · cases h
  · rintro ⟨x, ρ1, e1, xs, hx, q⟩; exact ⟨_, _, by simp only [ev, e1, hx, Option.map_some], q⟩
theorem wp_rg1 {a : E} : wpE C (.rg1 a) ρ Q ↔ wpE C a ρ fun x ρ1 => ∃ j, x = .int j ∧ smallI j = true ∧ Q (.lst (rangeD 0 j)) ρ1 := by
  constructor
  · rintro ⟨d, ρ', h, q⟩
    simp only [ev] at h
    split at h
    · rename_i j ρ1 e1
      split at h
      · rename_i hs; cases h; exact ⟨_, _, e1, j, rfl, hs, q⟩
      · cases h
    · cases h
  · rintro ⟨x, ρ1, e1, j, rfl, hs, q⟩; exact ⟨_, _, by simp only [ev, e1, hs, if_true], q⟩
theorem wp_rg2 {a b : E} : wpE C (.rg2 a b) ρ Q ↔ wpE C a ρ fun x ρ1 => wpE C b ρ1 fun y ρ2 => ∃ i j, x = .int i ∧ y = .int j ∧ (smallI i && smallI j) = true ∧ Q (.lst (rangeD i j)) ρ2 := by
  constructor
  · rintro ⟨d, ρ', h, q⟩
    simp only [ev] at h
    split at h
    · rename_i i ρ1 e1
      split at h
      · rename_i j ρ2 e2
        split at h
        · rename_i hs; cases h; exact ⟨_, _, e1, _, _, e2, i, j, rfl, rfl, hs, q⟩
        · cases h
      · cases h
    · cases h
  · rintro ⟨x, ρ1, e1, y, ρ2, e2, i, j, rfl, rfl, hs, q⟩; exact ⟨_, _, by simp only [ev, e1, e2, hs, if_true], q⟩
theorem wp_en {a : E} : wpE C (.en a) ρ Q ↔ wpE C a ρ fun x ρ1 => ∃ xs, seqOf x = some xs ∧ Q (.lst (enumD 0 xs)) ρ1 := by
  constructor
  · rintro ⟨d, ρ', h, q⟩
    simp only [ev] at h
    split at h
    · rename_i x ρ1 e1
      rw [Option.map_eq_some_iff] at h
      obtain ⟨z, hz, ez⟩ := h
      cases ez
      exact ⟨_, _, e1, z, hz, q⟩
    · cases h
  · rintro ⟨x, ρ1, e1, xs, hx, q⟩; exact ⟨_, _, by simp only [ev, e1, hx, Option.map_some], q⟩
theorem wp_zp {a b : E} : wpE C (.zp a b) ρ Q ↔ wpE C a ρ fun x ρ1 => wpE C b ρ1 fun y ρ2 => ∃ xs ys, seqOf x = some xs ∧ seqOf y = some ys ∧ Q (.lst (zipD xs ys)) ρ2 := by
  constructor
  · rintro ⟨d, ρ', h, q⟩
    simp only [ev] at h
    split at h
    · rename_i x ρ1 e1
      split at h
      · rename_i y ρ2 e2
        split at h
        · rename_i xs ys h1 h2; cases h; exact ⟨_, _, e1, _, _, e2, xs, ys, h1, h2, q⟩
        · cases h
      · cases h
    · cases h
  · rintro ⟨x, ρ1, e1, y, ρ2, e2, xs, ys, h1, h2, q⟩; exact ⟨_, _, by simp only [ev, e1, e2, h1, h2], q⟩
/-! ### comprehensions -/
/-- a clause's turn -/
def turnK (C : Calls) (tg : Tg) (cond elt : E) (d : D) (ρ : Rho) : Option (Option D × Rho) := match setTg tg d ρ with
  | some ρa => match (if isCt cond then some (.bl true, ρa) else ev C cond ρa) with
    | some (.bl true, ρb) => match ev C elt ρb with
      | some (y, ρc) => some (some y, back ρ tg.slots ρc)
      | none => none
    | some (.bl false, ρb) => some (none, back ρ tg.slots ρb)
    | _ => none
  | none => none
theorem wp_comp {tg : Tg} {src cond elt : E} : wpE C (.comp tg src cond elt) ρ Q ↔ wpE C src ρ fun l ρ1 => ∃ items ys ρ2, l = .lst items ∧ loopC (turnK C tg cond elt) items ρ1 = some (ys, ρ2) ∧ lenOk ys.length = true ∧ Q (.lst ys) ρ2 := by
  constructor
  · rintro ⟨d, ρ', h, q⟩
    simp only [ev] at h
    split at h
    · rename_i items ρ1 e1
      split at h
      · rename_i ys ρ2 e2
        split at h
        · rename_i hl; cases h; exact ⟨_, _, e1, items, ys, _, rfl, e2, hl, q⟩
        · cases h
      · cases h
    · cases h
  · rintro ⟨l, ρ1, e1, items, ys, ρ2, rfl, e2, hl, q⟩
    refine ⟨_, ρ2, ?_, q⟩
    simp only [ev, e1]
    show (match loopC (turnK C tg cond elt) items ρ1 with
      | some (ys, ρ2) => (if lenOk ys.length = true then some (D.lst ys, ρ2) else none)
      | none => none) = _
    rw [e2]
    simp only [hl, if_true]
/-- a turn by its parts -/
def wpT (C : Calls) (tg : Tg) (cond elt : E) (d : D) (ρ : Rho) (R : Option D → Rho → Prop) : Prop := ∃ ρa, setTg tg d ρ = some ρa ∧ wpE C (if isCt cond then .ct else cond) ρa fun c ρb => ∃ b, c = .bl b ∧ if b = true then wpE C elt ρb fun y ρc => R (some y) (back ρ tg.slots ρc) else R none (back ρ tg.slots ρb)
theorem turn_of {tg : Tg} {cond elt : E} {d : D} {R : Option D → Rho → Prop} (h : wpT C tg cond elt d ρ R) : ∃ o ρ', turnK C tg cond elt d ρ = some (o, ρ') ∧ R o ρ' := by
  obtain ⟨ρa, h1, c, ρb, h2, b, rfl, h3⟩ := h
  have e2 : (if isCt cond then some (D.bl true, ρa) else ev C cond ρa) = some (.bl b, ρb) := by
    by_cases hc : isCt cond = true
    · rw [if_pos hc] at h2 ⊢; simp only [ev] at h2; exact h2
    · rw [if_neg hc] at h2 ⊢; exact h2
  cases b with
  | true =>
    obtain ⟨y, ρc, h4, h5⟩ := h3
    exact ⟨_, _, by simp only [turnK, h1, e2, h4], h5⟩
  | false => exact ⟨_, _, by simp only [turnK, h1, e2], h3⟩
/-- by an invariant of what is left and what is gathered -/
theorem comp_inv {tg : Tg} {cond elt : E} (I : List D → List D → Rho → Prop) : ∀ {items : List D} {acc : List D} {ρ1 : Rho}, I items acc ρ1 → (∀ d ds acc ρ, I (d :: ds) acc ρ → wpT C tg cond elt d ρ fun o ρ' => I ds (acc ++ o.toList) ρ') →
    ∃ ys ρ2, loopC (turnK C tg cond elt) items ρ1 = some (ys, ρ2) ∧ I [] (acc ++ ys) ρ2
  | [], acc, ρ1, h, _ => ⟨[], ρ1, rfl, by simpa using h⟩
  | d :: ds, acc, ρ1, h, k => by
    obtain ⟨o, ρ', h1, h2⟩ := turn_of (k d ds acc ρ1 h)
    obtain ⟨ys, ρ2, h3, h4⟩ := comp_inv I h2 k
    cases o with
    | none => exact ⟨ys, ρ2, by simp only [loopC, h1]; exact h3, by simpa using h4⟩
    | some y => exact ⟨y :: ys, ρ2, by simp only [loopC, h1, h3], by simpa using h4⟩
/-- a turn that leaves the frame: a plain map -/
theorem lc_mapK {tg : Tg} {cond elt : E} {g : D → Option D} {items : List D} (k : ∀ d ∈ items, wpT C tg cond elt d ρ fun o ρ' => o = g d ∧ ρ' = ρ) : loopC (turnK C tg cond elt) items ρ = some (items.filterMap g, ρ) := by
  induction items with
  | nil => rfl
  | cons d ds ih =>
    obtain ⟨o, ρ', h1, h2, h3⟩ := turn_of (k d List.mem_cons_self)
    subst h2 h3
    have ih := ih fun x hx => k x (List.mem_cons_of_mem _ hx)
    cases hg : g d with
    | none => rw [hg] at h1; simp only [loopC, h1, ih, List.filterMap_cons, hg]
    | some y => rw [hg] at h1; simp only [loopC, h1, ih, List.filterMap_cons, hg]
end
/-! ### statements -/
structure Post4 where
  nx : Rho → Prop
  rt : D → Rho → Prop
  bk : Rho → Prop := fun _ => False
  ct : Rho → Prop := fun _ => False
def Post4.of (P : Post4) : Fl → Rho → Prop
  | .nx, ρ => P.nx ρ
  | .rt d, ρ => P.rt d ρ
  | .bk, ρ => P.bk ρ
  | .ct, ρ => P.ct ρ
section
variable {C : Calls} {ρ : Rho} {P : Post4}
def wpS (C : Calls) (s : S) (ρ : Rho) (P : Post4) [Fx P] : Prop := ∃ fl ρ', ex C s ρ = some (fl, ρ') ∧ P.of fl ρ'
theorem wpS_of {s : S} {fl : Fl} {ρ' : Rho} (h : ex C s ρ = some (fl, ρ')) : wpS C s ρ P ↔ P.of fl ρ' := by
  constructor
  · rintro ⟨_, _, h1, h2⟩; rw [h] at h1; cases h1; exact h2
  · intro q; exact ⟨_, _, h, q⟩
theorem ws_nil : wpS C .nil ρ P ↔ P.nx ρ := wpS_of (fl := .nx) (ρ' := ρ) rfl
theorem ws_pass : wpS C .pass ρ P ↔ P.nx ρ := wpS_of (fl := .nx) (ρ' := ρ) rfl
theorem ws_retn : wpS C .retn ρ P ↔ P.rt .non ρ := wpS_of (fl := .rt .non) (ρ' := ρ) rfl
theorem ws_cont : wpS C .cont ρ P ↔ P.ct ρ := wpS_of (fl := .ct) (ρ' := ρ) rfl
theorem ws_brk : wpS C .brk ρ P ↔ P.bk ρ := wpS_of (fl := .bk) (ρ' := ρ) rfl
theorem ws_cons {s r : S} : wpS C (.cons s r) ρ P ↔ wpS C s ρ { P with nx := fun ρ1 => wpS C r ρ1 P } := by
  constructor
  · rintro ⟨fl, ρ', h, q⟩
    simp only [ex] at h
    split at h
    · rename_i ρ1 e1; exact ⟨_, _, e1, fl, ρ', h, q⟩
    · rename_i hn
      refine ⟨fl, ρ', h, ?_⟩
      cases fl with
      | nx => exact (hn _ h).elim
      | rt d => exact q
      | bk => exact q
      | ct => exact q
  · rintro ⟨fl, ρ1, e1, q⟩
    cases fl with
    | nx => obtain ⟨fl2, ρ2, e2, q⟩ := q; exact ⟨fl2, ρ2, by simp only [ex, e1, e2], q⟩
    | rt d => exact ⟨.rt d, ρ1, by simp only [ex, e1], q⟩
    | bk => exact ⟨.bk, ρ1, by simp only [ex, e1], q⟩
    | ct => exact ⟨.ct, ρ1, by simp only [ex, e1], q⟩
theorem ws_ret {e : E} : wpS C (.ret e) ρ P ↔ wpE C e ρ P.rt := by
  constructor
  · rintro ⟨fl, ρ', h, q⟩
    simp only [ex] at h
    split at h
    · rename_i e1; cases h; exact ⟨_, _, e1, q⟩
    · cases h
  · rintro ⟨d, ρ', e1, q⟩; exact ⟨.rt d, ρ', by simp only [ex, e1], q⟩
theorem ws_asg {i : Nat} {e : E} : wpS C (.asg i e) ρ P ↔ wpE C e ρ fun d ρ1 => P.nx (ρ1.set i d) := by
  constructor
  · rintro ⟨fl, ρ', h, q⟩
    simp only [ex] at h
    split at h
    · rename_i e1; cases h; exact ⟨_, _, e1, q⟩
    · cases h
  · rintro ⟨d, ρ', e1, q⟩; exact ⟨.nx, _, by simp only [ex, e1], q⟩
theorem ws_drop {e : E} : wpS C (.drop e) ρ P ↔ wpE C e ρ fun _ ρ1 => P.nx ρ1 := by
  constructor
  · rintro ⟨fl, ρ', h, q⟩
    simp only [ex] at h
    split at h
    · rename_i e1; cases h; exact ⟨_, _, e1, q⟩
    · cases h
  · rintro ⟨d, ρ', e1, q⟩; exact ⟨.nx, _, by simp only [ex, e1], q⟩
theorem ws_asgT {is : List Nat} {e : E} : wpS C (.asgT is e) ρ P ↔ wpE C e ρ fun d ρ1 => ∃ ds ρ2, d = .tup ds ∧ setMany is ds ρ1 = some ρ2 ∧ P.nx ρ2 := by
  constructor
  · rintro ⟨fl, ρ', h, q⟩
    simp only [ex] at h
    split at h
    · rename_i ds ρ1 e1
      rw [Option.map_eq_some_iff] at h
      obtain ⟨ρ2, h2, e2⟩ := h
      cases e2
      exact ⟨_, _, e1, ds, _, rfl, h2, q⟩
    · cases h
  · rintro ⟨d, ρ1, e1, ds, ρ2, rfl, h2, q⟩; exact ⟨.nx, ρ2, by simp only [ex, e1, h2, Option.map_some], q⟩
theorem ws_asgF {p : E} {c j : Nat} {e : E} : wpS C (.asgF p c j e) ρ P ↔ wpE C e ρ fun d ρ1 => ∃ fs up, loc ρ1 p = some (.tup fs, up) ∧ (if j < fs.length then P.nx (up (.tup (fs.set j d))) else j = fs.length ∧ P.nx (up (.tup (fs ++ [d])))) := by
  constructor
  · rintro ⟨fl, ρ', h, q⟩
    simp only [ex] at h
    split at h
    · rename_i d ρ1 e1
      split at h
      · rename_i fs up e2
        refine ⟨d, ρ1, e1, fs, up, e2, ?_⟩
        split at h
        · rename_i hj; cases h; rw [if_pos hj]; exact q
        · rename_i hj
          split at h
          · rename_i hj2; cases h; rw [if_neg hj]; exact ⟨hj2, q⟩
          · cases h
      · cases h
    · cases h
  · rintro ⟨d, ρ1, e1, fs, up, e2, q⟩
    by_cases hj : j < fs.length
    · rw [if_pos hj] at q; exact ⟨.nx, _, by simp only [ex, e1, e2, if_pos hj], q⟩
    · rw [if_neg hj] at q; exact ⟨.nx, _, by simp only [ex, e1, e2, if_neg hj, if_pos q.1], q.2⟩
theorem ws_setI {p i e : E} : wpS C (.setI p i e) ρ P ↔ wpE C e ρ fun d ρ1 => wpE C i ρ1 fun y ρ2 => ∃ k xs up j, y = .int k ∧ loc ρ2 p = some (.lst xs, up) ∧ ixN xs.length k = some j ∧ P.nx (up (.lst (xs.set j d))) := by
  constructor
  · rintro ⟨fl, ρ', h, q⟩
    simp only [ex] at h
    split at h
    · rename_i d ρ1 e1
      split at h
      · rename_i k ρ2 e2
        split at h
        · rename_i xs up e3
          rw [Option.map_eq_some_iff] at h
          obtain ⟨j, hj, e4⟩ := h
          cases e4
          exact ⟨_, _, e1, _, _, e2, k, xs, up, j, rfl, e3, hj, q⟩
        · cases h
      · cases h
    · cases h
  · rintro ⟨d, ρ1, e1, y, ρ2, e2, k, xs, up, j, rfl, e3, hj, q⟩
    exact ⟨.nx, _, by simp only [ex, e1, e2, e3, hj, Option.map_some], q⟩
theorem ws_aug {o : O2} {i : Nat} {e : E} : wpS C (.aug o i e) ρ P ↔ wpE C e ρ fun d ρ1 => ∃ z, augD o (ρ1.getD i .non) d = some z ∧ P.nx (ρ1.set i z) := by
  constructor
  · rintro ⟨fl, ρ', h, q⟩
    simp only [ex] at h
    split at h
    · rename_i d ρ1 e1
      rw [Option.map_eq_some_iff] at h
      obtain ⟨z, hz, e2⟩ := h
      cases e2
      exact ⟨_, _, e1, z, hz, q⟩
    · cases h
  · rintro ⟨d, ρ1, e1, z, hz, q⟩; exact ⟨.nx, _, by simp only [ex, e1, hz, Option.map_some], q⟩
theorem ws_augI {o : O2} {p i e : E} : wpS C (.augI o p i e) ρ P ↔ wpE C i ρ fun y ρ1 => ∃ k xs up j x, y = .int k ∧ loc ρ1 p = some (.lst xs, up) ∧ ixN xs.length k = some j ∧ xs[j]? = some x ∧ wpE C e ρ1 fun d ρ2 => ∃ z xs2 up2 j2, augD o x d = some z ∧ loc ρ2 p = some (.lst xs2, up2) ∧ ixN xs2.length k = some j2 ∧ P.nx (up2 (.lst (xs2.set j2 z))) := by
  constructor
  · rintro ⟨fl, ρ', h, q⟩
    simp only [ex] at h
    split at h
    · rename_i k ρ1 e1
      split at h
      · rename_i xs up e2
        split at h
        · rename_i j x hjx
          rw [Option.bind_eq_some_iff] at hjx
          obtain ⟨j', hj, hjx⟩ := hjx
          rw [Option.map_eq_some_iff] at hjx
          obtain ⟨x', hx, ee⟩ := hjx
          cases ee
          split at h
          · rename_i d ρ2 e3
            split at h
            · rename_i z hz
              split at h
              · rename_i xs2 up2 e4
                rw [Option.map_eq_some_iff] at h
                obtain ⟨j2, hj2, ee⟩ := h
                cases ee
                exact ⟨_, _, e1, k, xs, up, j, x, rfl, e2, hj, hx, _, _, e3, z, xs2, up2, j2, hz, e4, hj2, q⟩
              · cases h
            · cases h
          · cases h
        · cases h
      · cases h
    · cases h
  · rintro ⟨y, ρ1, e1, k, xs, up, j, x, rfl, e2, hj, hx, d, ρ2, e3, z, xs2, up2, j2, hz, e4, hj2, q⟩
    exact ⟨.nx, _, by simp only [ex, e1, e2, hj, hx, e3, hz, e4, hj2, Option.map_some, Option.bind_some], q⟩
theorem ws_app {p e : E} : wpS C (.app p e) ρ P ↔ wpE C e ρ fun d ρ1 => ∃ xs up, loc ρ1 p = some (.lst xs, up) ∧ lenOk xs.length = true ∧ P.nx (up (.lst (xs ++ [d]))) := by
  constructor
  · rintro ⟨fl, ρ', h, q⟩
    simp only [ex] at h
    split at h
    · rename_i d ρ1 e1
      split at h
      · rename_i xs up e2
        split at h
        · rename_i hl; cases h; exact ⟨_, _, e1, xs, up, e2, hl, q⟩
        · cases h
      · cases h
    · cases h
  · rintro ⟨d, ρ1, e1, xs, up, e2, hl, q⟩; exact ⟨.nx, _, by simp only [ex, e1, e2, hl, if_true], q⟩
theorem ws_ext {p e : E} : wpS C (.ext p e) ρ P ↔ wpE C e ρ fun d ρ1 => ∃ ys xs up, seqOf d = some ys ∧ loc ρ1 p = some (.lst xs, up) ∧ lenOk (xs.length + ys.length) = true ∧ P.nx (up (.lst (xs ++ ys))) := by
  constructor
  · rintro ⟨fl, ρ', h, q⟩
    simp only [ex] at h
    split at h
    · rename_i d ρ1 e1
      split at h
      · rename_i ys xs up e2 e3
        split at h
        · rename_i hl; cases h; exact ⟨_, _, e1, ys, xs, up, e2, e3, hl, q⟩
        · cases h
      · cases h
    · cases h
  · rintro ⟨d, ρ1, e1, ys, xs, up, e2, e3, hl, q⟩; exact ⟨.nx, _, by simp only [ex, e1, e2, e3, hl, if_true], q⟩
theorem ws_ins {p i e : E} : wpS C (.ins p i e) ρ P ↔ wpE C i ρ fun y ρ1 => wpE C e ρ1 fun d ρ2 => ∃ k xs up, y = .int k ∧ loc ρ2 p = some (.lst xs, up) ∧ 0 ≤ k ∧ k.toNat ≤ xs.length ∧ lenOk xs.length = true ∧ P.nx (up (.lst (xs.take k.toNat ++ d :: xs.drop k.toNat))) := by
  constructor
  · rintro ⟨fl, ρ', h, q⟩
    simp only [ex] at h
    split at h
    · rename_i k ρ1 e1
      split at h
      · rename_i d ρ2 e2
        split at h
        · rename_i xs up e3
          split at h
          · rename_i hl
            cases h
            simp only [Bool.and_eq_true, decide_eq_true_eq] at hl
            exact ⟨_, _, e1, _, _, e2, k, xs, up, rfl, e3, hl.1.1, hl.1.2, hl.2, q⟩
          · cases h
        · cases h
      · cases h
    · cases h
  · rintro ⟨y, ρ1, e1, d, ρ2, e2, k, xs, up, rfl, e3, h1, h2, h3, q⟩
    exact ⟨.nx, _, by simp only [ex, e1, e2, e3, h3]; rw [if_pos (by simp [h1, h2])], q⟩
theorem ws_ifs {c : E} {a b : S} : wpS C (.ifs c a b) ρ P ↔ wpE C c ρ fun x ρ1 => ∃ z, x = .bl z ∧ if z = true then wpS C a ρ1 P else wpS C b ρ1 P := by
  constructor
  · rintro ⟨fl, ρ', h, q⟩
    simp only [ex] at h
    split at h
    · rename_i ρ1 e1; exact ⟨_, _, e1, true, rfl, _, _, h, q⟩
    · rename_i ρ1 e1; exact ⟨_, _, e1, false, rfl, _, _, h, q⟩
    · cases h
  · rintro ⟨x, ρ1, e1, z, rfl, q⟩
    cases z with
    | true => obtain ⟨y, ρ2, e2, q⟩ := q; exact ⟨_, _, by simp only [ex, e1, e2], q⟩
    | false => obtain ⟨y, ρ2, e2, q⟩ := q; exact ⟨_, _, by simp only [ex, e1, e2], q⟩
/-- a walk, by an invariant of what is left -/
theorem loop_inv {kills : List Nat} {tg : Tg} {body : S} {R : Fl → Rho → Prop} (I : List D → Rho → Prop) (hd : ∀ ρ, I [] ρ → R .nx ρ)
    (hs : ∀ d ds ρ, I (d :: ds) ρ → ∃ ρa, setTg tg d ρ = some ρa ∧ wpS C body ρa { nx := fun ρ2 => I ds (kill kills ρ2), ct := fun ρ2 => I ds (kill kills ρ2), bk := fun ρ2 => R .nx (kill kills ρ2), rt := fun d ρ2 => R (.rt d) ρ2 }) :
    ∀ {items : List D} {ρ : Rho}, I items ρ → ∃ fl ρ', loopF kills tg (fun ρ => ex C body ρ) items ρ = some (fl, ρ') ∧ R fl ρ'
  | [], ρ, h => ⟨.nx, ρ, rfl, hd ρ h⟩
  | d :: ds, ρ, h => by
    obtain ⟨ρa, h1, fl, ρ2, h2, q⟩ := hs d ds ρ h
    cases fl with
    | nx => obtain ⟨fl', ρ', h3, h4⟩ := loop_inv I hd hs (items := ds) q; exact ⟨fl', ρ', by simp only [loopF, h1, h2, h3], h4⟩
    | ct => obtain ⟨fl', ρ', h3, h4⟩ := loop_inv I hd hs (items := ds) q; exact ⟨fl', ρ', by simp only [loopF, h1, h2, h3], h4⟩
    | bk => exact ⟨_, _, by simp only [loopF, h1, h2], q⟩
    | rt d => exact ⟨_, _, by simp only [loopF, h1, h2], q⟩
theorem ws_for {tg : Tg} {src : E} {body : S} {kills hide : List Nat} : wpS C (.for_ tg src body kills hide) ρ P ↔ wpE C src ρ fun l ρ1 => ∃ items, l = .lst items ∧ ∃ fl ρ2, loopF kills tg (fun ρ => ex C body ρ) items ρ1 = some (fl, ρ2) ∧ P.of fl (back ρ hide ρ2) := by
  constructor
  · rintro ⟨fl, ρ', h, q⟩
    simp only [ex] at h
    split at h
    · rename_i items ρ1 e1
      rw [Option.map_eq_some_iff] at h
      obtain ⟨⟨fl', ρ2⟩, h2, e2⟩ := h
      cases e2
      exact ⟨_, _, e1, items, rfl, _, _, h2, q⟩
    · cases h
  · rintro ⟨l, ρ1, e1, items, rfl, fl, ρ2, h2, q⟩
    exact ⟨fl, _, by simp only [ex, e1, h2, Option.map_some], q⟩
/-- for, by an invariant of what is left -/
theorem for_inv {tg : Tg} {src : E} {body : S} {kills hide : List Nat} (I : List D → Rho → Prop) (h0 : wpE C src ρ fun l ρ1 => ∃ items, l = .lst items ∧ I items ρ1) (hd : ∀ ρ2, I [] ρ2 → P.nx (back ρ hide ρ2))
    (hs : ∀ d ds ρ1, I (d :: ds) ρ1 → ∃ ρa, setTg tg d ρ1 = some ρa ∧ wpS C body ρa { nx := fun ρ2 => I ds (kill kills ρ2), ct := fun ρ2 => I ds (kill kills ρ2), bk := fun ρ2 => P.nx (back ρ hide (kill kills ρ2)), rt := fun d ρ2 => P.rt d (back ρ hide ρ2) }) : wpS C (.for_ tg src body kills hide) ρ P := by
  rw [ws_for]
  refine wpE_mono h0 fun l ρ1 ⟨items, e, h⟩ => ⟨items, e, ?_⟩
  refine loop_inv (R := fun fl ρ2 => P.of fl (back ρ hide ρ2)) I hd (fun d ds ρ1 h => ?_) h
  exact hs d ds ρ1 h
/-- while, by an invariant with a measure -/
theorem while_inv {c : E} {body : S} {kills : List Nat} (I : Nat → Rho → Prop) {n : Nat} (h0 : I n ρ)
    (hs : ∀ n ρ1, I n ρ1 → wpE C c ρ1 fun x ρ2 => ∃ z, x = .bl z ∧ if z = true then wpS C body ρ2 { nx := fun ρ3 => ∃ m, m < n ∧ I m (kill kills ρ3), ct := fun ρ3 => ∃ m, m < n ∧ I m (kill kills ρ3), bk := fun ρ3 => P.nx (kill kills ρ3), rt := fun d ρ3 => P.rt d ρ3 } else P.nx ρ2) : wpS C (.whl c body kills) ρ P := by
  have key : ∀ (k n : Nat) (ρ1 : Rho), n ≤ k → I n ρ1 → ∃ N fl ρ', iterW (fun ρ => ev C c ρ) (fun ρ => ex C body ρ) kills N ρ1 = some (fl, ρ') ∧ P.of fl ρ' := by
    intro k
    induction k with
    | zero =>
      intro n ρ1 hn h
      obtain ⟨x, ρ2, e1, z, rfl, q⟩ := hs n ρ1 h
      cases z with
      | false => exact ⟨1, .nx, ρ2, by simp only [iterW, e1], q⟩
      | true =>
        obtain ⟨fl, ρ3, e2, q⟩ := q
        cases fl with
        | nx => obtain ⟨m, hm, _⟩ := q; omega
        | ct => obtain ⟨m, hm, _⟩ := q; omega
        | bk => exact ⟨1, .nx, _, by simp only [iterW, e1, e2], q⟩
        | rt d => exact ⟨1, .rt d, _, by simp only [iterW, e1, e2], q⟩
    | succ k ih =>
      intro n ρ1 hn h
      obtain ⟨x, ρ2, e1, z, rfl, q⟩ := hs n ρ1 h
      cases z with
      | false => exact ⟨1, .nx, ρ2, by simp only [iterW, e1], q⟩
      | true =>
        obtain ⟨fl, ρ3, e2, q⟩ := q
        cases fl with
        | nx =>
          obtain ⟨m, hm, q⟩ := q
          obtain ⟨N, fl, ρ', e3, q⟩ := ih m _ (by omega) q
          exact ⟨N + 1, fl, ρ', by simp only [iterW, e1, e2, e3], q⟩
        | ct =>
          obtain ⟨m, hm, q⟩ := q
          obtain ⟨N, fl, ρ', e3, q⟩ := ih m _ (by omega) q
          exact ⟨N + 1, fl, ρ', by simp only [iterW, e1, e2, e3], q⟩
        | bk => exact ⟨1, .nx, _, by simp only [iterW, e1, e2], q⟩
        | rt d => exact ⟨1, .rt d, _, by simp only [iterW, e1, e2], q⟩
  obtain ⟨N, fl, ρ', e, q⟩ := key n n ρ (Nat.le_refl _) h0
  exact ⟨fl, ρ', by simp only [ex]; exact whileD_of e, q⟩
theorem wpS_mono {s : S} {P' : Post4} (h : wpS C s ρ P) (h1 : ∀ ρ, P.nx ρ → P'.nx ρ) (h2 : ∀ d ρ, P.rt d ρ → P'.rt d ρ) (h3 : ∀ ρ, P.bk ρ → P'.bk ρ) (h4 : ∀ ρ, P.ct ρ → P'.ct ρ) : wpS C s ρ P' := by
  obtain ⟨fl, ρ', h, q⟩ := h
  refine ⟨fl, ρ', h, ?_⟩
  cases fl with
  | nx => exact h1 _ q
  | rt d => exact h2 _ _ q
  | bk => exact h3 _ q
  | ct => exact h4 _ q
end
/-- a call, by its body -/
theorem call_of {fs : List Fn} {k i : Nat} {d : Fn} {ds : List D} {R : D → List D → Prop} (hk : 0 < k) (hi : fs[i]? = some d) (hl : ds.length = d.sg.ps.length)
    (h : wpS (callN fs (k - 1)) d.body (ds ++ List.replicate (d.nn - ds.length) .non) { nx := fun ρ => R .non (outsOf d.sg.ps ρ), rt := fun r ρ => R r (outsOf d.sg.ps ρ) }) : ∃ r outs, callN fs k i ds = some (r, outs) ∧ R r outs := by
  obtain ⟨k, rfl⟩ : ∃ k', k = k' + 1 := ⟨k - 1, by omega⟩
  obtain ⟨fl, ρ', h1, q⟩ := h
  have e : callN fs (k + 1) i ds = runF (callN fs k) d ds := by
    show (match fs[i]? with
      | some d => runF (callN fs k) d ds
      | none => none) = _
    rw [hi]
  rw [e]
  unfold runF
  rw [if_pos hl]
  simp only [Nat.add_sub_cancel] at h1
  rw [h1]
  cases fl with
  | nx => exact ⟨_, _, rfl, q⟩
  | rt d => exact ⟨_, _, rfl, q⟩
  | bk => exact False.elim q
  | ct => exact False.elim q
end DI
end
section
set_option Elab.async false
set_option linter.all false
set_option maxRecDepth 100000
/-! The rules in a form that a simplifier steps through from without. -/
namespace DI
open PySem
section
variable {α β : Type}
def OptW (o : Option α) (Q : α → Prop) [Fx Q] : Prop := ∃ z, o = some z ∧ Q z
def IntW (x : D) (Q : Int → Prop) [Fx Q] : Prop := ∃ i, x = .int i ∧ Q i
def BlW (x : D) (Q : Bool → Prop) [Fx Q] : Prop := ∃ i, x = .bl i ∧ Q i
def TupW (x : D) (Q : List D → Prop) [Fx Q] : Prop := ∃ i, x = .tup i ∧ Q i
def LstW (x : D) (Q : List D → Prop) [Fx Q] : Prop := ∃ i, x = .lst i ∧ Q i
def NeedW (b : Bool) (Q : Prop) [Fx Q] : Prop := b = true ∧ Q
def IfW (b : Bool) (P Q : Prop) [Fx P] [Fx Q] : Prop := if b = true then P else Q
theorem OptW_some {z : α} {Q : α → Prop} : OptW (some z) Q ↔ Q z := ⟨fun ⟨_, e, q⟩ => by cases e; exact q, fun q => ⟨_, rfl, q⟩⟩
theorem IntW_int {z : Int} {Q : Int → Prop} : IntW (.int z) Q ↔ Q z := ⟨fun ⟨_, e, q⟩ => by cases e; exact q, fun q => ⟨_, rfl, q⟩⟩
theorem BlW_bl {z : Bool} {Q : Bool → Prop} : BlW (.bl z) Q ↔ Q z := ⟨fun ⟨_, e, q⟩ => by cases e; exact q, fun q => ⟨_, rfl, q⟩⟩
theorem TupW_tup {z : List D} {Q : List D → Prop} : TupW (.tup z) Q ↔ Q z := ⟨fun ⟨_, e, q⟩ => by cases e; exact q, fun q => ⟨_, rfl, q⟩⟩
theorem LstW_lst {z : List D} {Q : List D → Prop} : LstW (.lst z) Q ↔ Q z := ⟨fun ⟨_, e, q⟩ => by cases e; exact q, fun q => ⟨_, rfl, q⟩⟩
theorem NeedW_true {Q : Prop} : NeedW true Q ↔ Q := ⟨fun h => h.2, fun h => ⟨rfl, h⟩⟩
theorem IfW_true {P Q : Prop} : IfW true P Q ↔ P := by simp [IfW]
theorem IfW_false {P Q : Prop} : IfW false P Q ↔ Q := by simp [IfW]
theorem IfW_cases {b : Bool} {P Q : Prop} (h1 : b = true → P) (h2 : b = false → Q) : IfW b P Q := by
  cases b
  · rw [IfW_false]; exact h2 rfl
  · rw [IfW_true]; exact h1 rfl
end
section
variable {C : Calls} {ρ : Rho} {Q : D → Rho → Prop} {P : Post4}
theorem wx_o2 {o : O2} {a b : E} : wpE C (.o2 o a b) ρ Q ↔ wpE C a ρ fun x ρ1 => wpE C b ρ1 fun y ρ2 => OptW (o2D o x y) fun z => Q z ρ2 := wp_o2
theorem wx_neg {a : E} : wpE C (.neg a) ρ Q ↔ wpE C a ρ fun x ρ1 => IntW x fun i => Q (.int (-i)) ρ1 := wp_neg
theorem wx_nt {a : E} : wpE C (.nt a) ρ Q ↔ wpE C a ρ fun x ρ1 => BlW x fun b => Q (.bl (!b)) ρ1 := wp_nt
theorem wx_cp {o : Cp} {a b : E} : wpE C (.cp o a b) ρ Q ↔ wpE C a ρ fun x ρ1 => wpE C b ρ1 fun y ρ2 => OptW (cpD o x y) fun z => Q (.bl z) ρ2 := wp_cp
theorem wx_ch {o1 o2 : Cp} {a b c : E} : wpE C (.ch o1 o2 a b c) ρ Q ↔ wpE C a ρ fun x ρ1 => wpE C b ρ1 fun y ρ2 => OptW (cpD o1 x y) fun z => IfW z (wpE C c ρ2 fun u ρ3 => OptW (cpD o2 y u) fun t => Q (.bl t) ρ3) (Q (.bl false) ρ2) := wp_ch
theorem wx_an {a b : E} : wpE C (.an a b) ρ Q ↔ wpE C a ρ fun x ρ1 => BlW x fun z => IfW z (wpE C b ρ1 fun y ρ2 => BlW y fun t => Q (.bl t) ρ2) (Q (.bl false) ρ1) := wp_an
theorem wx_orr {a b : E} : wpE C (.orr a b) ρ Q ↔ wpE C a ρ fun x ρ1 => BlW x fun z => IfW z (Q (.bl true) ρ1) (wpE C b ρ1 fun y ρ2 => BlW y fun t => Q (.bl t) ρ2) := wp_orr
theorem wx_ite {c a b : E} : wpE C (.ite c a b) ρ Q ↔ wpE C c ρ fun x ρ1 => BlW x fun z => IfW z (wpE C a ρ1 Q) (wpE C b ρ1 Q) := wp_ite
theorem wx_tup {as : E} : wpE C (.tup as) ρ Q ↔ wpE C as ρ fun x ρ1 => TupW x fun xs => NeedW (lenOk xs.length) (Q (.tup xs) ρ1) := wp_tup
theorem wx_lst {as : E} : wpE C (.lst as) ρ Q ↔ wpE C as ρ fun x ρ1 => TupW x fun xs => NeedW (lenOk xs.length) (Q (.lst xs) ρ1) := wp_lst
theorem wx_aE {a r : E} : wpE C (.aE a r) ρ Q ↔ wpE C a ρ fun x ρ1 => wpE C r ρ1 fun y ρ2 => TupW y fun xs => Q (.tup (x :: xs)) ρ2 := wp_aE
theorem wx_aS {a r : E} : wpE C (.aS a r) ρ Q ↔ wpE C a ρ fun x ρ1 => OptW (seqOf x) fun ys => wpE C r ρ1 fun y ρ2 => TupW y fun xs => Q (.tup (ys ++ xs)) ρ2 := wp_aS
theorem wx_ix {a i : E} : wpE C (.ix a i) ρ Q ↔ wpE C a ρ fun x ρ1 => wpE C i ρ1 fun y ρ2 => OptW (ixD x y) fun z => Q z ρ2 := wp_ix
theorem wx_sl {a lo hi : E} : wpE C (.sl a lo hi) ρ Q ↔ wpE C a ρ fun x ρ1 => wpE C lo ρ1 fun l ρ2 => wpE C hi ρ2 fun h ρ3 => OptW (optI l) fun l' => OptW (optI h) fun h' => OptW (slD x l' h') fun z => Q z ρ3 := by
  rw [wp_sl]
  constructor
  · intro h
    refine wpE_mono h fun x ρ1 h => wpE_mono h fun l ρ2 h => wpE_mono h fun h' ρ3 ⟨l', h', z, e1, e2, e3, q⟩ => ⟨l', e1, h', e2, z, e3, q⟩
  · intro h
    refine wpE_mono h fun x ρ1 h => wpE_mono h fun l ρ2 h => wpE_mono h fun h' ρ3 ⟨l', e1, h', e2, z, e3, q⟩ => ⟨l', h', z, e1, e2, e3, q⟩
theorem wx_fld {a : E} {c j : Nat} : wpE C (.fld a c j) ρ Q ↔ wpE C a ρ fun x ρ1 => TupW x fun fs => OptW fs[j]? fun z => Q z ρ1 := by
  rw [wp_fld]
  constructor
  · intro h; exact wpE_mono h fun x ρ1 ⟨fs, z, e1, e2, q⟩ => ⟨fs, e1, z, e2, q⟩
  · intro h; exact wpE_mono h fun x ρ1 ⟨fs, e1, z, e2, q⟩ => ⟨fs, z, e1, e2, q⟩
theorem wx_call {f : Nat} {as : E} : wpE C (.call f as) ρ Q ↔ wpE C as ρ fun x ρ1 => TupW x fun xs => OptW (C f xs) fun r => OptW (ev.putIo ρ1 as r.2) fun ρ2 => Q r.1 ρ2 := by
  rw [wp_call]
  constructor
  · intro h; exact wpE_mono h fun x ρ1 ⟨xs, r, outs, e1, e2, ρ2, e3, q⟩ => ⟨xs, e1, (r, outs), e2, ρ2, e3, q⟩
  · intro h; exact wpE_mono h fun x ρ1 ⟨xs, e1, ⟨r, outs⟩, e2, ρ2, e3, q⟩ => ⟨xs, r, outs, e1, e2, ρ2, e3, q⟩
theorem wx_mk {c f : Nat} {as : E} : wpE C (.mk c f as) ρ Q ↔ wpE C as ρ fun x ρ1 => TupW x fun xs => OptW (C f (.tup [] :: xs)) fun r => r.1 = .non ∧ ∃ o outs, r.2 = o :: outs ∧ OptW (ev.putIo ρ1 as outs) fun ρ2 => Q o ρ2 := by
  rw [wp_mk]
  constructor
  · intro h; exact wpE_mono h fun x ρ1 ⟨xs, o, outs, e1, e2, ρ2, e3, q⟩ => ⟨xs, e1, (.non, o :: outs), e2, rfl, o, outs, rfl, ρ2, e3, q⟩
  · intro h; exact wpE_mono h fun x ρ1 ⟨xs, e1, ⟨r, os⟩, e2, e4, o, outs, e5, ρ2, e3, q⟩ => ⟨xs, o, outs, e1, by simp only at e4 e5; subst e4 e5; exact e2, ρ2, e3, q⟩
theorem wx_aio {p r : E} : wpE C (.aio p r) ρ Q ↔ wpE C r ρ fun y ρ1 => TupW y fun xs => OptW (loc ρ1 p) fun l => Q (.tup (l.1 :: xs)) ρ1 := by
  rw [wp_aio]
  constructor
  · intro h; exact wpE_mono h fun x ρ1 ⟨xs, r, outs, e1, e2, q⟩ => ⟨xs, e1, (r, outs), e2, q⟩
  · intro h; exact wpE_mono h fun x ρ1 ⟨xs, e1, ⟨r, outs⟩, e2, q⟩ => ⟨xs, r, outs, e1, e2, q⟩
theorem wx_abw {p r : E} : wpE C (.abw p r) ρ Q ↔ wpE C r ρ fun y ρ1 => TupW y fun xs => OptW (loc ρ1 p) fun l => Q (.tup (l.1 :: xs)) ρ1 := by
  rw [wp_abw]
  constructor
  · intro h; exact wpE_mono h fun x ρ1 ⟨xs, r, outs, e1, e2, q⟩ => ⟨xs, e1, (r, outs), e2, q⟩
  · intro h; exact wpE_mono h fun x ρ1 ⟨xs, e1, ⟨r, outs⟩, e2, q⟩ => ⟨xs, r, outs, e1, e2, q⟩
theorem wx_bi {b : Bi} {as : E} : wpE C (.bi b as) ρ Q ↔ wpE C as ρ fun x ρ1 => TupW x fun xs => OptW (biD b xs) fun z => Q z ρ1 := by
  rw [wp_bi]
  constructor
  · intro h; exact wpE_mono h fun x ρ1 ⟨xs, z, e1, e2, q⟩ => ⟨xs, e1, z, e2, q⟩
  · intro h; exact wpE_mono h fun x ρ1 ⟨xs, e1, z, e2, q⟩ => ⟨xs, z, e1, e2, q⟩
theorem wx_sq {e : E} : wpE C (.sq e) ρ Q ↔ wpE C e ρ fun x ρ1 => OptW (seqOf x) fun xs => Q (.lst xs) ρ1 := wp_sq
theorem wx_rg1 {a : E} : wpE C (.rg1 a) ρ Q ↔ wpE C a ρ fun x ρ1 => IntW x fun j => NeedW (smallI j) (Q (.lst (rangeD 0 j)) ρ1) := wp_rg1
theorem wx_rg2 {a b : E} : wpE C (.rg2 a b) ρ Q ↔ wpE C a ρ fun x ρ1 => wpE C b ρ1 fun y ρ2 => IntW x fun i => IntW y fun j => NeedW (smallI i && smallI j) (Q (.lst (rangeD i j)) ρ2) := by
  rw [wp_rg2]
  constructor
  · intro h; exact wpE_mono h fun x ρ1 h => wpE_mono h fun y ρ2 ⟨i, j, e1, e2, e3, q⟩ => ⟨i, e1, j, e2, e3, q⟩
  · intro h; exact wpE_mono h fun x ρ1 h => wpE_mono h fun y ρ2 ⟨i, e1, j, e2, e3, q⟩ => ⟨i, j, e1, e2, e3, q⟩
theorem wx_en {a : E} : wpE C (.en a) ρ Q ↔ wpE C a ρ fun x ρ1 => OptW (seqOf x) fun xs => Q (.lst (enumD 0 xs)) ρ1 := wp_en
theorem wx_zp {a b : E} : wpE C (.zp a b) ρ Q ↔ wpE C a ρ fun x ρ1 => wpE C b ρ1 fun y ρ2 => OptW (seqOf x) fun xs => OptW (seqOf y) fun ys => Q (.lst (zipD xs ys)) ρ2 := by
  rw [wp_zp]
  constructor
  · intro h; exact wpE_mono h fun x ρ1 h => wpE_mono h fun y ρ2 ⟨i, j, e1, e2, q⟩ => ⟨i, e1, j, e2, q⟩
  · intro h; exact wpE_mono h fun x ρ1 h => wpE_mono h fun y ρ2 ⟨i, e1, j, e2, q⟩ => ⟨i, j, e1, e2, q⟩
theorem wx_comp {tg : Tg} {src cond elt : E} : wpE C (.comp tg src cond elt) ρ Q ↔ wpE C src ρ fun l ρ1 => LstW l fun items => OptW (loopC (turnK C tg cond elt) items ρ1) fun r => NeedW (lenOk r.1.length) (Q (.lst r.1) r.2) := by
  rw [wp_comp]
  constructor
  · intro h; exact wpE_mono h fun x ρ1 ⟨items, ys, ρ2, e1, e2, e3, q⟩ => ⟨items, e1, (ys, ρ2), e2, e3, q⟩
  · intro h; exact wpE_mono h fun x ρ1 ⟨items, e1, ⟨ys, ρ2⟩, e2, e3, q⟩ => ⟨items, ys, ρ2, e1, e2, e3, q⟩
theorem wx_pur {e : E} : wpE C (.pur e) ρ Q ↔ wpE C e ρ fun x _ => Q x ρ := wp_pur
/-- a turn of a clause -/
theorem wx_turn {tg : Tg} {cond elt : E} {d : D} {R : Option D → Rho → Prop} : wpT C tg cond elt d ρ R ↔ OptW (setTg tg d ρ) fun ρa => wpE C (if isCt cond then .ct else cond) ρa fun c ρb => BlW c fun b => IfW b (wpE C elt ρb fun y ρc => R (some y) (back ρ tg.slots ρc)) (R none (back ρ tg.slots ρb)) := Iff.rfl
/-! ### statements -/
def Post4.seq (C : Calls) (r : S) (P : Post4) : Post4 := { P with nx := fun ρ1 => wpS C r ρ1 P }
theorem seq_nx {r : S} {ρ1 : Rho} : (P.seq C r).nx ρ1 ↔ wpS C r ρ1 P := Iff.rfl
theorem seq_rt {r : S} {d : D} {ρ1 : Rho} : (P.seq C r).rt d ρ1 ↔ P.rt d ρ1 := Iff.rfl
theorem seq_bk {r : S} {ρ1 : Rho} : (P.seq C r).bk ρ1 ↔ P.bk ρ1 := Iff.rfl
theorem seq_ct {r : S} {ρ1 : Rho} : (P.seq C r).ct ρ1 ↔ P.ct ρ1 := Iff.rfl
theorem wy_one {s : S} : wpS C (.cons s .nil) ρ P ↔ wpS C s ρ P := by
  rw [ws_cons]
  constructor
  · intro h; exact wpS_mono h (fun ρ q => ws_nil.mp q) (fun _ _ q => q) (fun _ q => q) fun _ q => q
  · intro h; exact wpS_mono h (fun ρ q => ws_nil.mpr q) (fun _ _ q => q) (fun _ q => q) fun _ q => q
theorem wy_cons {s r : S} : wpS C (.cons s r) ρ P ↔ wpS C s ρ (P.seq C r) := ws_cons
theorem wy_ret {e : E} : wpS C (.ret e) ρ P ↔ wpE C e ρ fun d ρ1 => P.rt d ρ1 := ws_ret
theorem wy_asgT {is : List Nat} {e : E} : wpS C (.asgT is e) ρ P ↔ wpE C e ρ fun d ρ1 => TupW d fun ds => OptW (setMany is ds ρ1) fun ρ2 => P.nx ρ2 := by
  rw [ws_asgT]
  constructor
  · intro h; exact wpE_mono h fun x ρ1 ⟨ds, ρ2, e1, e2, q⟩ => ⟨ds, e1, ρ2, e2, q⟩
  · intro h; exact wpE_mono h fun x ρ1 ⟨ds, e1, ρ2, e2, q⟩ => ⟨ds, ρ2, e1, e2, q⟩
theorem wy_asgF {p : E} {c j : Nat} {e : E} : wpS C (.asgF p c j e) ρ P ↔ wpE C e ρ fun d ρ1 => OptW (loc ρ1 p) fun l => TupW l.1 fun fs => IfW (decide (j < fs.length)) (P.nx (l.2 (.tup (fs.set j d)))) (NeedW (decide (j = fs.length)) (P.nx (l.2 (.tup (fs ++ [d]))))) := by
  rw [ws_asgF]
  constructor
  · intro h
    refine wpE_mono h fun x ρ1 ⟨fs, up, e1, q⟩ => ⟨_, e1, fs, rfl, ?_⟩
    by_cases hj : j < fs.length
    · rw [if_pos hj] at q; simpa [IfW, hj] using q
    · rw [if_neg hj] at q; simpa [IfW, hj, NeedW] using q
  · intro h
    refine wpE_mono h fun x ρ1 ⟨⟨l1, up⟩, e1, fs, e2, q⟩ => ?_
    simp only at e2; subst e2
    refine ⟨fs, up, e1, ?_⟩
    by_cases hj : j < fs.length
    · rw [if_pos hj]; simpa [IfW, hj] using q
    · rw [if_neg hj]; simpa [IfW, hj, NeedW] using q
theorem wy_setI {p i e : E} : wpS C (.setI p i e) ρ P ↔ wpE C e ρ fun d ρ1 => wpE C i ρ1 fun y ρ2 => IntW y fun k => OptW (loc ρ2 p) fun l => LstW l.1 fun xs => OptW (ixN xs.length k) fun j => P.nx (l.2 (.lst (xs.set j d))) := by
  rw [ws_setI]
  constructor
  · intro h; exact wpE_mono h fun x ρ1 h => wpE_mono h fun y ρ2 ⟨k, xs, up, j, e1, e2, e3, q⟩ => ⟨k, e1, _, e2, xs, rfl, j, e3, q⟩
  · intro h; exact wpE_mono h fun x ρ1 h => wpE_mono h fun y ρ2 ⟨k, e1, ⟨l1, up⟩, e2, xs, e4, j, e3, q⟩ => by simp only at e4; subst e4; exact ⟨k, xs, up, j, e1, e2, e3, q⟩
theorem wy_aug {o : O2} {i : Nat} {e : E} : wpS C (.aug o i e) ρ P ↔ wpE C e ρ fun d ρ1 => OptW (augD o (ρ1.getD i .non) d) fun z => P.nx (ρ1.set i z) := ws_aug
theorem wy_augI {o : O2} {p i e : E} : wpS C (.augI o p i e) ρ P ↔ wpE C i ρ fun y ρ1 => IntW y fun k => OptW (loc ρ1 p) fun l => LstW l.1 fun xs => OptW (ixN xs.length k) fun j => OptW xs[j]? fun x => wpE C e ρ1 fun d ρ2 => OptW (augD o x d) fun z => OptW (loc ρ2 p) fun l2 => LstW l2.1 fun xs2 => OptW (ixN xs2.length k) fun j2 => P.nx (l2.2 (.lst (xs2.set j2 z))) := by
  rw [ws_augI]
  constructor
  · intro h
    exact wpE_mono h fun y ρ1 ⟨k, xs, up, j, x, e1, e2, e3, e4, h⟩ => ⟨k, e1, _, e2, xs, rfl, j, e3, x, e4, wpE_mono h fun d ρ2 ⟨z, xs2, up2, j2, e5, e6, e7, q⟩ => ⟨z, e5, _, e6, xs2, rfl, j2, e7, q⟩⟩
  · intro h
    refine wpE_mono h fun y ρ1 ⟨k, e1, ⟨l1, up⟩, e2, xs, e9, j, e3, x, e4, h⟩ => ?_
    simp only at e9; subst e9
    exact ⟨k, xs, up, j, x, e1, e2, e3, e4, wpE_mono h fun d ρ2 ⟨z, e5, ⟨l2, up2⟩, e6, xs2, e8, j2, e7, q⟩ => by simp only at e8; subst e8; exact ⟨z, xs2, up2, j2, e5, e6, e7, q⟩⟩
theorem wy_app {p e : E} : wpS C (.app p e) ρ P ↔ wpE C e ρ fun d ρ1 => OptW (loc ρ1 p) fun l => LstW l.1 fun xs => NeedW (lenOk xs.length) (P.nx (l.2 (.lst (xs ++ [d])))) := by
  rw [ws_app]
  constructor
  · intro h; exact wpE_mono h fun x ρ1 ⟨xs, up, e1, e2, q⟩ => ⟨_, e1, xs, rfl, e2, q⟩
  · intro h; exact wpE_mono h fun x ρ1 ⟨⟨l, up⟩, e1, xs, e3, e2, q⟩ => by simp only at e3; subst e3; exact ⟨xs, up, e1, e2, q⟩
theorem wy_ext {p e : E} : wpS C (.ext p e) ρ P ↔ wpE C e ρ fun d ρ1 => OptW (seqOf d) fun ys => OptW (loc ρ1 p) fun l => LstW l.1 fun xs => NeedW (lenOk (xs.length + ys.length)) (P.nx (l.2 (.lst (xs ++ ys)))) := by
  rw [ws_ext]
  constructor
  · intro h; exact wpE_mono h fun x ρ1 ⟨ys, xs, up, e0, e1, e2, q⟩ => ⟨ys, e0, _, e1, xs, rfl, e2, q⟩
  · intro h; exact wpE_mono h fun x ρ1 ⟨ys, e0, ⟨l, up⟩, e1, xs, e3, e2, q⟩ => by simp only at e3; subst e3; exact ⟨ys, xs, up, e0, e1, e2, q⟩
theorem wy_ifs {c : E} {a b : S} : wpS C (.ifs c a b) ρ P ↔ wpE C c ρ fun x ρ1 => BlW x fun z => IfW z (wpS C a ρ1 P) (wpS C b ρ1 P) := ws_ifs
end
end DI
end
section
set_option Elab.async false
set_option linter.all false
set_option maxRecDepth 100000
/-! The laws' own helpers. -/
namespace DI
open PySem
/-! ### small facts -/
theorem mul_r {i j : Int} (h : j.natAbs < 2 ^ 63) : o2D .mul (.int i) (.int j) = some (.int (i * j)) := by
  have : mulOk i j = true := by unfold mulOk; simp [h]
  simp only [o2D, this, if_true]
theorem mul_l {i j : Int} (h : i.natAbs < 2 ^ 63) : o2D .mul (.int i) (.int j) = some (.int (i * j)) := by
  have : mulOk i j = true := by unfold mulOk; simp [h]
  simp only [o2D, this, if_true]
theorem mod_p {i j : Int} (h : 0 < j) : o2D .mod (.int i) (.int j) = some (.int (i % j)) := by
  simp only [o2D, if_pos h]
theorem fdiv_p {i j : Int} (h : 0 < j) (h2 : j < 2 ^ 63) : o2D .fdiv (.int i) (.int j) = some (.int (i / j)) := by
  have : j.natAbs.log2 < 9000 := by
    have h3 : j.natAbs < 2 ^ 63 := by omega
    by_cases h0 : j.natAbs = 0
    · omega
    · have := (Nat.log2_lt h0).mpr h3
      omega
  simp only [o2D, h, this, decide_true, Bool.and_self, if_true]
theorem add_i {i j : Int} : o2D .add (.int i) (.int j) = some (.int (i + j)) := rfl
theorem sub_i {i j : Int} : o2D .sub (.int i) (.int j) = some (.int (i - j)) := rfl
theorem cp_lt {i j : Int} : cpD .lt (.int i) (.int j) = some (decide (i < j)) := rfl
theorem cp_le {i j : Int} : cpD .le (.int i) (.int j) = some (decide (i ≤ j)) := rfl
theorem cp_gt {i j : Int} : cpD .gt (.int i) (.int j) = some (decide (j < i)) := rfl
theorem cp_ge {i j : Int} : cpD .ge (.int i) (.int j) = some (decide (j ≤ i)) := rfl
theorem cp_eqI {i j : Int} : cpD .eq (.int i) (.int j) = some (decide (i = j)) := rfl
theorem cp_neI {i j : Int} : cpD .ne (.int i) (.int j) = some (!decide (i = j)) := rfl
theorem cp_eqB {i j : Bool} : cpD .eq (.bl i) (.bl j) = some (decide (i = j)) := rfl
theorem cp_neB {i j : Bool} : cpD .ne (.bl i) (.bl j) = some (!decide (i = j)) := rfl
def isNon : D → Bool
  | .non => true
  | _ => false
theorem cp_isN {x : D} : cpD .isN x .non = some (isNon x) := by cases x <;> rfl
theorem cp_notN {x : D} : cpD .notN x .non = some (!isNon x) := by cases x <;> rfl
theorem at_nat {xs : List D} {j : Nat} : ixD (.lst xs) (.int (j : Int)) = xs[j]? := by
  show L2.atI xs j = _
  unfold L2.atI L2.ixN
  rw [if_pos (by omega)]
  split
  · simp
  · rename_i h
    rw [List.getElem?_eq_none (by omega)]; rfl
theorem at_natT {xs : List D} {j : Nat} : ixD (.tup xs) (.int (j : Int)) = xs[j]? := at_nat (xs := xs)
theorem at0 {a : D} {r : List D} : ixD (.lst (a :: r)) (.int 0) = some a := at_nat (j := 0)
theorem at1 {a b : D} {r : List D} : ixD (.lst (a :: b :: r)) (.int 1) = some b := at_nat (j := 1)
theorem at2 {a b c : D} {r : List D} : ixD (.lst (a :: b :: c :: r)) (.int 2) = some c := at_nat (j := 2)
theorem at3 {a b c d : D} {r : List D} : ixD (.lst (a :: b :: c :: d :: r)) (.int 3) = some d := at_nat (j := 3)
theorem at4 {a b c d e : D} {r : List D} : ixD (.lst (a :: b :: c :: d :: e :: r)) (.int 4) = some e := at_nat (j := 4)
theorem atT0 {a : D} {r : List D} : ixD (.tup (a :: r)) (.int 0) = some a := at_nat (j := 0)
theorem atT1 {a b : D} {r : List D} : ixD (.tup (a :: b :: r)) (.int 1) = some b := at_nat (j := 1)
theorem atT2 {a b c : D} {r : List D} : ixD (.tup (a :: b :: c :: r)) (.int 2) = some c := at_nat (j := 2)
theorem atT3 {a b c d : D} {r : List D} : ixD (.tup (a :: b :: c :: d :: r)) (.int 3) = some d := at_nat (j := 3)
theorem ixN_nat {n j : Nat} (h : j < n) : ixN n (j : Int) = some j := by
  show L2.ixN n j = _
  unfold L2.ixN
  rw [if_pos (by omega), if_pos (by omega)]; simp
theorem ixN0 {n : Nat} : ixN (n + 1) 0 = some 0 := ixN_nat (j := 0) (by omega)
theorem ixN1 {n : Nat} : ixN (n + 1 + 1) 1 = some 1 := ixN_nat (j := 1) (by omega)
theorem ixN2 {n : Nat} : ixN (n + 1 + 1 + 1) 2 = some 2 := ixN_nat (j := 2) (by omega)
theorem ixN3 {n : Nat} : ixN (n + 1 + 1 + 1 + 1) 3 = some 3 := ixN_nat (j := 3) (by omega)
theorem ixN4 {n : Nat} : ixN (n + 1 + 1 + 1 + 1 + 1) 4 = some 4 := ixN_nat (j := 4) (by omega)
theorem lenOk0 : lenOk 0 = true := by decide
theorem lenOk1 : lenOk 1 = true := by decide
theorem lenOk2 : lenOk 2 = true := by decide
theorem lenOk3 : lenOk 3 = true := by decide
theorem lenOk4 : lenOk 4 = true := by decide
theorem lenOk5 : lenOk 5 = true := by decide
theorem small0 {i : Int} (h0 : -(2 ^ 62) ≤ i) (h1 : i < 2 ^ 62) : smallI i = true := by unfold smallI; exact decide_eq_true ⟨h0, h1⟩
theorem range4 (n : Int) : ∃ ns : List Int, rangeD 0 n = ns.map D.int := ⟨(List.range (n - 0).toNat).map fun (k : Nat) => (0 : Int) + (k : Int), by unfold rangeD; simp⟩
theorem range4' (a n : Int) : rangeD a n = ((List.range (n - a).toNat).map fun (k : Nat) => a + (k : Int)).map D.int := by unfold rangeD; simp
theorem at_int {xs : List Int} {a : Int} (h0 : 0 ≤ a) (h1 : a < xs.length) : ixD (.lst (xs.map D.int)) (.int a) = some (.int (xs.getD a.toNat 0)) := by
  obtain ⟨n, rfl⟩ := Int.eq_ofNat_of_zero_le h0
  have h : n < xs.length := by omega
  have := at_nat (xs := xs.map D.int) (j := n)
  rw [show ((n : Nat) : Int) = Int.ofNat n from rfl] at *
  rw [this, List.getElem?_map, List.getElem?_eq_getElem h]
  simp [List.getD_eq_getElem?_getD, List.getElem?_eq_getElem h]
/-! ### spread, draw -/
def Bspread : S := (.cons (.asg 1 (.o2 .mod (.bi .intOf (.aE (.var 0) .a0)) (.ci 2147483647))) (.cons (.asg 2 (.ci 1)) (.cons (.for_ (.one 3) (.rg1 (.ci 4)) (.cons (.asg 1 (.o2 .mod (.bi .intOf (.aE (.o2 .add (.o2 .add (.o2 .mul (.var 1) (.ci 48271)) (.ci 12345)) (.var 3)) .a0)) (.ci 2147483647))) (.cons (.asg 2 (.o2 .add (.o2 .mul (.var 2) (.ci 2147483647)) (.var 1))) .nil)) [3] []) (.cons (.ret (.var 2)) .nil))))
def Bdraw (sp : Nat) : S := (.cons (.ifs (.pur (.an (.cp .le (.ix (.var 0) (.ci 2)) (.ci 0)) (.cp .lt (.ix (.var 0) (.ci 1)) (.bi .len (.aE (.ix (.var 0) (.ci 0)) .a0))))) (.cons (.asg 3 (.pur (.ix (.ix (.var 0) (.ci 0)) (.ix (.var 0) (.ci 1))))) (.cons (.setI (.var 0) (.ci 1) (.pur (.o2 .add (.ix (.var 0) (.ci 1)) (.ci 1)))) (.cons (.setI (.var 0) (.ci 2) (.var 3)) (.cons (.ifs (.cp .lt (.var 3) (.ci 1000000000000000000)) (.cons (.setI (.var 0) (.ci 2) (.call sp (.aE (.var 3) .a0))) .nil) .nil) .nil)))) .nil) (.cons (.setI (.var 0) (.ci 3) (.pur (.o2 .add (.ix (.var 0) (.ci 3)) (.ci 1)))) (.cons (.ifs (.pur (.cp .le (.ix (.var 0) (.ci 2)) (.ci 0))) (.cons (.asg 4 (.pur (.o2 .mod (.bi .intOf (.aE (.o2 .add (.o2 .add (.o2 .mul (.ix (.var 0) (.ci 4)) (.ci 48271)) (.o2 .mul (.ix (.var 0) (.ci 3)) (.ci 69621))) (.ci 1)) .a0)) (.ci 2147483647)))) (.cons (.asg 4 (.pur (.o2 .mod (.bi .intOf (.aE (.o2 .add (.o2 .mul (.var 4) (.ci 16807)) (.ix (.var 0) (.ci 3))) .a0)) (.ci 2147483629)))) (.cons (.ret (.o2 .mod (.o2 .fdiv (.var 4) (.ci 5)) (.var 1))) .nil))) .nil) (.cons (.asg 2 (.pur (.o2 .mod (.bi .intOf (.aE (.ix (.var 0) (.ci 2)) .a0)) (.var 1)))) (.cons (.setI (.var 0) (.ci 2) (.pur (.o2 .fdiv (.ix (.var 0) (.ci 2)) (.var 1)))) (.cons (.ret (.var 2)) .nil))))))
section
variable {fs : List Fn} {k : Nat}
theorem spread_spec {i : Nat} {d : Fn} (hk : 0 < k) (hi : fs[i]? = some d) (hb : d.body = Bspread) (hp : d.sg.ps = [.z]) (hn : d.nn = 4) (c : Int) : ∃ v, callN fs k i [.int c] = some (.int v, []) := by
  have := call_of (fs := fs) (k := k) (i := i) (d := d) (ds := [.int c]) (R := fun r outs => ∃ v, r = .int v ∧ outs = []) hk hi (by rw [hp]; rfl) ?_
  · obtain ⟨r, outs, h, v, rfl, rfl⟩ := this; exact ⟨v, h⟩
  · rw [hb, hn, hp]
    unfold Bspread
    simp -dsimp only [↓wy_one, ↓wy_cons, ↓seq_nx, ↓seq_rt, ↓seq_bk, ↓seq_ct, ↓ws_nil, ↓ws_pass, ↓ws_retn, ↓ws_cont, ↓ws_brk, ↓wy_ret, ↓ws_asg, ↓ws_drop, ↓wy_asgT, ↓wy_asgF, ↓wy_setI, ↓wy_aug, ↓wy_augI, ↓wy_app, ↓wy_ext, ↓wy_ifs, ↓wp_var, ↓wp_mv, ↓wp_fz, ↓wp_ci, ↓wp_cs, ↓wp_cb, ↓wp_cn, ↓wp_so, ↓wp_ct, ↓wp_a0, ↓wx_o2, ↓wx_neg, ↓wx_nt, ↓wx_cp, ↓wx_ch, ↓wx_an, ↓wx_orr, ↓wx_ite, ↓wx_tup, ↓wx_lst, ↓wx_aE, ↓wx_aS, ↓wx_ix, ↓wx_sl, ↓wx_fld, ↓wx_call, ↓wp_mcall, ↓wx_mk, ↓wx_aio, ↓wx_abw, ↓wx_bi, ↓wx_pur, ↓wx_sq, ↓wx_rg1, ↓wx_rg2, ↓wx_en, ↓wx_zp, ↓wx_comp, ↓wx_turn, OptW_some, IntW_int, BlW_bl, TupW_tup, LstW_lst, NeedW_true, IfW_true, IfW_false, List.getD_cons_zero, List.getD_cons_succ, List.set_cons_zero, List.set_cons_succ, biD, cp_lt, cp_le, cp_gt, cp_ge, cp_eqI, cp_neI, cp_eqB, cp_neB, cp_isN, cp_notN, isNon, add_i, sub_i, seqOf, loc, ev.putIo, isCt, setTg, setMany, Tg.slots, kill, back, outsOf, List.length_cons, List.length_nil, List.cons_append, List.nil_append, List.replicate, List.length_singleton, at0, at1, at2, at3, at4, atT0, atT1, atT2, atT3, ixN0, ixN1, ixN2, ixN3, ixN4, lenOk0, lenOk1, lenOk2, lenOk3, lenOk4, lenOk5, optI, if_true, Bool.false_eq_true, if_false, Bool.not_true, Bool.not_false, List.any_cons, List.any_nil, tyB, Bool.or_false, Bool.or_true, Bool.and_true, Bool.and_false, Option.map_some, small0, Nat.zero_add, Nat.reduceAdd, Nat.reduceSub, Nat.reduceLT, decide_true, decide_false, Post4.seq, mod_p (i := c) (j := 2147483647) (by decide)]
    refine for_inv (I := fun l ρ => (∃ ns : List Int, l = ns.map D.int) ∧ ∃ a b x, ρ = [.int c, .int a, .int b, x]) ?_ ?_ ?_
    · simp -dsimp only [↓wy_one, ↓wy_cons, ↓seq_nx, ↓seq_rt, ↓seq_bk, ↓seq_ct, ↓ws_nil, ↓ws_pass, ↓ws_retn, ↓ws_cont, ↓ws_brk, ↓wy_ret, ↓ws_asg, ↓ws_drop, ↓wy_asgT, ↓wy_asgF, ↓wy_setI, ↓wy_aug, ↓wy_augI, ↓wy_app, ↓wy_ext, ↓wy_ifs, ↓wp_var, ↓wp_mv, ↓wp_fz, ↓wp_ci, ↓wp_cs, ↓wp_cb, ↓wp_cn, ↓wp_so, ↓wp_ct, ↓wp_a0, ↓wx_o2, ↓wx_neg, ↓wx_nt, ↓wx_cp, ↓wx_ch, ↓wx_an, ↓wx_orr, ↓wx_ite, ↓wx_tup, ↓wx_lst, ↓wx_aE, ↓wx_aS, ↓wx_ix, ↓wx_sl, ↓wx_fld, ↓wx_call, ↓wp_mcall, ↓wx_mk, ↓wx_aio, ↓wx_abw, ↓wx_bi, ↓wx_pur, ↓wx_sq, ↓wx_rg1, ↓wx_rg2, ↓wx_en, ↓wx_zp, ↓wx_comp, ↓wx_turn, OptW_some, IntW_int, BlW_bl, TupW_tup, LstW_lst, NeedW_true, IfW_true, IfW_false, List.getD_cons_zero, List.getD_cons_succ, List.set_cons_zero, List.set_cons_succ, biD, cp_lt, cp_le, cp_gt, cp_ge, cp_eqI, cp_neI, cp_eqB, cp_neB, cp_isN, cp_notN, isNon, add_i, sub_i, seqOf, loc, ev.putIo, isCt, setTg, setMany, Tg.slots, kill, back, outsOf, List.length_cons, List.length_nil, List.cons_append, List.nil_append, List.replicate, List.length_singleton, at0, at1, at2, at3, at4, atT0, atT1, atT2, atT3, ixN0, ixN1, ixN2, ixN3, ixN4, lenOk0, lenOk1, lenOk2, lenOk3, lenOk4, lenOk5, optI, if_true, Bool.false_eq_true, if_false, Bool.not_true, Bool.not_false, List.any_cons, List.any_nil, tyB, Bool.or_false, Bool.or_true, Bool.and_true, Bool.and_false, Option.map_some, small0, Nat.zero_add, Nat.reduceAdd, Nat.reduceSub, Nat.reduceLT, decide_true, decide_false, Post4.seq]
      rw [small0 (by decide) (by decide), NeedW_true]
      exact ⟨_, rfl, range4 4, _, _, _, rfl⟩
    · rintro ρ2 ⟨_, a, b, x, rfl⟩
      simp -dsimp only [↓wy_one, ↓wy_cons, ↓seq_nx, ↓seq_rt, ↓seq_bk, ↓seq_ct, ↓ws_nil, ↓ws_pass, ↓ws_retn, ↓ws_cont, ↓ws_brk, ↓wy_ret, ↓ws_asg, ↓ws_drop, ↓wy_asgT, ↓wy_asgF, ↓wy_setI, ↓wy_aug, ↓wy_augI, ↓wy_app, ↓wy_ext, ↓wy_ifs, ↓wp_var, ↓wp_mv, ↓wp_fz, ↓wp_ci, ↓wp_cs, ↓wp_cb, ↓wp_cn, ↓wp_so, ↓wp_ct, ↓wp_a0, ↓wx_o2, ↓wx_neg, ↓wx_nt, ↓wx_cp, ↓wx_ch, ↓wx_an, ↓wx_orr, ↓wx_ite, ↓wx_tup, ↓wx_lst, ↓wx_aE, ↓wx_aS, ↓wx_ix, ↓wx_sl, ↓wx_fld, ↓wx_call, ↓wp_mcall, ↓wx_mk, ↓wx_aio, ↓wx_abw, ↓wx_bi, ↓wx_pur, ↓wx_sq, ↓wx_rg1, ↓wx_rg2, ↓wx_en, ↓wx_zp, ↓wx_comp, ↓wx_turn, OptW_some, IntW_int, BlW_bl, TupW_tup, LstW_lst, NeedW_true, IfW_true, IfW_false, List.getD_cons_zero, List.getD_cons_succ, List.set_cons_zero, List.set_cons_succ, biD, cp_lt, cp_le, cp_gt, cp_ge, cp_eqI, cp_neI, cp_eqB, cp_neB, cp_isN, cp_notN, isNon, add_i, sub_i, seqOf, loc, ev.putIo, isCt, setTg, setMany, Tg.slots, kill, back, outsOf, List.length_cons, List.length_nil, List.cons_append, List.nil_append, List.replicate, List.length_singleton, at0, at1, at2, at3, at4, atT0, atT1, atT2, atT3, ixN0, ixN1, ixN2, ixN3, ixN4, lenOk0, lenOk1, lenOk2, lenOk3, lenOk4, lenOk5, optI, if_true, Bool.false_eq_true, if_false, Bool.not_true, Bool.not_false, List.any_cons, List.any_nil, tyB, Bool.or_false, Bool.or_true, Bool.and_true, Bool.and_false, Option.map_some, small0, Nat.zero_add, Nat.reduceAdd, Nat.reduceSub, Nat.reduceLT, decide_true, decide_false, Post4.seq]
      exact ⟨_, rfl, trivial⟩
    · rintro d ds ρ1 ⟨⟨ns, e⟩, a, b, x, rfl⟩
      cases ns with
      | nil => cases e
      | cons n ns =>
        cases e
        refine ⟨_, rfl, ?_⟩
        simp -dsimp only [↓wy_one, ↓wy_cons, ↓seq_nx, ↓seq_rt, ↓seq_bk, ↓seq_ct, ↓ws_nil, ↓ws_pass, ↓ws_retn, ↓ws_cont, ↓ws_brk, ↓wy_ret, ↓ws_asg, ↓ws_drop, ↓wy_asgT, ↓wy_asgF, ↓wy_setI, ↓wy_aug, ↓wy_augI, ↓wy_app, ↓wy_ext, ↓wy_ifs, ↓wp_var, ↓wp_mv, ↓wp_fz, ↓wp_ci, ↓wp_cs, ↓wp_cb, ↓wp_cn, ↓wp_so, ↓wp_ct, ↓wp_a0, ↓wx_o2, ↓wx_neg, ↓wx_nt, ↓wx_cp, ↓wx_ch, ↓wx_an, ↓wx_orr, ↓wx_ite, ↓wx_tup, ↓wx_lst, ↓wx_aE, ↓wx_aS, ↓wx_ix, ↓wx_sl, ↓wx_fld, ↓wx_call, ↓wp_mcall, ↓wx_mk, ↓wx_aio, ↓wx_abw, ↓wx_bi, ↓wx_pur, ↓wx_sq, ↓wx_rg1, ↓wx_rg2, ↓wx_en, ↓wx_zp, ↓wx_comp, ↓wx_turn, OptW_some, IntW_int, BlW_bl, TupW_tup, LstW_lst, NeedW_true, IfW_true, IfW_false, List.getD_cons_zero, List.getD_cons_succ, List.set_cons_zero, List.set_cons_succ, biD, cp_lt, cp_le, cp_gt, cp_ge, cp_eqI, cp_neI, cp_eqB, cp_neB, cp_isN, cp_notN, isNon, add_i, sub_i, seqOf, loc, ev.putIo, isCt, setTg, setMany, Tg.slots, kill, back, outsOf, List.length_cons, List.length_nil, List.cons_append, List.nil_append, List.replicate, List.length_singleton, at0, at1, at2, at3, at4, atT0, atT1, atT2, atT3, ixN0, ixN1, ixN2, ixN3, ixN4, lenOk0, lenOk1, lenOk2, lenOk3, lenOk4, lenOk5, optI, if_true, Bool.false_eq_true, if_false, Bool.not_true, Bool.not_false, List.any_cons, List.any_nil, tyB, Bool.or_false, Bool.or_true, Bool.and_true, Bool.and_false, Option.map_some, small0, Nat.zero_add, Nat.reduceAdd, Nat.reduceSub, Nat.reduceLT, decide_true, decide_false, Post4.seq, mul_r (i := a) (j := 48271) (by decide), mul_r (i := b) (j := 2147483647) (by decide), mod_p (j := 2147483647) (by decide)]
        exact ⟨⟨ns, rfl⟩, _, _, _, rfl⟩
/-- a law's pool of cells -/
def PoolOk (p : D) : Prop := ∃ (xs : List Int) (a b c e : Int), p = .lst [.lst (xs.map D.int), .int a, .int b, .int c, .int e] ∧ 0 ≤ a
theorem draw_spec {i sp : Nat} {d ds : Fn} (hk : 1 < k) (hi : fs[i]? = some d) (hb : d.body = Bdraw sp) (hp : d.sg.ps = [.io (.L .z), .z]) (hn : d.nn = 5) (hsp : fs[sp]? = some ds) (hsb : ds.body = Bspread) (hsps : ds.sg.ps = [.z]) (hsn : ds.nn = 4)
    {p : D} (hp0 : PoolOk p) {m : Int} (m0 : 0 < m) (m1 : m < 2 ^ 63) : ∃ v p', callN fs k i [p, .int m] = some (.int v, [p']) ∧ 0 ≤ v ∧ v < m ∧ PoolOk p' := by
  obtain ⟨xs, a, b, c, e, rfl, ha⟩ := hp0
  have := call_of (fs := fs) (k := k) (i := i) (d := d) (ds := [.lst [.lst (xs.map D.int), .int a, .int b, .int c, .int e], .int m]) (R := fun r outs => ∃ v p', r = .int v ∧ outs = [p'] ∧ 0 ≤ v ∧ v < m ∧ PoolOk p') (by omega) hi (by rw [hp]; rfl) ?_
  · obtain ⟨r, outs, h, v, p', rfl, rfl, h1, h2, h3⟩ := this; exact ⟨v, p', h, h1, h2, h3⟩
  · rw [hb, hn, hp]
    unfold Bdraw
    rw [wy_cons]
    generalize hR : S.cons (S.setI (.var 0) (.ci 3) _) _ = R
    have rest : ∀ (a b c : Int) (x y z : D), 0 ≤ a → wpS (callN fs (k - 1)) R
        [.lst [.lst (xs.map D.int), .int a, .int b, .int c, .int e], .int m, x, y, z] { nx := fun ρ => ∃ v p', D.non = .int v ∧ outsOf [.io (.L .z), .z] ρ = [p'] ∧ 0 ≤ v ∧ v < m ∧ PoolOk p', rt := fun r ρ => ∃ v p', r = .int v ∧ outsOf [.io (.L .z), .z] ρ = [p'] ∧ 0 ≤ v ∧ v < m ∧ PoolOk p' } := by
      intro a b c x y z ha
      subst hR
      simp -dsimp only [↓wy_one, ↓wy_cons, ↓seq_nx, ↓seq_rt, ↓seq_bk, ↓seq_ct, ↓ws_nil, ↓ws_pass, ↓ws_retn, ↓ws_cont, ↓ws_brk, ↓wy_ret, ↓ws_asg, ↓ws_drop, ↓wy_asgT, ↓wy_asgF, ↓wy_setI, ↓wy_aug, ↓wy_augI, ↓wy_app, ↓wy_ext, ↓wy_ifs, ↓wp_var, ↓wp_mv, ↓wp_fz, ↓wp_ci, ↓wp_cs, ↓wp_cb, ↓wp_cn, ↓wp_so, ↓wp_ct, ↓wp_a0, ↓wx_o2, ↓wx_neg, ↓wx_nt, ↓wx_cp, ↓wx_ch, ↓wx_an, ↓wx_orr, ↓wx_ite, ↓wx_tup, ↓wx_lst, ↓wx_aE, ↓wx_aS, ↓wx_ix, ↓wx_sl, ↓wx_fld, ↓wx_call, ↓wp_mcall, ↓wx_mk, ↓wx_aio, ↓wx_abw, ↓wx_bi, ↓wx_pur, ↓wx_sq, ↓wx_rg1, ↓wx_rg2, ↓wx_en, ↓wx_zp, ↓wx_comp, ↓wx_turn, OptW_some, IntW_int, BlW_bl, TupW_tup, LstW_lst, NeedW_true, IfW_true, IfW_false, List.getD_cons_zero, List.getD_cons_succ, List.set_cons_zero, List.set_cons_succ, biD, cp_lt, cp_le, cp_gt, cp_ge, cp_eqI, cp_neI, cp_eqB, cp_neB, cp_isN, cp_notN, isNon, add_i, sub_i, seqOf, loc, ev.putIo, isCt, setTg, setMany, Tg.slots, kill, back, outsOf, List.length_cons, List.length_nil, List.cons_append, List.nil_append, List.replicate, List.length_singleton, at0, at1, at2, at3, at4, atT0, atT1, atT2, atT3, ixN0, ixN1, ixN2, ixN3, ixN4, lenOk0, lenOk1, lenOk2, lenOk3, lenOk4, lenOk5, optI, if_true, Bool.false_eq_true, if_false, Bool.not_true, Bool.not_false, List.any_cons, List.any_nil, tyB, Bool.or_false, Bool.or_true, Bool.and_true, Bool.and_false, Option.map_some, small0, Nat.zero_add, Nat.reduceAdd, Nat.reduceSub, Nat.reduceLT, decide_true, decide_false, Post4.seq]
      by_cases hb0 : b ≤ 0
      · simp -dsimp only [↓wy_one, ↓wy_cons, ↓seq_nx, ↓seq_rt, ↓seq_bk, ↓seq_ct, ↓ws_nil, ↓ws_pass, ↓ws_retn, ↓ws_cont, ↓ws_brk, ↓wy_ret, ↓ws_asg, ↓ws_drop, ↓wy_asgT, ↓wy_asgF, ↓wy_setI, ↓wy_aug, ↓wy_augI, ↓wy_app, ↓wy_ext, ↓wy_ifs, ↓wp_var, ↓wp_mv, ↓wp_fz, ↓wp_ci, ↓wp_cs, ↓wp_cb, ↓wp_cn, ↓wp_so, ↓wp_ct, ↓wp_a0, ↓wx_o2, ↓wx_neg, ↓wx_nt, ↓wx_cp, ↓wx_ch, ↓wx_an, ↓wx_orr, ↓wx_ite, ↓wx_tup, ↓wx_lst, ↓wx_aE, ↓wx_aS, ↓wx_ix, ↓wx_sl, ↓wx_fld, ↓wx_call, ↓wp_mcall, ↓wx_mk, ↓wx_aio, ↓wx_abw, ↓wx_bi, ↓wx_pur, ↓wx_sq, ↓wx_rg1, ↓wx_rg2, ↓wx_en, ↓wx_zp, ↓wx_comp, ↓wx_turn, OptW_some, IntW_int, BlW_bl, TupW_tup, LstW_lst, NeedW_true, IfW_true, IfW_false, List.getD_cons_zero, List.getD_cons_succ, List.set_cons_zero, List.set_cons_succ, biD, cp_lt, cp_le, cp_gt, cp_ge, cp_eqI, cp_neI, cp_eqB, cp_neB, cp_isN, cp_notN, isNon, add_i, sub_i, seqOf, loc, ev.putIo, isCt, setTg, setMany, Tg.slots, kill, back, outsOf, List.length_cons, List.length_nil, List.cons_append, List.nil_append, List.replicate, List.length_singleton, at0, at1, at2, at3, at4, atT0, atT1, atT2, atT3, ixN0, ixN1, ixN2, ixN3, ixN4, lenOk0, lenOk1, lenOk2, lenOk3, lenOk4, lenOk5, optI, if_true, Bool.false_eq_true, if_false, Bool.not_true, Bool.not_false, List.any_cons, List.any_nil, tyB, Bool.or_false, Bool.or_true, Bool.and_true, Bool.and_false, Option.map_some, small0, Nat.zero_add, Nat.reduceAdd, Nat.reduceSub, Nat.reduceLT, decide_true, decide_false, Post4.seq, hb0, mul_r (i := e) (j := 48271) (by decide), mul_r (i := c + 1) (j := 69621) (by decide), mul_r (j := 16807) (by decide), mod_p (j := 2147483647) (by decide), mod_p (j := 2147483629) (by decide), fdiv_p (j := 5) (by decide) (by decide), mod_p m0]
        exact ⟨_, _, rfl, rfl, Int.emod_nonneg _ (by omega), Int.emod_lt_of_pos _ m0, _, _, _, _, _, rfl, ha⟩
      · simp -dsimp only [↓wy_one, ↓wy_cons, ↓seq_nx, ↓seq_rt, ↓seq_bk, ↓seq_ct, ↓ws_nil, ↓ws_pass, ↓ws_retn, ↓ws_cont, ↓ws_brk, ↓wy_ret, ↓ws_asg, ↓ws_drop, ↓wy_asgT, ↓wy_asgF, ↓wy_setI, ↓wy_aug, ↓wy_augI, ↓wy_app, ↓wy_ext, ↓wy_ifs, ↓wp_var, ↓wp_mv, ↓wp_fz, ↓wp_ci, ↓wp_cs, ↓wp_cb, ↓wp_cn, ↓wp_so, ↓wp_ct, ↓wp_a0, ↓wx_o2, ↓wx_neg, ↓wx_nt, ↓wx_cp, ↓wx_ch, ↓wx_an, ↓wx_orr, ↓wx_ite, ↓wx_tup, ↓wx_lst, ↓wx_aE, ↓wx_aS, ↓wx_ix, ↓wx_sl, ↓wx_fld, ↓wx_call, ↓wp_mcall, ↓wx_mk, ↓wx_aio, ↓wx_abw, ↓wx_bi, ↓wx_pur, ↓wx_sq, ↓wx_rg1, ↓wx_rg2, ↓wx_en, ↓wx_zp, ↓wx_comp, ↓wx_turn, OptW_some, IntW_int, BlW_bl, TupW_tup, LstW_lst, NeedW_true, IfW_true, IfW_false, List.getD_cons_zero, List.getD_cons_succ, List.set_cons_zero, List.set_cons_succ, biD, cp_lt, cp_le, cp_gt, cp_ge, cp_eqI, cp_neI, cp_eqB, cp_neB, cp_isN, cp_notN, isNon, add_i, sub_i, seqOf, loc, ev.putIo, isCt, setTg, setMany, Tg.slots, kill, back, outsOf, List.length_cons, List.length_nil, List.cons_append, List.nil_append, List.replicate, List.length_singleton, at0, at1, at2, at3, at4, atT0, atT1, atT2, atT3, ixN0, ixN1, ixN2, ixN3, ixN4, lenOk0, lenOk1, lenOk2, lenOk3, lenOk4, lenOk5, optI, if_true, Bool.false_eq_true, if_false, Bool.not_true, Bool.not_false, List.any_cons, List.any_nil, tyB, Bool.or_false, Bool.or_true, Bool.and_true, Bool.and_false, Option.map_some, small0, Nat.zero_add, Nat.reduceAdd, Nat.reduceSub, Nat.reduceLT, decide_true, decide_false, Post4.seq, hb0, mod_p m0, fdiv_p m0 m1]
        exact ⟨_, _, rfl, rfl, Int.emod_nonneg _ (by omega), Int.emod_lt_of_pos _ m0, _, _, _, _, _, rfl, ha⟩
    clear hR
    simp -dsimp only [↓wy_one, ↓wy_cons, ↓seq_nx, ↓seq_rt, ↓seq_bk, ↓seq_ct, ↓ws_nil, ↓ws_pass, ↓ws_retn, ↓ws_cont, ↓ws_brk, ↓wy_ret, ↓ws_asg, ↓ws_drop, ↓wy_asgT, ↓wy_asgF, ↓wy_setI, ↓wy_aug, ↓wy_augI, ↓wy_app, ↓wy_ext, ↓wy_ifs, ↓wp_var, ↓wp_mv, ↓wp_fz, ↓wp_ci, ↓wp_cs, ↓wp_cb, ↓wp_cn, ↓wp_so, ↓wp_ct, ↓wp_a0, ↓wx_o2, ↓wx_neg, ↓wx_nt, ↓wx_cp, ↓wx_ch, ↓wx_an, ↓wx_orr, ↓wx_ite, ↓wx_tup, ↓wx_lst, ↓wx_aE, ↓wx_aS, ↓wx_ix, ↓wx_sl, ↓wx_fld, ↓wx_call, ↓wp_mcall, ↓wx_mk, ↓wx_aio, ↓wx_abw, ↓wx_bi, ↓wx_pur, ↓wx_sq, ↓wx_rg1, ↓wx_rg2, ↓wx_en, ↓wx_zp, ↓wx_comp, ↓wx_turn, OptW_some, IntW_int, BlW_bl, TupW_tup, LstW_lst, NeedW_true, IfW_true, IfW_false, List.getD_cons_zero, List.getD_cons_succ, List.set_cons_zero, List.set_cons_succ, biD, cp_lt, cp_le, cp_gt, cp_ge, cp_eqI, cp_neI, cp_eqB, cp_neB, cp_isN, cp_notN, isNon, add_i, sub_i, seqOf, loc, ev.putIo, isCt, setTg, setMany, Tg.slots, kill, back, outsOf, List.length_cons, List.length_nil, List.cons_append, List.nil_append, List.replicate, List.length_singleton, at0, at1, at2, at3, at4, atT0, atT1, atT2, atT3, ixN0, ixN1, ixN2, ixN3, ixN4, lenOk0, lenOk1, lenOk2, lenOk3, lenOk4, lenOk5, optI, if_true, Bool.false_eq_true, if_false, Bool.not_true, Bool.not_false, List.any_cons, List.any_nil, tyB, Bool.or_false, Bool.or_true, Bool.and_true, Bool.and_false, Option.map_some, small0, Nat.zero_add, Nat.reduceAdd, Nat.reduceSub, Nat.reduceLT, decide_true, decide_false, Post4.seq]
    refine IfW_cases (fun h1 => ?_) (fun h1 => by simp -dsimp only [↓wy_one, ↓wy_cons, ↓seq_nx, ↓seq_rt, ↓seq_bk, ↓seq_ct, ↓ws_nil, ↓ws_pass, ↓ws_retn, ↓ws_cont, ↓ws_brk, ↓wy_ret, ↓ws_asg, ↓ws_drop, ↓wy_asgT, ↓wy_asgF, ↓wy_setI, ↓wy_aug, ↓wy_augI, ↓wy_app, ↓wy_ext, ↓wy_ifs, ↓wp_var, ↓wp_mv, ↓wp_fz, ↓wp_ci, ↓wp_cs, ↓wp_cb, ↓wp_cn, ↓wp_so, ↓wp_ct, ↓wp_a0, ↓wx_o2, ↓wx_neg, ↓wx_nt, ↓wx_cp, ↓wx_ch, ↓wx_an, ↓wx_orr, ↓wx_ite, ↓wx_tup, ↓wx_lst, ↓wx_aE, ↓wx_aS, ↓wx_ix, ↓wx_sl, ↓wx_fld, ↓wx_call, ↓wp_mcall, ↓wx_mk, ↓wx_aio, ↓wx_abw, ↓wx_bi, ↓wx_pur, ↓wx_sq, ↓wx_rg1, ↓wx_rg2, ↓wx_en, ↓wx_zp, ↓wx_comp, ↓wx_turn, OptW_some, IntW_int, BlW_bl, TupW_tup, LstW_lst, NeedW_true, IfW_true, IfW_false, List.getD_cons_zero, List.getD_cons_succ, List.set_cons_zero, List.set_cons_succ, biD, cp_lt, cp_le, cp_gt, cp_ge, cp_eqI, cp_neI, cp_eqB, cp_neB, cp_isN, cp_notN, isNon, add_i, sub_i, seqOf, loc, ev.putIo, isCt, setTg, setMany, Tg.slots, kill, back, outsOf, List.length_cons, List.length_nil, List.cons_append, List.nil_append, List.replicate, List.length_singleton, at0, at1, at2, at3, at4, atT0, atT1, atT2, atT3, ixN0, ixN1, ixN2, ixN3, ixN4, lenOk0, lenOk1, lenOk2, lenOk3, lenOk4, lenOk5, optI, if_true, Bool.false_eq_true, if_false, Bool.not_true, Bool.not_false, List.any_cons, List.any_nil, tyB, Bool.or_false, Bool.or_true, Bool.and_true, Bool.and_false, Option.map_some, small0, Nat.zero_add, Nat.reduceAdd, Nat.reduceSub, Nat.reduceLT, decide_true, decide_false, Post4.seq]; exact rest _ _ _ _ _ _ ha)
    simp -dsimp only [↓wy_one, ↓wy_cons, ↓seq_nx, ↓seq_rt, ↓seq_bk, ↓seq_ct, ↓ws_nil, ↓ws_pass, ↓ws_retn, ↓ws_cont, ↓ws_brk, ↓wy_ret, ↓ws_asg, ↓ws_drop, ↓wy_asgT, ↓wy_asgF, ↓wy_setI, ↓wy_aug, ↓wy_augI, ↓wy_app, ↓wy_ext, ↓wy_ifs, ↓wp_var, ↓wp_mv, ↓wp_fz, ↓wp_ci, ↓wp_cs, ↓wp_cb, ↓wp_cn, ↓wp_so, ↓wp_ct, ↓wp_a0, ↓wx_o2, ↓wx_neg, ↓wx_nt, ↓wx_cp, ↓wx_ch, ↓wx_an, ↓wx_orr, ↓wx_ite, ↓wx_tup, ↓wx_lst, ↓wx_aE, ↓wx_aS, ↓wx_ix, ↓wx_sl, ↓wx_fld, ↓wx_call, ↓wp_mcall, ↓wx_mk, ↓wx_aio, ↓wx_abw, ↓wx_bi, ↓wx_pur, ↓wx_sq, ↓wx_rg1, ↓wx_rg2, ↓wx_en, ↓wx_zp, ↓wx_comp, ↓wx_turn, OptW_some, IntW_int, BlW_bl, TupW_tup, LstW_lst, NeedW_true, IfW_true, IfW_false, List.getD_cons_zero, List.getD_cons_succ, List.set_cons_zero, List.set_cons_succ, biD, cp_lt, cp_le, cp_gt, cp_ge, cp_eqI, cp_neI, cp_eqB, cp_neB, cp_isN, cp_notN, isNon, add_i, sub_i, seqOf, loc, ev.putIo, isCt, setTg, setMany, Tg.slots, kill, back, outsOf, List.length_cons, List.length_nil, List.cons_append, List.nil_append, List.replicate, List.length_singleton, at0, at1, at2, at3, at4, atT0, atT1, atT2, atT3, ixN0, ixN1, ixN2, ixN3, ixN4, lenOk0, lenOk1, lenOk2, lenOk3, lenOk4, lenOk5, optI, if_true, Bool.false_eq_true, if_false, Bool.not_true, Bool.not_false, List.any_cons, List.any_nil, tyB, Bool.or_false, Bool.or_true, Bool.and_true, Bool.and_false, Option.map_some, small0, Nat.zero_add, Nat.reduceAdd, Nat.reduceSub, Nat.reduceLT, decide_true, decide_false, Post4.seq]
    refine IfW_cases (fun h2 => ?_) (fun h2 => by simp -dsimp only [↓wy_one, ↓wy_cons, ↓seq_nx, ↓seq_rt, ↓seq_bk, ↓seq_ct, ↓ws_nil, ↓ws_pass, ↓ws_retn, ↓ws_cont, ↓ws_brk, ↓wy_ret, ↓ws_asg, ↓ws_drop, ↓wy_asgT, ↓wy_asgF, ↓wy_setI, ↓wy_aug, ↓wy_augI, ↓wy_app, ↓wy_ext, ↓wy_ifs, ↓wp_var, ↓wp_mv, ↓wp_fz, ↓wp_ci, ↓wp_cs, ↓wp_cb, ↓wp_cn, ↓wp_so, ↓wp_ct, ↓wp_a0, ↓wx_o2, ↓wx_neg, ↓wx_nt, ↓wx_cp, ↓wx_ch, ↓wx_an, ↓wx_orr, ↓wx_ite, ↓wx_tup, ↓wx_lst, ↓wx_aE, ↓wx_aS, ↓wx_ix, ↓wx_sl, ↓wx_fld, ↓wx_call, ↓wp_mcall, ↓wx_mk, ↓wx_aio, ↓wx_abw, ↓wx_bi, ↓wx_pur, ↓wx_sq, ↓wx_rg1, ↓wx_rg2, ↓wx_en, ↓wx_zp, ↓wx_comp, ↓wx_turn, OptW_some, IntW_int, BlW_bl, TupW_tup, LstW_lst, NeedW_true, IfW_true, IfW_false, List.getD_cons_zero, List.getD_cons_succ, List.set_cons_zero, List.set_cons_succ, biD, cp_lt, cp_le, cp_gt, cp_ge, cp_eqI, cp_neI, cp_eqB, cp_neB, cp_isN, cp_notN, isNon, add_i, sub_i, seqOf, loc, ev.putIo, isCt, setTg, setMany, Tg.slots, kill, back, outsOf, List.length_cons, List.length_nil, List.cons_append, List.nil_append, List.replicate, List.length_singleton, at0, at1, at2, at3, at4, atT0, atT1, atT2, atT3, ixN0, ixN1, ixN2, ixN3, ixN4, lenOk0, lenOk1, lenOk2, lenOk3, lenOk4, lenOk5, optI, if_true, Bool.false_eq_true, if_false, Bool.not_true, Bool.not_false, List.any_cons, List.any_nil, tyB, Bool.or_false, Bool.or_true, Bool.and_true, Bool.and_false, Option.map_some, small0, Nat.zero_add, Nat.reduceAdd, Nat.reduceSub, Nat.reduceLT, decide_true, decide_false, Post4.seq]; exact rest _ _ _ _ _ _ ha)
    have h2 : a < xs.length := by simpa using h2
    simp -dsimp only [↓wy_one, ↓wy_cons, ↓seq_nx, ↓seq_rt, ↓seq_bk, ↓seq_ct, ↓ws_nil, ↓ws_pass, ↓ws_retn, ↓ws_cont, ↓ws_brk, ↓wy_ret, ↓ws_asg, ↓ws_drop, ↓wy_asgT, ↓wy_asgF, ↓wy_setI, ↓wy_aug, ↓wy_augI, ↓wy_app, ↓wy_ext, ↓wy_ifs, ↓wp_var, ↓wp_mv, ↓wp_fz, ↓wp_ci, ↓wp_cs, ↓wp_cb, ↓wp_cn, ↓wp_so, ↓wp_ct, ↓wp_a0, ↓wx_o2, ↓wx_neg, ↓wx_nt, ↓wx_cp, ↓wx_ch, ↓wx_an, ↓wx_orr, ↓wx_ite, ↓wx_tup, ↓wx_lst, ↓wx_aE, ↓wx_aS, ↓wx_ix, ↓wx_sl, ↓wx_fld, ↓wx_call, ↓wp_mcall, ↓wx_mk, ↓wx_aio, ↓wx_abw, ↓wx_bi, ↓wx_pur, ↓wx_sq, ↓wx_rg1, ↓wx_rg2, ↓wx_en, ↓wx_zp, ↓wx_comp, ↓wx_turn, OptW_some, IntW_int, BlW_bl, TupW_tup, LstW_lst, NeedW_true, IfW_true, IfW_false, List.getD_cons_zero, List.getD_cons_succ, List.set_cons_zero, List.set_cons_succ, biD, cp_lt, cp_le, cp_gt, cp_ge, cp_eqI, cp_neI, cp_eqB, cp_neB, cp_isN, cp_notN, isNon, add_i, sub_i, seqOf, loc, ev.putIo, isCt, setTg, setMany, Tg.slots, kill, back, outsOf, List.length_cons, List.length_nil, List.cons_append, List.nil_append, List.replicate, List.length_singleton, at0, at1, at2, at3, at4, atT0, atT1, atT2, atT3, ixN0, ixN1, ixN2, ixN3, ixN4, lenOk0, lenOk1, lenOk2, lenOk3, lenOk4, lenOk5, optI, if_true, Bool.false_eq_true, if_false, Bool.not_true, Bool.not_false, List.any_cons, List.any_nil, tyB, Bool.or_false, Bool.or_true, Bool.and_true, Bool.and_false, Option.map_some, small0, Nat.zero_add, Nat.reduceAdd, Nat.reduceSub, Nat.reduceLT, decide_true, decide_false, Post4.seq, at_int ha h2]
    refine IfW_cases (fun h3 => ?_) (fun h3 => by simp -dsimp only [↓wy_one, ↓wy_cons, ↓seq_nx, ↓seq_rt, ↓seq_bk, ↓seq_ct, ↓ws_nil, ↓ws_pass, ↓ws_retn, ↓ws_cont, ↓ws_brk, ↓wy_ret, ↓ws_asg, ↓ws_drop, ↓wy_asgT, ↓wy_asgF, ↓wy_setI, ↓wy_aug, ↓wy_augI, ↓wy_app, ↓wy_ext, ↓wy_ifs, ↓wp_var, ↓wp_mv, ↓wp_fz, ↓wp_ci, ↓wp_cs, ↓wp_cb, ↓wp_cn, ↓wp_so, ↓wp_ct, ↓wp_a0, ↓wx_o2, ↓wx_neg, ↓wx_nt, ↓wx_cp, ↓wx_ch, ↓wx_an, ↓wx_orr, ↓wx_ite, ↓wx_tup, ↓wx_lst, ↓wx_aE, ↓wx_aS, ↓wx_ix, ↓wx_sl, ↓wx_fld, ↓wx_call, ↓wp_mcall, ↓wx_mk, ↓wx_aio, ↓wx_abw, ↓wx_bi, ↓wx_pur, ↓wx_sq, ↓wx_rg1, ↓wx_rg2, ↓wx_en, ↓wx_zp, ↓wx_comp, ↓wx_turn, OptW_some, IntW_int, BlW_bl, TupW_tup, LstW_lst, NeedW_true, IfW_true, IfW_false, List.getD_cons_zero, List.getD_cons_succ, List.set_cons_zero, List.set_cons_succ, biD, cp_lt, cp_le, cp_gt, cp_ge, cp_eqI, cp_neI, cp_eqB, cp_neB, cp_isN, cp_notN, isNon, add_i, sub_i, seqOf, loc, ev.putIo, isCt, setTg, setMany, Tg.slots, kill, back, outsOf, List.length_cons, List.length_nil, List.cons_append, List.nil_append, List.replicate, List.length_singleton, at0, at1, at2, at3, at4, atT0, atT1, atT2, atT3, ixN0, ixN1, ixN2, ixN3, ixN4, lenOk0, lenOk1, lenOk2, lenOk3, lenOk4, lenOk5, optI, if_true, Bool.false_eq_true, if_false, Bool.not_true, Bool.not_false, List.any_cons, List.any_nil, tyB, Bool.or_false, Bool.or_true, Bool.and_true, Bool.and_false, Option.map_some, small0, Nat.zero_add, Nat.reduceAdd, Nat.reduceSub, Nat.reduceLT, decide_true, decide_false, Post4.seq]; exact rest _ _ _ _ _ _ (by omega))
    obtain ⟨v, hv⟩ := spread_spec (k := k - 1) (by omega) hsp hsb hsps hsn (xs.getD a.toNat 0)
    simp -dsimp only [↓wy_one, ↓wy_cons, ↓seq_nx, ↓seq_rt, ↓seq_bk, ↓seq_ct, ↓ws_nil, ↓ws_pass, ↓ws_retn, ↓ws_cont, ↓ws_brk, ↓wy_ret, ↓ws_asg, ↓ws_drop, ↓wy_asgT, ↓wy_asgF, ↓wy_setI, ↓wy_aug, ↓wy_augI, ↓wy_app, ↓wy_ext, ↓wy_ifs, ↓wp_var, ↓wp_mv, ↓wp_fz, ↓wp_ci, ↓wp_cs, ↓wp_cb, ↓wp_cn, ↓wp_so, ↓wp_ct, ↓wp_a0, ↓wx_o2, ↓wx_neg, ↓wx_nt, ↓wx_cp, ↓wx_ch, ↓wx_an, ↓wx_orr, ↓wx_ite, ↓wx_tup, ↓wx_lst, ↓wx_aE, ↓wx_aS, ↓wx_ix, ↓wx_sl, ↓wx_fld, ↓wx_call, ↓wp_mcall, ↓wx_mk, ↓wx_aio, ↓wx_abw, ↓wx_bi, ↓wx_pur, ↓wx_sq, ↓wx_rg1, ↓wx_rg2, ↓wx_en, ↓wx_zp, ↓wx_comp, ↓wx_turn, OptW_some, IntW_int, BlW_bl, TupW_tup, LstW_lst, NeedW_true, IfW_true, IfW_false, List.getD_cons_zero, List.getD_cons_succ, List.set_cons_zero, List.set_cons_succ, biD, cp_lt, cp_le, cp_gt, cp_ge, cp_eqI, cp_neI, cp_eqB, cp_neB, cp_isN, cp_notN, isNon, add_i, sub_i, seqOf, loc, ev.putIo, isCt, setTg, setMany, Tg.slots, kill, back, outsOf, List.length_cons, List.length_nil, List.cons_append, List.nil_append, List.replicate, List.length_singleton, at0, at1, at2, at3, at4, atT0, atT1, atT2, atT3, ixN0, ixN1, ixN2, ixN3, ixN4, lenOk0, lenOk1, lenOk2, lenOk3, lenOk4, lenOk5, optI, if_true, Bool.false_eq_true, if_false, Bool.not_true, Bool.not_false, List.any_cons, List.any_nil, tyB, Bool.or_false, Bool.or_true, Bool.and_true, Bool.and_false, Option.map_some, small0, Nat.zero_add, Nat.reduceAdd, Nat.reduceSub, Nat.reduceLT, decide_true, decide_false, Post4.seq, hv]
    exact rest _ _ _ _ _ _ (by omega)
end
end DI
end
section
set_option Elab.async false
set_option linter.all false
set_option maxRecDepth 100000
/-! The laws' own helpers, part 2. -/
namespace DI
open PySem
section
variable {fs : List Fn} {k : Nat}
theorem slice_ints {xs : List Int} {lo hi : Option Int} : ∃ ms : List Int, slD (.lst (xs.map D.int)) lo hi = some (.lst (ms.map D.int)) := by
  refine ⟨(xs.drop (HT.sIx (xs.map D.int).length 0 lo)).take (HT.sIx (xs.map D.int).length (xs.map D.int).length hi - HT.sIx (xs.map D.int).length 0 lo), ?_⟩
  show some (D.lst (cutD _ _ _)) = _
  unfold cutD
  rw [List.map_take, List.map_drop]
def plainP : PK → Bool
  | .z => true
  | .bw _ => true
  | _ => false
theorem outs_nil : ∀ {ps : List PK} {ρ : Rho}, ps.all plainP = true → outsOf ps ρ = []
  | [], _, _ => by cases ‹Rho› <;> rfl
  | p :: ps, [], h => by cases p <;> first | rfl | (simp [plainP] at h)
  | p :: ps, d :: ρ, h => by
    simp only [List.all_cons, Bool.and_eq_true] at h
    have ih := outs_nil (ρ := ρ) h.2
    cases p <;> first | exact ih | (simp [plainP] at h)
/-! ### the pool -/
def Bpool : S := (.cons (.asg 1 (.ci 7)) (.cons (.for_ (.one 2) (.sq (.sl (.var 0) .so (.ci 63))) (.cons (.asg 1 (.o2 .mod (.bi .intOf (.aE (.o2 .add (.o2 .mul (.var 1) (.ci 31)) (.var 2)) .a0)) (.ci 1000003))) .nil) [2] []) (.cons (.ret (.lst (.aE (.bi .listOf (.aE (.var 0) .a0)) (.aE (.ci 0) (.aE (.ci 0) (.aE (.ci 0) (.aE (.var 1) .a0))))))) .nil)))
theorem pool_spec {i : Nat} {d : Fn} (hk : 0 < k) (hi : fs[i]? = some d) (hb : d.body = Bpool) (hp : d.sg.ps = [.z]) (hn : d.nn = 3) (ns : List Int) : ∃ p, callN fs k i [.lst (ns.map D.int)] = some (p, []) ∧ PoolOk p := by
  have := call_of (fs := fs) (k := k) (i := i) (d := d) (ds := [.lst (ns.map D.int)]) (R := fun r outs => outs = [] ∧ PoolOk r) hk hi (by rw [hp]; rfl) ?_
  · obtain ⟨r, outs, h, rfl, h2⟩ := this; exact ⟨r, h, h2⟩
  · rw [hb, hn, hp]
    unfold Bpool
    obtain ⟨ms, hms⟩ := slice_ints (xs := ns) (lo := none) (hi := some 63)
    simp -dsimp only [↓wy_one, ↓wy_cons, ↓seq_nx, ↓seq_rt, ↓seq_bk, ↓seq_ct, ↓ws_nil, ↓ws_pass, ↓ws_retn, ↓ws_cont, ↓ws_brk, ↓wy_ret, ↓ws_asg, ↓ws_drop, ↓wy_asgT, ↓wy_asgF, ↓wy_setI, ↓wy_aug, ↓wy_augI, ↓wy_app, ↓wy_ext, ↓wy_ifs, ↓wp_var, ↓wp_mv, ↓wp_fz, ↓wp_ci, ↓wp_cs, ↓wp_cb, ↓wp_cn, ↓wp_so, ↓wp_ct, ↓wp_a0, ↓wx_o2, ↓wx_neg, ↓wx_nt, ↓wx_cp, ↓wx_ch, ↓wx_an, ↓wx_orr, ↓wx_ite, ↓wx_tup, ↓wx_lst, ↓wx_aE, ↓wx_aS, ↓wx_ix, ↓wx_sl, ↓wx_fld, ↓wx_call, ↓wp_mcall, ↓wx_mk, ↓wx_aio, ↓wx_abw, ↓wx_bi, ↓wx_pur, ↓wx_sq, ↓wx_rg1, ↓wx_rg2, ↓wx_en, ↓wx_zp, ↓wx_comp, ↓wx_turn, OptW_some, IntW_int, BlW_bl, TupW_tup, LstW_lst, NeedW_true, IfW_true, IfW_false, List.getD_cons_zero, List.getD_cons_succ, List.set_cons_zero, List.set_cons_succ, biD, cp_lt, cp_le, cp_gt, cp_ge, cp_eqI, cp_neI, cp_eqB, cp_neB, cp_isN, cp_notN, isNon, add_i, sub_i, seqOf, loc, ev.putIo, isCt, setTg, setMany, Tg.slots, kill, back, outsOf, List.length_cons, List.length_nil, List.cons_append, List.nil_append, List.replicate, List.length_singleton, at0, at1, at2, at3, at4, atT0, atT1, atT2, atT3, ixN0, ixN1, ixN2, ixN3, ixN4, lenOk0, lenOk1, lenOk2, lenOk3, lenOk4, lenOk5, optI, if_true, Bool.false_eq_true, if_false, Bool.not_true, Bool.not_false, List.any_cons, List.any_nil, tyB, Bool.or_false, Bool.or_true, Bool.and_true, Bool.and_false, Option.map_some, small0, Nat.zero_add, Nat.reduceAdd, Nat.reduceSub, Nat.reduceLT, decide_true, decide_false, Post4.seq]
    refine for_inv (I := fun l ρ => (∃ ns : List Int, l = ns.map D.int) ∧ ∃ a x, ρ = [.lst (ns.map D.int), .int a, x]) ?_ ?_ ?_
    · simp -dsimp only [↓wy_one, ↓wy_cons, ↓seq_nx, ↓seq_rt, ↓seq_bk, ↓seq_ct, ↓ws_nil, ↓ws_pass, ↓ws_retn, ↓ws_cont, ↓ws_brk, ↓wy_ret, ↓ws_asg, ↓ws_drop, ↓wy_asgT, ↓wy_asgF, ↓wy_setI, ↓wy_aug, ↓wy_augI, ↓wy_app, ↓wy_ext, ↓wy_ifs, ↓wp_var, ↓wp_mv, ↓wp_fz, ↓wp_ci, ↓wp_cs, ↓wp_cb, ↓wp_cn, ↓wp_so, ↓wp_ct, ↓wp_a0, ↓wx_o2, ↓wx_neg, ↓wx_nt, ↓wx_cp, ↓wx_ch, ↓wx_an, ↓wx_orr, ↓wx_ite, ↓wx_tup, ↓wx_lst, ↓wx_aE, ↓wx_aS, ↓wx_ix, ↓wx_sl, ↓wx_fld, ↓wx_call, ↓wp_mcall, ↓wx_mk, ↓wx_aio, ↓wx_abw, ↓wx_bi, ↓wx_pur, ↓wx_sq, ↓wx_rg1, ↓wx_rg2, ↓wx_en, ↓wx_zp, ↓wx_comp, ↓wx_turn, OptW_some, IntW_int, BlW_bl, TupW_tup, LstW_lst, NeedW_true, IfW_true, IfW_false, List.getD_cons_zero, List.getD_cons_succ, List.set_cons_zero, List.set_cons_succ, biD, cp_lt, cp_le, cp_gt, cp_ge, cp_eqI, cp_neI, cp_eqB, cp_neB, cp_isN, cp_notN, isNon, add_i, sub_i, seqOf, loc, ev.putIo, isCt, setTg, setMany, Tg.slots, kill, back, outsOf, List.length_cons, List.length_nil, List.cons_append, List.nil_append, List.replicate, List.length_singleton, at0, at1, at2, at3, at4, atT0, atT1, atT2, atT3, ixN0, ixN1, ixN2, ixN3, ixN4, lenOk0, lenOk1, lenOk2, lenOk3, lenOk4, lenOk5, optI, if_true, Bool.false_eq_true, if_false, Bool.not_true, Bool.not_false, List.any_cons, List.any_nil, tyB, Bool.or_false, Bool.or_true, Bool.and_true, Bool.and_false, Option.map_some, small0, Nat.zero_add, Nat.reduceAdd, Nat.reduceSub, Nat.reduceLT, decide_true, decide_false, Post4.seq, hms]
      exact ⟨_, rfl, ⟨ms, rfl⟩, _, _, rfl⟩
    · rintro ρ2 ⟨_, a, x, rfl⟩
      simp -dsimp only [↓wy_one, ↓wy_cons, ↓seq_nx, ↓seq_rt, ↓seq_bk, ↓seq_ct, ↓ws_nil, ↓ws_pass, ↓ws_retn, ↓ws_cont, ↓ws_brk, ↓wy_ret, ↓ws_asg, ↓ws_drop, ↓wy_asgT, ↓wy_asgF, ↓wy_setI, ↓wy_aug, ↓wy_augI, ↓wy_app, ↓wy_ext, ↓wy_ifs, ↓wp_var, ↓wp_mv, ↓wp_fz, ↓wp_ci, ↓wp_cs, ↓wp_cb, ↓wp_cn, ↓wp_so, ↓wp_ct, ↓wp_a0, ↓wx_o2, ↓wx_neg, ↓wx_nt, ↓wx_cp, ↓wx_ch, ↓wx_an, ↓wx_orr, ↓wx_ite, ↓wx_tup, ↓wx_lst, ↓wx_aE, ↓wx_aS, ↓wx_ix, ↓wx_sl, ↓wx_fld, ↓wx_call, ↓wp_mcall, ↓wx_mk, ↓wx_aio, ↓wx_abw, ↓wx_bi, ↓wx_pur, ↓wx_sq, ↓wx_rg1, ↓wx_rg2, ↓wx_en, ↓wx_zp, ↓wx_comp, ↓wx_turn, OptW_some, IntW_int, BlW_bl, TupW_tup, LstW_lst, NeedW_true, IfW_true, IfW_false, List.getD_cons_zero, List.getD_cons_succ, List.set_cons_zero, List.set_cons_succ, biD, cp_lt, cp_le, cp_gt, cp_ge, cp_eqI, cp_neI, cp_eqB, cp_neB, cp_isN, cp_notN, isNon, add_i, sub_i, seqOf, loc, ev.putIo, isCt, setTg, setMany, Tg.slots, kill, back, outsOf, List.length_cons, List.length_nil, List.cons_append, List.nil_append, List.replicate, List.length_singleton, at0, at1, at2, at3, at4, atT0, atT1, atT2, atT3, ixN0, ixN1, ixN2, ixN3, ixN4, lenOk0, lenOk1, lenOk2, lenOk3, lenOk4, lenOk5, optI, if_true, Bool.false_eq_true, if_false, Bool.not_true, Bool.not_false, List.any_cons, List.any_nil, tyB, Bool.or_false, Bool.or_true, Bool.and_true, Bool.and_false, Option.map_some, small0, Nat.zero_add, Nat.reduceAdd, Nat.reduceSub, Nat.reduceLT, decide_true, decide_false, Post4.seq]
      exact ⟨trivial, ns, 0, 0, 0, a, rfl, by omega⟩
    · rintro d ds ρ1 ⟨⟨ns', e⟩, a, x, rfl⟩
      cases ns' with
      | nil => cases e
      | cons n ns' =>
        cases e
        refine ⟨_, rfl, ?_⟩
        simp -dsimp only [↓wy_one, ↓wy_cons, ↓seq_nx, ↓seq_rt, ↓seq_bk, ↓seq_ct, ↓ws_nil, ↓ws_pass, ↓ws_retn, ↓ws_cont, ↓ws_brk, ↓wy_ret, ↓ws_asg, ↓ws_drop, ↓wy_asgT, ↓wy_asgF, ↓wy_setI, ↓wy_aug, ↓wy_augI, ↓wy_app, ↓wy_ext, ↓wy_ifs, ↓wp_var, ↓wp_mv, ↓wp_fz, ↓wp_ci, ↓wp_cs, ↓wp_cb, ↓wp_cn, ↓wp_so, ↓wp_ct, ↓wp_a0, ↓wx_o2, ↓wx_neg, ↓wx_nt, ↓wx_cp, ↓wx_ch, ↓wx_an, ↓wx_orr, ↓wx_ite, ↓wx_tup, ↓wx_lst, ↓wx_aE, ↓wx_aS, ↓wx_ix, ↓wx_sl, ↓wx_fld, ↓wx_call, ↓wp_mcall, ↓wx_mk, ↓wx_aio, ↓wx_abw, ↓wx_bi, ↓wx_pur, ↓wx_sq, ↓wx_rg1, ↓wx_rg2, ↓wx_en, ↓wx_zp, ↓wx_comp, ↓wx_turn, OptW_some, IntW_int, BlW_bl, TupW_tup, LstW_lst, NeedW_true, IfW_true, IfW_false, List.getD_cons_zero, List.getD_cons_succ, List.set_cons_zero, List.set_cons_succ, biD, cp_lt, cp_le, cp_gt, cp_ge, cp_eqI, cp_neI, cp_eqB, cp_neB, cp_isN, cp_notN, isNon, add_i, sub_i, seqOf, loc, ev.putIo, isCt, setTg, setMany, Tg.slots, kill, back, outsOf, List.length_cons, List.length_nil, List.cons_append, List.nil_append, List.replicate, List.length_singleton, at0, at1, at2, at3, at4, atT0, atT1, atT2, atT3, ixN0, ixN1, ixN2, ixN3, ixN4, lenOk0, lenOk1, lenOk2, lenOk3, lenOk4, lenOk5, optI, if_true, Bool.false_eq_true, if_false, Bool.not_true, Bool.not_false, List.any_cons, List.any_nil, tyB, Bool.or_false, Bool.or_true, Bool.and_true, Bool.and_false, Option.map_some, small0, Nat.zero_add, Nat.reduceAdd, Nat.reduceSub, Nat.reduceLT, decide_true, decide_false, Post4.seq, mul_r (j := 31) (by decide), mod_p (j := 1000003) (by decide)]
        exact ⟨⟨ns', rfl⟩, _, _, rfl⟩
/-! ### numbers, rows -/
def Bnumber (dr : Nat) : S := (.cons (.ret (.o2 .sub (.call dr (.aio (.var 0) (.aE (.o2 .add (.o2 .mul (.ci 2) (.var 1)) (.ci 1)) .a0))) (.var 1))) .nil)
/-- the drawing defs of a law -/
structure Draws (fs : List Fn) (dr : Nat) : Prop where
  ex : ∃ sp d ds, fs[dr]? = some d ∧ d.body = Bdraw sp ∧ d.sg.ps = [.io (.L .z), .z] ∧ d.nn = 5 ∧ fs[sp]? = some ds ∧ ds.body = Bspread ∧ ds.sg.ps = [.z] ∧ ds.nn = 4
theorem Draws.draw {dr : Nat} (h : Draws fs dr) (hk : 1 < k) {p : D} (hp0 : PoolOk p) {m : Int} (m0 : 0 < m) (m1 : m < 2 ^ 63) : ∃ v p', callN fs k dr [p, .int m] = some (.int v, [p']) ∧ 0 ≤ v ∧ v < m ∧ PoolOk p' := by
  obtain ⟨sp, d, ds, h1, h2, h3, h4, h5, h6, h7, h8⟩ := h.ex
  exact draw_spec hk h1 h2 h3 h4 h5 h6 h7 h8 hp0 m0 m1
theorem number_spec {i dr : Nat} {d : Fn} (D0 : Draws fs dr) (hk : 2 < k) (hi : fs[i]? = some d) (hb : d.body = Bnumber dr) (hp : d.sg.ps = [.io (.L .z), .z]) (hn : d.nn = 2) {p : D} (hp0 : PoolOk p) {t : Int} (t0 : 0 ≤ t) (t1 : t < 2 ^ 61) :
    ∃ v p', callN fs k i [p, .int t] = some (.int v, [p']) ∧ -t ≤ v ∧ v ≤ t ∧ PoolOk p' := by
  obtain ⟨v, p', h1, h2, h3, h4⟩ := D0.draw (k := k - 1) (by omega) hp0 (m := 2 * t + 1) (by omega) (by omega)
  have := call_of (fs := fs) (k := k) (i := i) (d := d) (ds := [p, .int t]) (R := fun r outs => r = .int (v - t) ∧ outs = [p']) (by omega) hi (by rw [hp]; rfl) ?_
  · obtain ⟨r, outs, h, rfl, rfl⟩ := this; exact ⟨_, _, h, by omega, by omega, h4⟩
  · rw [hb, hn, hp]
    unfold Bnumber
    simp -dsimp only [↓wy_one, ↓wy_cons, ↓seq_nx, ↓seq_rt, ↓seq_bk, ↓seq_ct, ↓ws_nil, ↓ws_pass, ↓ws_retn, ↓ws_cont, ↓ws_brk, ↓wy_ret, ↓ws_asg, ↓ws_drop, ↓wy_asgT, ↓wy_asgF, ↓wy_setI, ↓wy_aug, ↓wy_augI, ↓wy_app, ↓wy_ext, ↓wy_ifs, ↓wp_var, ↓wp_mv, ↓wp_fz, ↓wp_ci, ↓wp_cs, ↓wp_cb, ↓wp_cn, ↓wp_so, ↓wp_ct, ↓wp_a0, ↓wx_o2, ↓wx_neg, ↓wx_nt, ↓wx_cp, ↓wx_ch, ↓wx_an, ↓wx_orr, ↓wx_ite, ↓wx_tup, ↓wx_lst, ↓wx_aE, ↓wx_aS, ↓wx_ix, ↓wx_sl, ↓wx_fld, ↓wx_call, ↓wp_mcall, ↓wx_mk, ↓wx_aio, ↓wx_abw, ↓wx_bi, ↓wx_pur, ↓wx_sq, ↓wx_rg1, ↓wx_rg2, ↓wx_en, ↓wx_zp, ↓wx_comp, ↓wx_turn, OptW_some, IntW_int, BlW_bl, TupW_tup, LstW_lst, NeedW_true, IfW_true, IfW_false, List.getD_cons_zero, List.getD_cons_succ, List.set_cons_zero, List.set_cons_succ, biD, cp_lt, cp_le, cp_gt, cp_ge, cp_eqI, cp_neI, cp_eqB, cp_neB, cp_isN, cp_notN, isNon, add_i, sub_i, seqOf, loc, ev.putIo, isCt, setTg, setMany, Tg.slots, kill, back, outsOf, List.length_cons, List.length_nil, List.cons_append, List.nil_append, List.replicate, List.length_singleton, at0, at1, at2, at3, at4, atT0, atT1, atT2, atT3, ixN0, ixN1, ixN2, ixN3, ixN4, lenOk0, lenOk1, lenOk2, lenOk3, lenOk4, lenOk5, optI, if_true, Bool.false_eq_true, if_false, Bool.not_true, Bool.not_false, List.any_cons, List.any_nil, tyB, Bool.or_false, Bool.or_true, Bool.and_true, Bool.and_false, Option.map_some, small0, Nat.zero_add, Nat.reduceAdd, Nat.reduceSub, Nat.reduceLT, decide_true, decide_false, Post4.seq, mul_l (i := 2) (by decide), h1]
    exact ⟨trivial, trivial⟩
def Brow (nu : Nat) : S := (.cons (.ret (.bi .tupleOf (.aE (.comp (.one 3) (.rg1 (.var 1)) .ct (.call nu (.aio (.var 0) (.aE (.var 2) .a0)))) .a0))) .nil)
structure Numbers (fs : List Fn) (nu : Nat) : Prop where
  ex : ∃ dr d, Draws fs dr ∧ fs[nu]? = some d ∧ d.body = Bnumber dr ∧ d.sg.ps = [.io (.L .z), .z] ∧ d.nn = 2
theorem Numbers.number {nu : Nat} (h : Numbers fs nu) (hk : 2 < k) {p : D} (hp0 : PoolOk p) {t : Int} (t0 : 0 ≤ t) (t1 : t < 2 ^ 61) : ∃ v p', callN fs k nu [p, .int t] = some (.int v, [p']) ∧ -t ≤ v ∧ v ≤ t ∧ PoolOk p' := by
  obtain ⟨dr, d, D0, h1, h2, h3, h4⟩ := h.ex
  exact number_spec D0 hk h1 h2 h3 h4 hp0 t0 t1
theorem lenOk_of {n : Nat} (h : n ≤ 1000000) : lenOk n = true := decide_eq_true h
theorem range_len {a n : Int} : (rangeD a n).length = (n - a).toNat := by unfold rangeD; simp
theorem row_spec {i nu : Nat} {d : Fn} (N0 : Numbers fs nu) (hk : 3 < k) (hi : fs[i]? = some d) (hb : d.body = Brow nu) (hp : d.sg.ps = [.io (.L .z), .z, .z]) (hn : d.nn = 4) {p : D} (hp0 : PoolOk p) {m : Nat} (hm : m ≤ 1000000) {t : Int} (t0 : 0 ≤ t) (t1 : t < 2 ^ 61) :
    ∃ (vs : List Int) (p' : D), callN fs k i [p, .int (m : Int), .int t] = some (.tup (vs.map D.int), [p']) ∧ vs.length = m ∧ (∀ v ∈ vs, -t ≤ v ∧ v ≤ t) ∧ PoolOk p' := by
  have := call_of (fs := fs) (k := k) (i := i) (d := d) (ds := [p, .int (m : Int), .int t]) (R := fun r outs => ∃ (vs : List Int) (p' : D), r = .tup (vs.map D.int) ∧ outs = [p'] ∧ vs.length = m ∧ (∀ v ∈ vs, -t ≤ v ∧ v ≤ t) ∧ PoolOk p') (by omega) hi (by rw [hp]; rfl) ?_
  · obtain ⟨r, outs, h, vs, p', rfl, rfl, h2⟩ := this; exact ⟨vs, p', h, h2⟩
  · rw [hb, hn, hp]
    unfold Brow
    simp -dsimp only [↓wy_one, ↓wy_cons, ↓seq_nx, ↓seq_rt, ↓seq_bk, ↓seq_ct, ↓ws_nil, ↓ws_pass, ↓ws_retn, ↓ws_cont, ↓ws_brk, ↓wy_ret, ↓ws_asg, ↓ws_drop, ↓wy_asgT, ↓wy_asgF, ↓wy_setI, ↓wy_aug, ↓wy_augI, ↓wy_app, ↓wy_ext, ↓wy_ifs, ↓wp_var, ↓wp_mv, ↓wp_fz, ↓wp_ci, ↓wp_cs, ↓wp_cb, ↓wp_cn, ↓wp_so, ↓wp_ct, ↓wp_a0, ↓wx_o2, ↓wx_neg, ↓wx_nt, ↓wx_cp, ↓wx_ch, ↓wx_an, ↓wx_orr, ↓wx_ite, ↓wx_tup, ↓wx_lst, ↓wx_aE, ↓wx_aS, ↓wx_ix, ↓wx_sl, ↓wx_fld, ↓wx_call, ↓wp_mcall, ↓wx_mk, ↓wx_aio, ↓wx_abw, ↓wx_bi, ↓wx_pur, ↓wx_sq, ↓wx_rg1, ↓wx_rg2, ↓wx_en, ↓wx_zp, ↓wx_comp, ↓wx_turn, OptW_some, IntW_int, BlW_bl, TupW_tup, LstW_lst, NeedW_true, IfW_true, IfW_false, List.getD_cons_zero, List.getD_cons_succ, List.set_cons_zero, List.set_cons_succ, biD, cp_lt, cp_le, cp_gt, cp_ge, cp_eqI, cp_neI, cp_eqB, cp_neB, cp_isN, cp_notN, isNon, add_i, sub_i, seqOf, loc, ev.putIo, isCt, setTg, setMany, Tg.slots, kill, back, outsOf, List.length_cons, List.length_nil, List.cons_append, List.nil_append, List.replicate, List.length_singleton, at0, at1, at2, at3, at4, atT0, atT1, atT2, atT3, ixN0, ixN1, ixN2, ixN3, ixN4, lenOk0, lenOk1, lenOk2, lenOk3, lenOk4, lenOk5, optI, if_true, Bool.false_eq_true, if_false, Bool.not_true, Bool.not_false, List.any_cons, List.any_nil, tyB, Bool.or_false, Bool.or_true, Bool.and_true, Bool.and_false, Option.map_some, small0, Nat.zero_add, Nat.reduceAdd, Nat.reduceSub, Nat.reduceLT, decide_true, decide_false, Post4.seq]
    rw [small0 (by omega) (by omega), NeedW_true]
    obtain ⟨ys, ρ2, h1, h2⟩ := comp_inv (C := callN fs (k - 1)) (tg := .one 3) (cond := .ct) (elt := .call nu (.aio (.var 0) (.aE (.var 2) .a0)))
      (fun items acc ρ => (∃ ns : List Int, items = ns.map D.int) ∧ ∃ (p : D) (vs : List Int) (x : D), ρ = [p, .int (m : Int), .int t, x] ∧ PoolOk p ∧ acc = vs.map D.int ∧ items.length + acc.length = m ∧ ∀ v ∈ vs, -t ≤ v ∧ v ≤ t)
      (items := rangeD 0 (m : Int)) (acc := []) (ρ1 := [p, .int (m : Int), .int t, .non])
      ⟨range4 m, p, [], .non, rfl, hp0, rfl, by rw [range_len]; simp, fun v hv => nomatch hv⟩ (by
        rintro d ds acc ρ ⟨⟨ns, e⟩, p, vs, x, rfl, hp, rfl, hl, hv⟩
        obtain ⟨v, p', h1, h2, h3, h4⟩ := N0.number (k := k - 1) (by omega) hp t0 t1
        simp -dsimp only [↓wy_one, ↓wy_cons, ↓seq_nx, ↓seq_rt, ↓seq_bk, ↓seq_ct, ↓ws_nil, ↓ws_pass, ↓ws_retn, ↓ws_cont, ↓ws_brk, ↓wy_ret, ↓ws_asg, ↓ws_drop, ↓wy_asgT, ↓wy_asgF, ↓wy_setI, ↓wy_aug, ↓wy_augI, ↓wy_app, ↓wy_ext, ↓wy_ifs, ↓wp_var, ↓wp_mv, ↓wp_fz, ↓wp_ci, ↓wp_cs, ↓wp_cb, ↓wp_cn, ↓wp_so, ↓wp_ct, ↓wp_a0, ↓wx_o2, ↓wx_neg, ↓wx_nt, ↓wx_cp, ↓wx_ch, ↓wx_an, ↓wx_orr, ↓wx_ite, ↓wx_tup, ↓wx_lst, ↓wx_aE, ↓wx_aS, ↓wx_ix, ↓wx_sl, ↓wx_fld, ↓wx_call, ↓wp_mcall, ↓wx_mk, ↓wx_aio, ↓wx_abw, ↓wx_bi, ↓wx_pur, ↓wx_sq, ↓wx_rg1, ↓wx_rg2, ↓wx_en, ↓wx_zp, ↓wx_comp, ↓wx_turn, OptW_some, IntW_int, BlW_bl, TupW_tup, LstW_lst, NeedW_true, IfW_true, IfW_false, List.getD_cons_zero, List.getD_cons_succ, List.set_cons_zero, List.set_cons_succ, biD, cp_lt, cp_le, cp_gt, cp_ge, cp_eqI, cp_neI, cp_eqB, cp_neB, cp_isN, cp_notN, isNon, add_i, sub_i, seqOf, loc, ev.putIo, isCt, setTg, setMany, Tg.slots, kill, back, outsOf, List.length_cons, List.length_nil, List.cons_append, List.nil_append, List.replicate, List.length_singleton, at0, at1, at2, at3, at4, atT0, atT1, atT2, atT3, ixN0, ixN1, ixN2, ixN3, ixN4, lenOk0, lenOk1, lenOk2, lenOk3, lenOk4, lenOk5, optI, if_true, Bool.false_eq_true, if_false, Bool.not_true, Bool.not_false, List.any_cons, List.any_nil, tyB, Bool.or_false, Bool.or_true, Bool.and_true, Bool.and_false, Option.map_some, small0, Nat.zero_add, Nat.reduceAdd, Nat.reduceSub, Nat.reduceLT, decide_true, decide_false, Post4.seq, h1]
        cases ns with
        | nil => cases e
        | cons n ns =>
          cases e
          refine ⟨⟨ns, rfl⟩, p', vs ++ [v], x, rfl, h4, by simp, ?_, fun u hu => ?_⟩
          · simp only [List.length_map, List.length_cons, List.length_append, Option.toList_some, List.length_nil] at hl ⊢; omega
          · rcases List.mem_append.mp hu with q | q
            · exact hv u q
            · rw [List.mem_singleton.mp q]; exact ⟨h2, h3⟩)
    simp -dsimp only [↓wy_one, ↓wy_cons, ↓seq_nx, ↓seq_rt, ↓seq_bk, ↓seq_ct, ↓ws_nil, ↓ws_pass, ↓ws_retn, ↓ws_cont, ↓ws_brk, ↓wy_ret, ↓ws_asg, ↓ws_drop, ↓wy_asgT, ↓wy_asgF, ↓wy_setI, ↓wy_aug, ↓wy_augI, ↓wy_app, ↓wy_ext, ↓wy_ifs, ↓wp_var, ↓wp_mv, ↓wp_fz, ↓wp_ci, ↓wp_cs, ↓wp_cb, ↓wp_cn, ↓wp_so, ↓wp_ct, ↓wp_a0, ↓wx_o2, ↓wx_neg, ↓wx_nt, ↓wx_cp, ↓wx_ch, ↓wx_an, ↓wx_orr, ↓wx_ite, ↓wx_tup, ↓wx_lst, ↓wx_aE, ↓wx_aS, ↓wx_ix, ↓wx_sl, ↓wx_fld, ↓wx_call, ↓wp_mcall, ↓wx_mk, ↓wx_aio, ↓wx_abw, ↓wx_bi, ↓wx_pur, ↓wx_sq, ↓wx_rg1, ↓wx_rg2, ↓wx_en, ↓wx_zp, ↓wx_comp, ↓wx_turn, OptW_some, IntW_int, BlW_bl, TupW_tup, LstW_lst, NeedW_true, IfW_true, IfW_false, List.getD_cons_zero, List.getD_cons_succ, List.set_cons_zero, List.set_cons_succ, biD, cp_lt, cp_le, cp_gt, cp_ge, cp_eqI, cp_neI, cp_eqB, cp_neB, cp_isN, cp_notN, isNon, add_i, sub_i, seqOf, loc, ev.putIo, isCt, setTg, setMany, Tg.slots, kill, back, outsOf, List.length_cons, List.length_nil, List.cons_append, List.nil_append, List.replicate, List.length_singleton, at0, at1, at2, at3, at4, atT0, atT1, atT2, atT3, ixN0, ixN1, ixN2, ixN3, ixN4, lenOk0, lenOk1, lenOk2, lenOk3, lenOk4, lenOk5, optI, if_true, Bool.false_eq_true, if_false, Bool.not_true, Bool.not_false, List.any_cons, List.any_nil, tyB, Bool.or_false, Bool.or_true, Bool.and_true, Bool.and_false, Option.map_some, small0, Nat.zero_add, Nat.reduceAdd, Nat.reduceSub, Nat.reduceLT, decide_true, decide_false, Post4.seq]
    rw [h1, OptW_some]
    obtain ⟨_, p', vs, x, rfl, hp', e, hl, hv⟩ := h2
    have ey : ys = vs.map D.int := by simpa using e
    subst ey
    have hlen : vs.length = m := by simpa using hl
    rw [lenOk_of (by simp; omega), NeedW_true]
    simp -dsimp only [↓wy_one, ↓wy_cons, ↓seq_nx, ↓seq_rt, ↓seq_bk, ↓seq_ct, ↓ws_nil, ↓ws_pass, ↓ws_retn, ↓ws_cont, ↓ws_brk, ↓wy_ret, ↓ws_asg, ↓ws_drop, ↓wy_asgT, ↓wy_asgF, ↓wy_setI, ↓wy_aug, ↓wy_augI, ↓wy_app, ↓wy_ext, ↓wy_ifs, ↓wp_var, ↓wp_mv, ↓wp_fz, ↓wp_ci, ↓wp_cs, ↓wp_cb, ↓wp_cn, ↓wp_so, ↓wp_ct, ↓wp_a0, ↓wx_o2, ↓wx_neg, ↓wx_nt, ↓wx_cp, ↓wx_ch, ↓wx_an, ↓wx_orr, ↓wx_ite, ↓wx_tup, ↓wx_lst, ↓wx_aE, ↓wx_aS, ↓wx_ix, ↓wx_sl, ↓wx_fld, ↓wx_call, ↓wp_mcall, ↓wx_mk, ↓wx_aio, ↓wx_abw, ↓wx_bi, ↓wx_pur, ↓wx_sq, ↓wx_rg1, ↓wx_rg2, ↓wx_en, ↓wx_zp, ↓wx_comp, ↓wx_turn, OptW_some, IntW_int, BlW_bl, TupW_tup, LstW_lst, NeedW_true, IfW_true, IfW_false, List.getD_cons_zero, List.getD_cons_succ, List.set_cons_zero, List.set_cons_succ, biD, cp_lt, cp_le, cp_gt, cp_ge, cp_eqI, cp_neI, cp_eqB, cp_neB, cp_isN, cp_notN, isNon, add_i, sub_i, seqOf, loc, ev.putIo, isCt, setTg, setMany, Tg.slots, kill, back, outsOf, List.length_cons, List.length_nil, List.cons_append, List.nil_append, List.replicate, List.length_singleton, at0, at1, at2, at3, at4, atT0, atT1, atT2, atT3, ixN0, ixN1, ixN2, ixN3, ixN4, lenOk0, lenOk1, lenOk2, lenOk3, lenOk4, lenOk5, optI, if_true, Bool.false_eq_true, if_false, Bool.not_true, Bool.not_false, List.any_cons, List.any_nil, tyB, Bool.or_false, Bool.or_true, Bool.and_true, Bool.and_false, Option.map_some, small0, Nat.zero_add, Nat.reduceAdd, Nat.reduceSub, Nat.reduceLT, decide_true, decide_false, Post4.seq]
    exact ⟨vs, p', rfl, rfl, hlen, hv, hp'⟩
/-! ### the greatest common divisor -/
def Bcommon : S := (.cons (.for_ (.one 2) (.rg1 (.ci 2000)) (.cons (.ifs (.cp .eq (.var 1) (.ci 0)) (.cons (.ret (.var 0)) .nil) .nil) (.cons (.asg 3 (.o2 .mod (.bi .intOf (.aE (.var 0) .a0)) (.var 1))) (.cons (.asg 0 (.var 1)) (.cons (.asg 1 (.var 3)) .nil)))) [2, 3] []) (.cons (.ret (.var 0)) .nil))
def Bcom1 : S := (.cons (.ifs (.cp .eq (.var 1) (.ci 0)) (.cons (.ret (.var 0)) .nil) .nil) (.cons (.asg 3 (.o2 .mod (.bi .intOf (.aE (.var 0) .a0)) (.var 1))) (.cons (.asg 0 (.var 1)) (.cons (.asg 1 (.var 3)) .nil))))
theorem com_step {C : Calls} {a b : Nat} {x y z : D} {ds : List D} (hb : b ≠ 0) : loopF [2, 3] (.one 2) (fun ρ => ex C Bcom1 ρ) (z :: ds) [.int (a : Int), .int (b : Int), x, y] = loopF [2, 3] (.one 2) (fun ρ => ex C Bcom1 ρ) ds [.int (b : Int), .int ((a % b : Nat) : Int), .non, .non] := by
  have : wpS C Bcom1 [.int (a : Int), .int (b : Int), z, y] { nx := fun ρ => ρ = [.int (b : Int), .int ((a % b : Nat) : Int), z, .int ((a % b : Nat) : Int)], rt := fun _ _ => False } := by
    unfold Bcom1
    have h : decide ((b : Int) = 0) = false := decide_eq_false (by omega)
    simp -dsimp only [↓wy_one, ↓wy_cons, ↓seq_nx, ↓seq_rt, ↓seq_bk, ↓seq_ct, ↓ws_nil, ↓ws_pass, ↓ws_retn, ↓ws_cont, ↓ws_brk, ↓wy_ret, ↓ws_asg, ↓ws_drop, ↓wy_asgT, ↓wy_asgF, ↓wy_setI, ↓wy_aug, ↓wy_augI, ↓wy_app, ↓wy_ext, ↓wy_ifs, ↓wp_var, ↓wp_mv, ↓wp_fz, ↓wp_ci, ↓wp_cs, ↓wp_cb, ↓wp_cn, ↓wp_so, ↓wp_ct, ↓wp_a0, ↓wx_o2, ↓wx_neg, ↓wx_nt, ↓wx_cp, ↓wx_ch, ↓wx_an, ↓wx_orr, ↓wx_ite, ↓wx_tup, ↓wx_lst, ↓wx_aE, ↓wx_aS, ↓wx_ix, ↓wx_sl, ↓wx_fld, ↓wx_call, ↓wp_mcall, ↓wx_mk, ↓wx_aio, ↓wx_abw, ↓wx_bi, ↓wx_pur, ↓wx_sq, ↓wx_rg1, ↓wx_rg2, ↓wx_en, ↓wx_zp, ↓wx_comp, ↓wx_turn, OptW_some, IntW_int, BlW_bl, TupW_tup, LstW_lst, NeedW_true, IfW_true, IfW_false, List.getD_cons_zero, List.getD_cons_succ, List.set_cons_zero, List.set_cons_succ, biD, cp_lt, cp_le, cp_gt, cp_ge, cp_eqI, cp_neI, cp_eqB, cp_neB, cp_isN, cp_notN, isNon, add_i, sub_i, seqOf, loc, ev.putIo, isCt, setTg, setMany, Tg.slots, kill, back, outsOf, List.length_cons, List.length_nil, List.cons_append, List.nil_append, List.replicate, List.length_singleton, at0, at1, at2, at3, at4, atT0, atT1, atT2, atT3, ixN0, ixN1, ixN2, ixN3, ixN4, lenOk0, lenOk1, lenOk2, lenOk3, lenOk4, lenOk5, optI, if_true, Bool.false_eq_true, if_false, Bool.not_true, Bool.not_false, List.any_cons, List.any_nil, tyB, Bool.or_false, Bool.or_true, Bool.and_true, Bool.and_false, Option.map_some, small0, Nat.zero_add, Nat.reduceAdd, Nat.reduceSub, Nat.reduceLT, decide_true, decide_false, Post4.seq, h, mod_p (i := (a : Int)) (j := (b : Int)) (by omega)]
    rfl
  obtain ⟨fl, ρ', h1, h2⟩ := this
  cases fl with
  | nx =>
    have h2 : ρ' = _ := h2
    subst h2
    show (match setTg (.one 2) z [.int (a : Int), .int (b : Int), x, y] with
      | some ρ1 => _
      | none => none) = _
    simp only [setTg, List.set_cons_succ, List.set_cons_zero]
    unfold loopF
    simp only [setTg, List.set_cons_succ, List.set_cons_zero, h1, kill]
    cases ds <;> rfl
  | rt d => exact False.elim h2
  | bk => exact False.elim h2
  | ct => exact False.elim h2
theorem com_end {C : Calls} {a : Nat} {x y z : D} {ds : List D} : ∃ ρ, loopF [2, 3] (.one 2) (fun ρ => ex C Bcom1 ρ) (z :: ds) [.int (a : Int), .int 0, x, y] = some (.rt (.int (a : Int)), ρ) := by
  have : wpS C Bcom1 [.int (a : Int), .int 0, z, y] { nx := fun ρ => False, rt := fun r _ => r = .int a } := by
    unfold Bcom1
    have h : decide ((0 : Int) = 0) = true := rfl
    simp -dsimp only [↓wy_one, ↓wy_cons, ↓seq_nx, ↓seq_rt, ↓seq_bk, ↓seq_ct, ↓ws_nil, ↓ws_pass, ↓ws_retn, ↓ws_cont, ↓ws_brk, ↓wy_ret, ↓ws_asg, ↓ws_drop, ↓wy_asgT, ↓wy_asgF, ↓wy_setI, ↓wy_aug, ↓wy_augI, ↓wy_app, ↓wy_ext, ↓wy_ifs, ↓wp_var, ↓wp_mv, ↓wp_fz, ↓wp_ci, ↓wp_cs, ↓wp_cb, ↓wp_cn, ↓wp_so, ↓wp_ct, ↓wp_a0, ↓wx_o2, ↓wx_neg, ↓wx_nt, ↓wx_cp, ↓wx_ch, ↓wx_an, ↓wx_orr, ↓wx_ite, ↓wx_tup, ↓wx_lst, ↓wx_aE, ↓wx_aS, ↓wx_ix, ↓wx_sl, ↓wx_fld, ↓wx_call, ↓wp_mcall, ↓wx_mk, ↓wx_aio, ↓wx_abw, ↓wx_bi, ↓wx_pur, ↓wx_sq, ↓wx_rg1, ↓wx_rg2, ↓wx_en, ↓wx_zp, ↓wx_comp, ↓wx_turn, OptW_some, IntW_int, BlW_bl, TupW_tup, LstW_lst, NeedW_true, IfW_true, IfW_false, List.getD_cons_zero, List.getD_cons_succ, List.set_cons_zero, List.set_cons_succ, biD, cp_lt, cp_le, cp_gt, cp_ge, cp_eqI, cp_neI, cp_eqB, cp_neB, cp_isN, cp_notN, isNon, add_i, sub_i, seqOf, loc, ev.putIo, isCt, setTg, setMany, Tg.slots, kill, back, outsOf, List.length_cons, List.length_nil, List.cons_append, List.nil_append, List.replicate, List.length_singleton, at0, at1, at2, at3, at4, atT0, atT1, atT2, atT3, ixN0, ixN1, ixN2, ixN3, ixN4, lenOk0, lenOk1, lenOk2, lenOk3, lenOk4, lenOk5, optI, if_true, Bool.false_eq_true, if_false, Bool.not_true, Bool.not_false, List.any_cons, List.any_nil, tyB, Bool.or_false, Bool.or_true, Bool.and_true, Bool.and_false, Option.map_some, small0, Nat.zero_add, Nat.reduceAdd, Nat.reduceSub, Nat.reduceLT, decide_true, decide_false, Post4.seq, h]
  obtain ⟨fl, ρ', h1, h2⟩ := this
  cases fl with
  | rt d =>
    have h2 : d = _ := h2
    subst h2
    refine ⟨ρ', ?_⟩
    unfold loopF
    simp only [setTg, List.set_cons_succ, List.set_cons_zero, h1]
  | nx => exact False.elim h2
  | bk => exact False.elim h2
  | ct => exact False.elim h2
theorem com_loop {C : Calls} : ∀ (n : Nat) (a b : Nat) (x y : D) (ds : List D), b < 2 ^ n → 2 * n + 1 ≤ ds.length → ∃ ρ, loopF [2, 3] (.one 2) (fun ρ => ex C Bcom1 ρ) ds [.int (a : Int), .int (b : Int), x, y] = some (.rt (.int (Nat.gcd a b : Nat)), ρ)
  | 0, a, b, x, y, ds, hb, hl => by
    have hb0 : b = 0 := by simpa using hb
    subst hb0
    cases ds with
    | nil => simp at hl
    | cons z ds =>
      obtain ⟨ρ, h⟩ := com_end (C := C) (a := a) (x := x) (y := y) (z := z) (ds := ds)
      exact ⟨ρ, by rw [Nat.gcd_zero_right]; exact h⟩
  | n + 1, a, b, x, y, ds, hb, hl => by
    cases ds with
    | nil => simp at hl
    | cons z ds =>
      by_cases hb0 : b = 0
      · subst hb0
        obtain ⟨ρ, h⟩ := com_end (C := C) (a := a) (x := x) (y := y) (z := z) (ds := ds)
        exact ⟨ρ, by rw [Nat.gcd_zero_right]; exact h⟩
      · rw [com_step hb0]
        have hr : a % b < b := Nat.mod_lt _ (by omega)
        cases ds with
        | nil => simp at hl
        | cons z2 ds =>
          have g1 : Nat.gcd a b = Nat.gcd b (a % b) := by rw [Nat.gcd_comm a b, Nat.gcd_rec b a, Nat.gcd_comm]
          by_cases hr0 : a % b = 0
          · rw [hr0] at g1 ⊢
            rw [g1, Nat.gcd_zero_right]
            obtain ⟨ρ, h⟩ := com_end (C := C) (a := b) (x := .non) (y := .non) (z := z2) (ds := ds)
            exact ⟨ρ, h⟩
          · rw [com_step hr0]
            have g2 : Nat.gcd b (a % b) = Nat.gcd (a % b) (b % (a % b)) := by rw [Nat.gcd_comm b, Nat.gcd_rec (a % b) b, Nat.gcd_comm]
            rw [g1, g2]
            refine com_loop n (a % b) (b % (a % b)) .non .non ds ?_ (by simp at hl; omega)
            have h1 : b % (a % b) < a % b := Nat.mod_lt _ (by omega)
            have h2 : b % (a % b) + (a % b) ≤ b := by
              have := Nat.div_add_mod b (a % b)
              have hq : 1 ≤ b / (a % b) := (Nat.le_div_iff_mul_le (by omega)).mpr (by omega)
              have : (a % b) * 1 ≤ (a % b) * (b / (a % b)) := Nat.mul_le_mul_left _ hq
              omega
            rw [Nat.pow_succ] at hb
            omega
theorem common_spec {i : Nat} {d : Fn} (hk : 0 < k) (hi : fs[i]? = some d) (hb : d.body = Bcommon) (hp : d.sg.ps = [.z, .z]) (hn : d.nn = 4) (a b : Nat) (hb2 : b < 2 ^ 999) : callN fs k i [.int (a : Int), .int (b : Int)] = some (.int (Nat.gcd a b : Nat), []) := by
  have := call_of (fs := fs) (k := k) (i := i) (d := d) (ds := [.int (a : Int), .int (b : Int)]) (R := fun r outs => r = .int (Nat.gcd a b : Nat) ∧ outs = []) hk hi (by rw [hp]; rfl) ?_
  · obtain ⟨r, outs, h, rfl, rfl⟩ := this; exact h
  · rw [hb, hn, hp]
    unfold Bcommon
    rw [wy_cons, ws_for]
    simp -dsimp only [↓wy_one, ↓wy_cons, ↓seq_nx, ↓seq_rt, ↓seq_bk, ↓seq_ct, ↓ws_nil, ↓ws_pass, ↓ws_retn, ↓ws_cont, ↓ws_brk, ↓wy_ret, ↓ws_asg, ↓ws_drop, ↓wy_asgT, ↓wy_asgF, ↓wy_setI, ↓wy_aug, ↓wy_augI, ↓wy_app, ↓wy_ext, ↓wy_ifs, ↓wp_var, ↓wp_mv, ↓wp_fz, ↓wp_ci, ↓wp_cs, ↓wp_cb, ↓wp_cn, ↓wp_so, ↓wp_ct, ↓wp_a0, ↓wx_o2, ↓wx_neg, ↓wx_nt, ↓wx_cp, ↓wx_ch, ↓wx_an, ↓wx_orr, ↓wx_ite, ↓wx_tup, ↓wx_lst, ↓wx_aE, ↓wx_aS, ↓wx_ix, ↓wx_sl, ↓wx_fld, ↓wx_call, ↓wp_mcall, ↓wx_mk, ↓wx_aio, ↓wx_abw, ↓wx_bi, ↓wx_pur, ↓wx_sq, ↓wx_rg1, ↓wx_rg2, ↓wx_en, ↓wx_zp, ↓wx_comp, ↓wx_turn, OptW_some, IntW_int, BlW_bl, TupW_tup, LstW_lst, NeedW_true, IfW_true, IfW_false, List.getD_cons_zero, List.getD_cons_succ, List.set_cons_zero, List.set_cons_succ, biD, cp_lt, cp_le, cp_gt, cp_ge, cp_eqI, cp_neI, cp_eqB, cp_neB, cp_isN, cp_notN, isNon, add_i, sub_i, seqOf, loc, ev.putIo, isCt, setTg, setMany, Tg.slots, kill, back, outsOf, List.length_cons, List.length_nil, List.cons_append, List.nil_append, List.replicate, List.length_singleton, at0, at1, at2, at3, at4, atT0, atT1, atT2, atT3, ixN0, ixN1, ixN2, ixN3, ixN4, lenOk0, lenOk1, lenOk2, lenOk3, lenOk4, lenOk5, optI, if_true, Bool.false_eq_true, if_false, Bool.not_true, Bool.not_false, List.any_cons, List.any_nil, tyB, Bool.or_false, Bool.or_true, Bool.and_true, Bool.and_false, Option.map_some, small0, Nat.zero_add, Nat.reduceAdd, Nat.reduceSub, Nat.reduceLT, decide_true, decide_false, Post4.seq]
    rw [small0 (by decide) (by decide), NeedW_true]
    obtain ⟨ρ, h⟩ := com_loop (C := callN fs (k - 1)) 999 a b .non .non (rangeD 0 2000) hb2 (by rw [range_len]; decide)
    exact ⟨_, rfl, _, _, h, rfl, outs_nil rfl⟩
/-! ### two values alike -/
inductive Pl : Nat → D → Prop
  | non (n : Nat) : Pl n .non
  | bl (n : Nat) (b : Bool) : Pl n (.bl b)
  | int (n : Nat) (i : Int) : Pl n (.int i)
  | str (n : Nat) (x : Str) : Pl n (.str x)
  | tup (n : Nat) (xs : List D) : xs.length ≤ 1000000 → (∀ x ∈ xs, Pl n x) → Pl (n + 1) (.tup xs)
  | lst (n : Nat) (xs : List D) : xs.length ≤ 1000000 → (∀ x ∈ xs, Pl n x) → Pl (n + 1) (.lst xs)
def Bsame (me : Nat) : S := (.cons (.ifs (.orr (.bi (.isi [.tuple]) (.aE (.var 1) .a0)) (.bi (.isi [.list]) (.aE (.var 1) .a0))) (.cons (.ifs (.orr (.cp .ne (.bi (.isi [.tuple]) (.aE (.var 1) .a0)) (.bi (.isi [.tuple]) (.aE (.var 0) .a0))) (.cp .ne (.bi (.isi [.list]) (.aE (.var 1) .a0)) (.bi (.isi [.list]) (.aE (.var 0) .a0)))) (.cons (.ret (.cb false)) .nil) .nil) (.cons (.ifs (.cp .ne (.bi .len (.aE (.var 0) .a0)) (.bi .len (.aE (.var 1) .a0))) (.cons (.ret (.cb false)) .nil) .nil) (.cons (.ret (.cp .eq (.bi .len (.aE (.comp (.one 2) (.rg1 (.bi .len (.aE (.var 1) .a0))) (.nt (.call me (.aE (.ix (.var 0) (.var 2)) (.aE (.ix (.var 1) (.var 2)) .a0)))) (.var 2)) .a0)) (.ci 0))) .nil))) .nil) (.cons (.ifs (.cp .isN (.var 1) .cn) (.cons (.ret (.cp .isN (.var 0) .cn)) .nil) .nil) (.cons (.ifs (.orr (.bi (.isi [.bool]) (.aE (.var 1) .a0)) (.bi (.isi [.bool]) (.aE (.var 0) .a0))) (.cons (.ret (.an (.bi (.isi [.bool]) (.aE (.var 1) .a0)) (.an (.bi (.isi [.bool]) (.aE (.var 0) .a0)) (.cp .eq (.var 0) (.var 1))))) .nil) .nil) (.cons (.ifs (.bi (.isi [.int]) (.aE (.var 1) .a0)) (.cons (.ret (.an (.bi (.isi [.int]) (.aE (.var 0) .a0)) (.cp .eq (.var 0) (.var 1)))) .nil) .nil) (.cons (.ret (.an (.bi (.isi [.str]) (.aE (.var 0) .a0)) (.cp .eq (.var 0) (.var 1)))) .nil)))))
theorem cp_eqS {i j : Str} : cpD .eq (.str i) (.str j) = some (decide (i = j)) := rfl
theorem same_refl {i : Nat} {d : Fn} (hi : fs[i]? = some d) (hb : d.body = Bsame i) (hp : d.sg.ps.length = 2) (ho : ∀ ρ, outsOf d.sg.ps ρ = []) (hn : d.nn = 3) {n : Nat} {x : D} (h : Pl n x) : ∀ {k : Nat}, n < k → callN fs k i [x, x] = some (.bl true, []) := by
  have rows : ∀ {xs : List D} {n k : Nat} (w : D), (∀ y ∈ xs, ∀ {k : Nat}, n < k → callN fs k i [y, y] = some (.bl true, [])) → n + 1 < k → ((w = .tup xs) ∨ (w = .lst xs)) → ∀ z : D,
      loopC (turnK (callN fs (k - 1)) (.one 2) (.nt (.call i (.aE (.ix (.var 0) (.var 2)) (.aE (.ix (.var 1) (.var 2)) .a0)))) (.var 2)) (rangeD 0 (xs.length : Int)) [w, w, z] = some ([], [w, w, z]) := by
    intro xs n k w ih hk hw z
    have := lc_mapK (C := callN fs (k - 1)) (ρ := [w, w, z]) (tg := .one 2) (cond := .nt (.call i (.aE (.ix (.var 0) (.var 2)) (.aE (.ix (.var 1) (.var 2)) .a0)))) (elt := .var 2) (g := fun _ => none) (items := rangeD 0 (xs.length : Int)) (by
      intro d hd
      unfold rangeD at hd
      obtain ⟨j, hj, rfl⟩ := List.mem_map.mp hd
      rw [List.mem_range] at hj
      have hj' : j < xs.length := by omega
      have hix : ixD w (.int (0 + (j : Int))) = some xs[j] := by
        rw [Int.zero_add]
        rcases hw with rfl | rfl
        · rw [at_natT, List.getElem?_eq_getElem hj']
        · rw [at_nat, List.getElem?_eq_getElem hj']
      simp -dsimp only [↓wy_one, ↓wy_cons, ↓seq_nx, ↓seq_rt, ↓seq_bk, ↓seq_ct, ↓ws_nil, ↓ws_pass, ↓ws_retn, ↓ws_cont, ↓ws_brk, ↓wy_ret, ↓ws_asg, ↓ws_drop, ↓wy_asgT, ↓wy_asgF, ↓wy_setI, ↓wy_aug, ↓wy_augI, ↓wy_app, ↓wy_ext, ↓wy_ifs, ↓wp_var, ↓wp_mv, ↓wp_fz, ↓wp_ci, ↓wp_cs, ↓wp_cb, ↓wp_cn, ↓wp_so, ↓wp_ct, ↓wp_a0, ↓wx_o2, ↓wx_neg, ↓wx_nt, ↓wx_cp, ↓wx_ch, ↓wx_an, ↓wx_orr, ↓wx_ite, ↓wx_tup, ↓wx_lst, ↓wx_aE, ↓wx_aS, ↓wx_ix, ↓wx_sl, ↓wx_fld, ↓wx_call, ↓wp_mcall, ↓wx_mk, ↓wx_aio, ↓wx_abw, ↓wx_bi, ↓wx_pur, ↓wx_sq, ↓wx_rg1, ↓wx_rg2, ↓wx_en, ↓wx_zp, ↓wx_comp, ↓wx_turn, OptW_some, IntW_int, BlW_bl, TupW_tup, LstW_lst, NeedW_true, IfW_true, IfW_false, List.getD_cons_zero, List.getD_cons_succ, List.set_cons_zero, List.set_cons_succ, biD, cp_lt, cp_le, cp_gt, cp_ge, cp_eqI, cp_neI, cp_eqB, cp_neB, cp_isN, cp_notN, isNon, add_i, sub_i, seqOf, loc, ev.putIo, isCt, setTg, setMany, Tg.slots, kill, back, outsOf, List.length_cons, List.length_nil, List.cons_append, List.nil_append, List.replicate, List.length_singleton, at0, at1, at2, at3, at4, atT0, atT1, atT2, atT3, ixN0, ixN1, ixN2, ixN3, ixN4, lenOk0, lenOk1, lenOk2, lenOk3, lenOk4, lenOk5, optI, if_true, Bool.false_eq_true, if_false, Bool.not_true, Bool.not_false, List.any_cons, List.any_nil, tyB, Bool.or_false, Bool.or_true, Bool.and_true, Bool.and_false, Option.map_some, small0, Nat.zero_add, Nat.reduceAdd, Nat.reduceSub, Nat.reduceLT, decide_true, decide_false, Post4.seq, hix, ih _ (List.getElem_mem hj') (k := k - 1) (by omega)]
      exact ⟨trivial, trivial⟩)
    rw [this]
    simp
  induction h with
  | non n =>
    intro k hk
    have := call_of (fs := fs) (k := k) (i := i) (d := d) (ds := [.non, .non]) (R := fun r outs => r = .bl true ∧ outs = []) (by omega) hi (by rw [hp]; rfl) ?_
    · obtain ⟨r, outs, h, rfl, rfl⟩ := this; exact h
    · rw [hb, hn]
      unfold Bsame
      simp -dsimp only [↓wy_one, ↓wy_cons, ↓seq_nx, ↓seq_rt, ↓seq_bk, ↓seq_ct, ↓ws_nil, ↓ws_pass, ↓ws_retn, ↓ws_cont, ↓ws_brk, ↓wy_ret, ↓ws_asg, ↓ws_drop, ↓wy_asgT, ↓wy_asgF, ↓wy_setI, ↓wy_aug, ↓wy_augI, ↓wy_app, ↓wy_ext, ↓wy_ifs, ↓wp_var, ↓wp_mv, ↓wp_fz, ↓wp_ci, ↓wp_cs, ↓wp_cb, ↓wp_cn, ↓wp_so, ↓wp_ct, ↓wp_a0, ↓wx_o2, ↓wx_neg, ↓wx_nt, ↓wx_cp, ↓wx_ch, ↓wx_an, ↓wx_orr, ↓wx_ite, ↓wx_tup, ↓wx_lst, ↓wx_aE, ↓wx_aS, ↓wx_ix, ↓wx_sl, ↓wx_fld, ↓wx_call, ↓wp_mcall, ↓wx_mk, ↓wx_aio, ↓wx_abw, ↓wx_bi, ↓wx_pur, ↓wx_sq, ↓wx_rg1, ↓wx_rg2, ↓wx_en, ↓wx_zp, ↓wx_comp, ↓wx_turn, OptW_some, IntW_int, BlW_bl, TupW_tup, LstW_lst, NeedW_true, IfW_true, IfW_false, List.getD_cons_zero, List.getD_cons_succ, List.set_cons_zero, List.set_cons_succ, biD, cp_lt, cp_le, cp_gt, cp_ge, cp_eqI, cp_neI, cp_eqB, cp_neB, cp_isN, cp_notN, isNon, add_i, sub_i, seqOf, loc, ev.putIo, isCt, setTg, setMany, Tg.slots, kill, back, outsOf, List.length_cons, List.length_nil, List.cons_append, List.nil_append, List.replicate, List.length_singleton, at0, at1, at2, at3, at4, atT0, atT1, atT2, atT3, ixN0, ixN1, ixN2, ixN3, ixN4, lenOk0, lenOk1, lenOk2, lenOk3, lenOk4, lenOk5, optI, if_true, Bool.false_eq_true, if_false, Bool.not_true, Bool.not_false, List.any_cons, List.any_nil, tyB, Bool.or_false, Bool.or_true, Bool.and_true, Bool.and_false, Option.map_some, small0, Nat.zero_add, Nat.reduceAdd, Nat.reduceSub, Nat.reduceLT, decide_true, decide_false, Post4.seq, ho]
      exact ⟨trivial, trivial⟩
  | bl n b =>
    intro k hk
    have := call_of (fs := fs) (k := k) (i := i) (d := d) (ds := [.bl b, .bl b]) (R := fun r outs => r = .bl true ∧ outs = []) (by omega) hi (by rw [hp]; rfl) ?_
    · obtain ⟨r, outs, h, rfl, rfl⟩ := this; exact h
    · rw [hb, hn]
      unfold Bsame
      simp -dsimp only [↓wy_one, ↓wy_cons, ↓seq_nx, ↓seq_rt, ↓seq_bk, ↓seq_ct, ↓ws_nil, ↓ws_pass, ↓ws_retn, ↓ws_cont, ↓ws_brk, ↓wy_ret, ↓ws_asg, ↓ws_drop, ↓wy_asgT, ↓wy_asgF, ↓wy_setI, ↓wy_aug, ↓wy_augI, ↓wy_app, ↓wy_ext, ↓wy_ifs, ↓wp_var, ↓wp_mv, ↓wp_fz, ↓wp_ci, ↓wp_cs, ↓wp_cb, ↓wp_cn, ↓wp_so, ↓wp_ct, ↓wp_a0, ↓wx_o2, ↓wx_neg, ↓wx_nt, ↓wx_cp, ↓wx_ch, ↓wx_an, ↓wx_orr, ↓wx_ite, ↓wx_tup, ↓wx_lst, ↓wx_aE, ↓wx_aS, ↓wx_ix, ↓wx_sl, ↓wx_fld, ↓wx_call, ↓wp_mcall, ↓wx_mk, ↓wx_aio, ↓wx_abw, ↓wx_bi, ↓wx_pur, ↓wx_sq, ↓wx_rg1, ↓wx_rg2, ↓wx_en, ↓wx_zp, ↓wx_comp, ↓wx_turn, OptW_some, IntW_int, BlW_bl, TupW_tup, LstW_lst, NeedW_true, IfW_true, IfW_false, List.getD_cons_zero, List.getD_cons_succ, List.set_cons_zero, List.set_cons_succ, biD, cp_lt, cp_le, cp_gt, cp_ge, cp_eqI, cp_neI, cp_eqB, cp_neB, cp_isN, cp_notN, isNon, add_i, sub_i, seqOf, loc, ev.putIo, isCt, setTg, setMany, Tg.slots, kill, back, outsOf, List.length_cons, List.length_nil, List.cons_append, List.nil_append, List.replicate, List.length_singleton, at0, at1, at2, at3, at4, atT0, atT1, atT2, atT3, ixN0, ixN1, ixN2, ixN3, ixN4, lenOk0, lenOk1, lenOk2, lenOk3, lenOk4, lenOk5, optI, if_true, Bool.false_eq_true, if_false, Bool.not_true, Bool.not_false, List.any_cons, List.any_nil, tyB, Bool.or_false, Bool.or_true, Bool.and_true, Bool.and_false, Option.map_some, small0, Nat.zero_add, Nat.reduceAdd, Nat.reduceSub, Nat.reduceLT, decide_true, decide_false, Post4.seq, ho]
      exact ⟨trivial, trivial⟩
  | int n b =>
    intro k hk
    have := call_of (fs := fs) (k := k) (i := i) (d := d) (ds := [.int b, .int b]) (R := fun r outs => r = .bl true ∧ outs = []) (by omega) hi (by rw [hp]; rfl) ?_
    · obtain ⟨r, outs, h, rfl, rfl⟩ := this; exact h
    · rw [hb, hn]
      unfold Bsame
      simp -dsimp only [↓wy_one, ↓wy_cons, ↓seq_nx, ↓seq_rt, ↓seq_bk, ↓seq_ct, ↓ws_nil, ↓ws_pass, ↓ws_retn, ↓ws_cont, ↓ws_brk, ↓wy_ret, ↓ws_asg, ↓ws_drop, ↓wy_asgT, ↓wy_asgF, ↓wy_setI, ↓wy_aug, ↓wy_augI, ↓wy_app, ↓wy_ext, ↓wy_ifs, ↓wp_var, ↓wp_mv, ↓wp_fz, ↓wp_ci, ↓wp_cs, ↓wp_cb, ↓wp_cn, ↓wp_so, ↓wp_ct, ↓wp_a0, ↓wx_o2, ↓wx_neg, ↓wx_nt, ↓wx_cp, ↓wx_ch, ↓wx_an, ↓wx_orr, ↓wx_ite, ↓wx_tup, ↓wx_lst, ↓wx_aE, ↓wx_aS, ↓wx_ix, ↓wx_sl, ↓wx_fld, ↓wx_call, ↓wp_mcall, ↓wx_mk, ↓wx_aio, ↓wx_abw, ↓wx_bi, ↓wx_pur, ↓wx_sq, ↓wx_rg1, ↓wx_rg2, ↓wx_en, ↓wx_zp, ↓wx_comp, ↓wx_turn, OptW_some, IntW_int, BlW_bl, TupW_tup, LstW_lst, NeedW_true, IfW_true, IfW_false, List.getD_cons_zero, List.getD_cons_succ, List.set_cons_zero, List.set_cons_succ, biD, cp_lt, cp_le, cp_gt, cp_ge, cp_eqI, cp_neI, cp_eqB, cp_neB, cp_isN, cp_notN, isNon, add_i, sub_i, seqOf, loc, ev.putIo, isCt, setTg, setMany, Tg.slots, kill, back, outsOf, List.length_cons, List.length_nil, List.cons_append, List.nil_append, List.replicate, List.length_singleton, at0, at1, at2, at3, at4, atT0, atT1, atT2, atT3, ixN0, ixN1, ixN2, ixN3, ixN4, lenOk0, lenOk1, lenOk2, lenOk3, lenOk4, lenOk5, optI, if_true, Bool.false_eq_true, if_false, Bool.not_true, Bool.not_false, List.any_cons, List.any_nil, tyB, Bool.or_false, Bool.or_true, Bool.and_true, Bool.and_false, Option.map_some, small0, Nat.zero_add, Nat.reduceAdd, Nat.reduceSub, Nat.reduceLT, decide_true, decide_false, Post4.seq, ho]
      exact ⟨trivial, trivial⟩
  | str n b =>
    intro k hk
    have := call_of (fs := fs) (k := k) (i := i) (d := d) (ds := [.str b, .str b]) (R := fun r outs => r = .bl true ∧ outs = []) (by omega) hi (by rw [hp]; rfl) ?_
    · obtain ⟨r, outs, h, rfl, rfl⟩ := this; exact h
    · rw [hb, hn]
      unfold Bsame
      simp -dsimp only [↓wy_one, ↓wy_cons, ↓seq_nx, ↓seq_rt, ↓seq_bk, ↓seq_ct, ↓ws_nil, ↓ws_pass, ↓ws_retn, ↓ws_cont, ↓ws_brk, ↓wy_ret, ↓ws_asg, ↓ws_drop, ↓wy_asgT, ↓wy_asgF, ↓wy_setI, ↓wy_aug, ↓wy_augI, ↓wy_app, ↓wy_ext, ↓wy_ifs, ↓wp_var, ↓wp_mv, ↓wp_fz, ↓wp_ci, ↓wp_cs, ↓wp_cb, ↓wp_cn, ↓wp_so, ↓wp_ct, ↓wp_a0, ↓wx_o2, ↓wx_neg, ↓wx_nt, ↓wx_cp, ↓wx_ch, ↓wx_an, ↓wx_orr, ↓wx_ite, ↓wx_tup, ↓wx_lst, ↓wx_aE, ↓wx_aS, ↓wx_ix, ↓wx_sl, ↓wx_fld, ↓wx_call, ↓wp_mcall, ↓wx_mk, ↓wx_aio, ↓wx_abw, ↓wx_bi, ↓wx_pur, ↓wx_sq, ↓wx_rg1, ↓wx_rg2, ↓wx_en, ↓wx_zp, ↓wx_comp, ↓wx_turn, OptW_some, IntW_int, BlW_bl, TupW_tup, LstW_lst, NeedW_true, IfW_true, IfW_false, List.getD_cons_zero, List.getD_cons_succ, List.set_cons_zero, List.set_cons_succ, biD, cp_lt, cp_le, cp_gt, cp_ge, cp_eqI, cp_neI, cp_eqB, cp_neB, cp_isN, cp_notN, isNon, add_i, sub_i, seqOf, loc, ev.putIo, isCt, setTg, setMany, Tg.slots, kill, back, outsOf, List.length_cons, List.length_nil, List.cons_append, List.nil_append, List.replicate, List.length_singleton, at0, at1, at2, at3, at4, atT0, atT1, atT2, atT3, ixN0, ixN1, ixN2, ixN3, ixN4, lenOk0, lenOk1, lenOk2, lenOk3, lenOk4, lenOk5, optI, if_true, Bool.false_eq_true, if_false, Bool.not_true, Bool.not_false, List.any_cons, List.any_nil, tyB, Bool.or_false, Bool.or_true, Bool.and_true, Bool.and_false, Option.map_some, small0, Nat.zero_add, Nat.reduceAdd, Nat.reduceSub, Nat.reduceLT, decide_true, decide_false, Post4.seq, ho, cp_eqS]
      exact ⟨trivial, trivial⟩
  | tup n xs hl _ ih =>
    intro k hk
    have := call_of (fs := fs) (k := k) (i := i) (d := d) (ds := [.tup xs, .tup xs]) (R := fun r outs => r = .bl true ∧ outs = []) (by omega) hi (by rw [hp]; rfl) ?_
    · obtain ⟨r, outs, h, rfl, rfl⟩ := this; exact h
    · rw [hb, hn]
      unfold Bsame
      simp -dsimp only [↓wy_one, ↓wy_cons, ↓seq_nx, ↓seq_rt, ↓seq_bk, ↓seq_ct, ↓ws_nil, ↓ws_pass, ↓ws_retn, ↓ws_cont, ↓ws_brk, ↓wy_ret, ↓ws_asg, ↓ws_drop, ↓wy_asgT, ↓wy_asgF, ↓wy_setI, ↓wy_aug, ↓wy_augI, ↓wy_app, ↓wy_ext, ↓wy_ifs, ↓wp_var, ↓wp_mv, ↓wp_fz, ↓wp_ci, ↓wp_cs, ↓wp_cb, ↓wp_cn, ↓wp_so, ↓wp_ct, ↓wp_a0, ↓wx_o2, ↓wx_neg, ↓wx_nt, ↓wx_cp, ↓wx_ch, ↓wx_an, ↓wx_orr, ↓wx_ite, ↓wx_tup, ↓wx_lst, ↓wx_aE, ↓wx_aS, ↓wx_ix, ↓wx_sl, ↓wx_fld, ↓wx_call, ↓wp_mcall, ↓wx_mk, ↓wx_aio, ↓wx_abw, ↓wx_bi, ↓wx_pur, ↓wx_sq, ↓wx_rg1, ↓wx_rg2, ↓wx_en, ↓wx_zp, ↓wx_comp, ↓wx_turn, OptW_some, IntW_int, BlW_bl, TupW_tup, LstW_lst, NeedW_true, IfW_true, IfW_false, List.getD_cons_zero, List.getD_cons_succ, List.set_cons_zero, List.set_cons_succ, biD, cp_lt, cp_le, cp_gt, cp_ge, cp_eqI, cp_neI, cp_eqB, cp_neB, cp_isN, cp_notN, isNon, add_i, sub_i, seqOf, loc, ev.putIo, isCt, setTg, setMany, Tg.slots, kill, back, outsOf, List.length_cons, List.length_nil, List.cons_append, List.nil_append, List.replicate, List.length_singleton, at0, at1, at2, at3, at4, atT0, atT1, atT2, atT3, ixN0, ixN1, ixN2, ixN3, ixN4, lenOk0, lenOk1, lenOk2, lenOk3, lenOk4, lenOk5, optI, if_true, Bool.false_eq_true, if_false, Bool.not_true, Bool.not_false, List.any_cons, List.any_nil, tyB, Bool.or_false, Bool.or_true, Bool.and_true, Bool.and_false, Option.map_some, small0, Nat.zero_add, Nat.reduceAdd, Nat.reduceSub, Nat.reduceLT, decide_true, decide_false, Post4.seq, ho]
      rw [small0 (by omega) (by omega), NeedW_true]
      simp -dsimp only [↓wy_one, ↓wy_cons, ↓seq_nx, ↓seq_rt, ↓seq_bk, ↓seq_ct, ↓ws_nil, ↓ws_pass, ↓ws_retn, ↓ws_cont, ↓ws_brk, ↓wy_ret, ↓ws_asg, ↓ws_drop, ↓wy_asgT, ↓wy_asgF, ↓wy_setI, ↓wy_aug, ↓wy_augI, ↓wy_app, ↓wy_ext, ↓wy_ifs, ↓wp_var, ↓wp_mv, ↓wp_fz, ↓wp_ci, ↓wp_cs, ↓wp_cb, ↓wp_cn, ↓wp_so, ↓wp_ct, ↓wp_a0, ↓wx_o2, ↓wx_neg, ↓wx_nt, ↓wx_cp, ↓wx_ch, ↓wx_an, ↓wx_orr, ↓wx_ite, ↓wx_tup, ↓wx_lst, ↓wx_aE, ↓wx_aS, ↓wx_ix, ↓wx_sl, ↓wx_fld, ↓wx_call, ↓wp_mcall, ↓wx_mk, ↓wx_aio, ↓wx_abw, ↓wx_bi, ↓wx_pur, ↓wx_sq, ↓wx_rg1, ↓wx_rg2, ↓wx_en, ↓wx_zp, ↓wx_comp, ↓wx_turn, OptW_some, IntW_int, BlW_bl, TupW_tup, LstW_lst, NeedW_true, IfW_true, IfW_false, List.getD_cons_zero, List.getD_cons_succ, List.set_cons_zero, List.set_cons_succ, biD, cp_lt, cp_le, cp_gt, cp_ge, cp_eqI, cp_neI, cp_eqB, cp_neB, cp_isN, cp_notN, isNon, add_i, sub_i, seqOf, loc, ev.putIo, isCt, setTg, setMany, Tg.slots, kill, back, outsOf, List.length_cons, List.length_nil, List.cons_append, List.nil_append, List.replicate, List.length_singleton, at0, at1, at2, at3, at4, atT0, atT1, atT2, atT3, ixN0, ixN1, ixN2, ixN3, ixN4, lenOk0, lenOk1, lenOk2, lenOk3, lenOk4, lenOk5, optI, if_true, Bool.false_eq_true, if_false, Bool.not_true, Bool.not_false, List.any_cons, List.any_nil, tyB, Bool.or_false, Bool.or_true, Bool.and_true, Bool.and_false, Option.map_some, small0, Nat.zero_add, Nat.reduceAdd, Nat.reduceSub, Nat.reduceLT, decide_true, decide_false, Post4.seq]
      rw [rows (n := n) (.tup xs) ih (by omega) (.inl rfl)]
      simp -dsimp only [↓wy_one, ↓wy_cons, ↓seq_nx, ↓seq_rt, ↓seq_bk, ↓seq_ct, ↓ws_nil, ↓ws_pass, ↓ws_retn, ↓ws_cont, ↓ws_brk, ↓wy_ret, ↓ws_asg, ↓ws_drop, ↓wy_asgT, ↓wy_asgF, ↓wy_setI, ↓wy_aug, ↓wy_augI, ↓wy_app, ↓wy_ext, ↓wy_ifs, ↓wp_var, ↓wp_mv, ↓wp_fz, ↓wp_ci, ↓wp_cs, ↓wp_cb, ↓wp_cn, ↓wp_so, ↓wp_ct, ↓wp_a0, ↓wx_o2, ↓wx_neg, ↓wx_nt, ↓wx_cp, ↓wx_ch, ↓wx_an, ↓wx_orr, ↓wx_ite, ↓wx_tup, ↓wx_lst, ↓wx_aE, ↓wx_aS, ↓wx_ix, ↓wx_sl, ↓wx_fld, ↓wx_call, ↓wp_mcall, ↓wx_mk, ↓wx_aio, ↓wx_abw, ↓wx_bi, ↓wx_pur, ↓wx_sq, ↓wx_rg1, ↓wx_rg2, ↓wx_en, ↓wx_zp, ↓wx_comp, ↓wx_turn, OptW_some, IntW_int, BlW_bl, TupW_tup, LstW_lst, NeedW_true, IfW_true, IfW_false, List.getD_cons_zero, List.getD_cons_succ, List.set_cons_zero, List.set_cons_succ, biD, cp_lt, cp_le, cp_gt, cp_ge, cp_eqI, cp_neI, cp_eqB, cp_neB, cp_isN, cp_notN, isNon, add_i, sub_i, seqOf, loc, ev.putIo, isCt, setTg, setMany, Tg.slots, kill, back, outsOf, List.length_cons, List.length_nil, List.cons_append, List.nil_append, List.replicate, List.length_singleton, at0, at1, at2, at3, at4, atT0, atT1, atT2, atT3, ixN0, ixN1, ixN2, ixN3, ixN4, lenOk0, lenOk1, lenOk2, lenOk3, lenOk4, lenOk5, optI, if_true, Bool.false_eq_true, if_false, Bool.not_true, Bool.not_false, List.any_cons, List.any_nil, tyB, Bool.or_false, Bool.or_true, Bool.and_true, Bool.and_false, Option.map_some, small0, Nat.zero_add, Nat.reduceAdd, Nat.reduceSub, Nat.reduceLT, decide_true, decide_false, Post4.seq]
      exact ⟨rfl, ho _⟩
  | lst n xs hl _ ih =>
    intro k hk
    have := call_of (fs := fs) (k := k) (i := i) (d := d) (ds := [.lst xs, .lst xs]) (R := fun r outs => r = .bl true ∧ outs = []) (by omega) hi (by rw [hp]; rfl) ?_
    · obtain ⟨r, outs, h, rfl, rfl⟩ := this; exact h
    · rw [hb, hn]
      unfold Bsame
      simp -dsimp only [↓wy_one, ↓wy_cons, ↓seq_nx, ↓seq_rt, ↓seq_bk, ↓seq_ct, ↓ws_nil, ↓ws_pass, ↓ws_retn, ↓ws_cont, ↓ws_brk, ↓wy_ret, ↓ws_asg, ↓ws_drop, ↓wy_asgT, ↓wy_asgF, ↓wy_setI, ↓wy_aug, ↓wy_augI, ↓wy_app, ↓wy_ext, ↓wy_ifs, ↓wp_var, ↓wp_mv, ↓wp_fz, ↓wp_ci, ↓wp_cs, ↓wp_cb, ↓wp_cn, ↓wp_so, ↓wp_ct, ↓wp_a0, ↓wx_o2, ↓wx_neg, ↓wx_nt, ↓wx_cp, ↓wx_ch, ↓wx_an, ↓wx_orr, ↓wx_ite, ↓wx_tup, ↓wx_lst, ↓wx_aE, ↓wx_aS, ↓wx_ix, ↓wx_sl, ↓wx_fld, ↓wx_call, ↓wp_mcall, ↓wx_mk, ↓wx_aio, ↓wx_abw, ↓wx_bi, ↓wx_pur, ↓wx_sq, ↓wx_rg1, ↓wx_rg2, ↓wx_en, ↓wx_zp, ↓wx_comp, ↓wx_turn, OptW_some, IntW_int, BlW_bl, TupW_tup, LstW_lst, NeedW_true, IfW_true, IfW_false, List.getD_cons_zero, List.getD_cons_succ, List.set_cons_zero, List.set_cons_succ, biD, cp_lt, cp_le, cp_gt, cp_ge, cp_eqI, cp_neI, cp_eqB, cp_neB, cp_isN, cp_notN, isNon, add_i, sub_i, seqOf, loc, ev.putIo, isCt, setTg, setMany, Tg.slots, kill, back, outsOf, List.length_cons, List.length_nil, List.cons_append, List.nil_append, List.replicate, List.length_singleton, at0, at1, at2, at3, at4, atT0, atT1, atT2, atT3, ixN0, ixN1, ixN2, ixN3, ixN4, lenOk0, lenOk1, lenOk2, lenOk3, lenOk4, lenOk5, optI, if_true, Bool.false_eq_true, if_false, Bool.not_true, Bool.not_false, List.any_cons, List.any_nil, tyB, Bool.or_false, Bool.or_true, Bool.and_true, Bool.and_false, Option.map_some, small0, Nat.zero_add, Nat.reduceAdd, Nat.reduceSub, Nat.reduceLT, decide_true, decide_false, Post4.seq, ho]
      rw [small0 (by omega) (by omega), NeedW_true]
      simp -dsimp only [↓wy_one, ↓wy_cons, ↓seq_nx, ↓seq_rt, ↓seq_bk, ↓seq_ct, ↓ws_nil, ↓ws_pass, ↓ws_retn, ↓ws_cont, ↓ws_brk, ↓wy_ret, ↓ws_asg, ↓ws_drop, ↓wy_asgT, ↓wy_asgF, ↓wy_setI, ↓wy_aug, ↓wy_augI, ↓wy_app, ↓wy_ext, ↓wy_ifs, ↓wp_var, ↓wp_mv, ↓wp_fz, ↓wp_ci, ↓wp_cs, ↓wp_cb, ↓wp_cn, ↓wp_so, ↓wp_ct, ↓wp_a0, ↓wx_o2, ↓wx_neg, ↓wx_nt, ↓wx_cp, ↓wx_ch, ↓wx_an, ↓wx_orr, ↓wx_ite, ↓wx_tup, ↓wx_lst, ↓wx_aE, ↓wx_aS, ↓wx_ix, ↓wx_sl, ↓wx_fld, ↓wx_call, ↓wp_mcall, ↓wx_mk, ↓wx_aio, ↓wx_abw, ↓wx_bi, ↓wx_pur, ↓wx_sq, ↓wx_rg1, ↓wx_rg2, ↓wx_en, ↓wx_zp, ↓wx_comp, ↓wx_turn, OptW_some, IntW_int, BlW_bl, TupW_tup, LstW_lst, NeedW_true, IfW_true, IfW_false, List.getD_cons_zero, List.getD_cons_succ, List.set_cons_zero, List.set_cons_succ, biD, cp_lt, cp_le, cp_gt, cp_ge, cp_eqI, cp_neI, cp_eqB, cp_neB, cp_isN, cp_notN, isNon, add_i, sub_i, seqOf, loc, ev.putIo, isCt, setTg, setMany, Tg.slots, kill, back, outsOf, List.length_cons, List.length_nil, List.cons_append, List.nil_append, List.replicate, List.length_singleton, at0, at1, at2, at3, at4, atT0, atT1, atT2, atT3, ixN0, ixN1, ixN2, ixN3, ixN4, lenOk0, lenOk1, lenOk2, lenOk3, lenOk4, lenOk5, optI, if_true, Bool.false_eq_true, if_false, Bool.not_true, Bool.not_false, List.any_cons, List.any_nil, tyB, Bool.or_false, Bool.or_true, Bool.and_true, Bool.and_false, Option.map_some, small0, Nat.zero_add, Nat.reduceAdd, Nat.reduceSub, Nat.reduceLT, decide_true, decide_false, Post4.seq]
      rw [rows (n := n) (.lst xs) ih (by omega) (.inr rfl)]
      simp -dsimp only [↓wy_one, ↓wy_cons, ↓seq_nx, ↓seq_rt, ↓seq_bk, ↓seq_ct, ↓ws_nil, ↓ws_pass, ↓ws_retn, ↓ws_cont, ↓ws_brk, ↓wy_ret, ↓ws_asg, ↓ws_drop, ↓wy_asgT, ↓wy_asgF, ↓wy_setI, ↓wy_aug, ↓wy_augI, ↓wy_app, ↓wy_ext, ↓wy_ifs, ↓wp_var, ↓wp_mv, ↓wp_fz, ↓wp_ci, ↓wp_cs, ↓wp_cb, ↓wp_cn, ↓wp_so, ↓wp_ct, ↓wp_a0, ↓wx_o2, ↓wx_neg, ↓wx_nt, ↓wx_cp, ↓wx_ch, ↓wx_an, ↓wx_orr, ↓wx_ite, ↓wx_tup, ↓wx_lst, ↓wx_aE, ↓wx_aS, ↓wx_ix, ↓wx_sl, ↓wx_fld, ↓wx_call, ↓wp_mcall, ↓wx_mk, ↓wx_aio, ↓wx_abw, ↓wx_bi, ↓wx_pur, ↓wx_sq, ↓wx_rg1, ↓wx_rg2, ↓wx_en, ↓wx_zp, ↓wx_comp, ↓wx_turn, OptW_some, IntW_int, BlW_bl, TupW_tup, LstW_lst, NeedW_true, IfW_true, IfW_false, List.getD_cons_zero, List.getD_cons_succ, List.set_cons_zero, List.set_cons_succ, biD, cp_lt, cp_le, cp_gt, cp_ge, cp_eqI, cp_neI, cp_eqB, cp_neB, cp_isN, cp_notN, isNon, add_i, sub_i, seqOf, loc, ev.putIo, isCt, setTg, setMany, Tg.slots, kill, back, outsOf, List.length_cons, List.length_nil, List.cons_append, List.nil_append, List.replicate, List.length_singleton, at0, at1, at2, at3, at4, atT0, atT1, atT2, atT3, ixN0, ixN1, ixN2, ixN3, ixN4, lenOk0, lenOk1, lenOk2, lenOk3, lenOk4, lenOk5, optI, if_true, Bool.false_eq_true, if_false, Bool.not_true, Bool.not_false, List.any_cons, List.any_nil, tyB, Bool.or_false, Bool.or_true, Bool.and_true, Bool.and_false, Option.map_some, small0, Nat.zero_add, Nat.reduceAdd, Nat.reduceSub, Nat.reduceLT, decide_true, decide_false, Post4.seq]
      exact ⟨rfl, ho _⟩
end
end DI
end
section
set_option Elab.async false
set_option linter.all false
set_option maxRecDepth 100000
/-! Equality of rows of ints. -/
namespace DI
open PySem
theorem layA_ints : ∀ xs : List Int, layA (xs.map D.int) = true
  | [] => rfl
  | x :: xs => by simp only [List.map_cons, layA, lay, layA_ints xs, Bool.and_self]
theorem depA_ints : ∀ xs : List Int, depA (xs.map D.int) = 0
  | [] => rfl
  | x :: xs => by simp only [List.map_cons, depA, dep, depA_ints xs, Nat.max_self]
theorem eqvAll_ints : ∀ xs ys : List Int, PyData.eqvAll (toPyA (xs.map D.int)) (toPyA (ys.map D.int)) = decide (xs = ys)
  | [], [] => by simp [toPyA, PyData.eqvAll]
  | [], y :: ys => by simp [toPyA, PyData.eqvAll]
  | x :: xs, [] => by simp [toPyA, PyData.eqvAll]
  | x :: xs, y :: ys => by
    have ih := eqvAll_ints xs ys
    simp only [List.map_cons, toPyA, toPy, PyData.eqvAll, PyData.eqv, ih]
    by_cases h1 : x = y <;> by_cases h2 : xs = ys <;> simp [h1, h2]
theorem eq_ints (xs ys : List Int) : eqD (.tup (xs.map D.int)) (.tup (ys.map D.int)) = some (decide (xs = ys)) := by
  have e : eqD (.tup (xs.map D.int)) (.tup (ys.map D.int)) = if lay (.tup (xs.map D.int)) && lay (.tup (ys.map D.int)) && (decide (dep (.tup (xs.map D.int)) ≤ 60) && decide (dep (.tup (ys.map D.int)) ≤ 60)) then some (PyData.eqv (toPy (.tup (xs.map D.int))) (toPy (.tup (ys.map D.int)))) else none := rfl
  rw [e]
  simp only [lay, layA_ints, dep, depA_ints, toPy, PyData.eqv, eqvAll_ints]
  simp
theorem cp_eq_def {x y : D} : cpD .eq x y = eqD x y := by cases x <;> cases y <;> rfl
theorem cp_ne_def {x y : D} : cpD .ne x y = (eqD x y).map (!·) := by cases x <;> cases y <;> rfl
theorem cp_eqT2 {a b c d : Int} : cpD .eq (.tup [.int a, .int b]) (.tup [.int c, .int d]) = some (decide (a = c ∧ b = d)) := by
  have := eq_ints [a, b] [c, d]
  simp only [List.map_cons, List.map_nil] at this
  rw [cp_eq_def, this]; simp
theorem cp_neT2 {a b c d : Int} : cpD .ne (.tup [.int a, .int b]) (.tup [.int c, .int d]) = some (!decide (a = c ∧ b = d)) := by
  have := cp_eqT2 (a := a) (b := b) (c := c) (d := d)
  rw [cp_eq_def] at this
  rw [cp_ne_def, this]; rfl
theorem abs_i {i : Int} : (if i < 0 then -i else i) = (i.natAbs : Int) := by
  split <;> omega
end DI
end
section
set_option Elab.async false
set_option linter.all false
set_option maxRecDepth 100000
set_option maxHeartbeats 0
namespace T_k01
open PySem DI
def sx (x : String) : Str := PySem.Str.ofString x
def top (i : Nat) : Stmt := PySem.Challenge.pw_gripwright_k01_vectors_told.main.body.getD i (.Pass ⟨0, 0, 0, 0⟩)
/-- plus -/
def b0 : S := (.cons (.ret (.tup (.aE (.o2 .add (.ix (.var 0) (.ci 0)) (.ix (.var 1) (.ci 0))) (.aE (.o2 .add (.ix (.var 0) (.ci 1)) (.ix (.var 1) (.ci 1))) .a0)))) .nil)
def f0 : Fn := ⟨.glob (sx "plus"), ⟨[.z, .z], .z⟩, b0, 2⟩
def x0 : Tx := ⟨[sx "one", sx "two"], [sx "one", sx "two"], ⟨(sx "plus", none), sx "plus", sx "plus", L2.defArgs (top 2), L2.defBody (top 2), L2.defScope (top 2), [], []⟩⟩
theorem bo0 : BindOk x0 := fun _ _ _ _ _ _ us hl => match us, hl with
  | [_, _], _ => rfl
/-- minus -/
def b1 : S := (.cons (.ret (.tup (.aE (.o2 .sub (.ix (.var 0) (.ci 0)) (.ix (.var 1) (.ci 0))) (.aE (.o2 .sub (.ix (.var 0) (.ci 1)) (.ix (.var 1) (.ci 1))) .a0)))) .nil)
def f1 : Fn := ⟨.glob (sx "minus"), ⟨[.z, .z], .z⟩, b1, 2⟩
def x1 : Tx := ⟨[sx "one", sx "two"], [sx "one", sx "two"], ⟨(sx "minus", none), sx "minus", sx "minus", L2.defArgs (top 3), L2.defBody (top 3), L2.defScope (top 3), [], []⟩⟩
theorem bo1 : BindOk x1 := fun _ _ _ _ _ _ us hl => match us, hl with
  | [_, _], _ => rfl
/-- scaled -/
def b2 : S := (.cons (.ret (.tup (.aE (.o2 .mul (.var 0) (.ix (.var 1) (.ci 0))) (.aE (.o2 .mul (.var 0) (.ix (.var 1) (.ci 1))) .a0)))) .nil)
def f2 : Fn := ⟨.glob (sx "scaled"), ⟨[.z, .z], .z⟩, b2, 2⟩
def x2 : Tx := ⟨[sx "number", sx "vector"], [sx "number", sx "vector"], ⟨(sx "scaled", none), sx "scaled", sx "scaled", L2.defArgs (top 4), L2.defBody (top 4), L2.defScope (top 4), [], []⟩⟩
theorem bo2 : BindOk x2 := fun _ _ _ _ _ _ us hl => match us, hl with
  | [_, _], _ => rfl
/-- dot -/
def b3 : S := (.cons (.ret (.o2 .add (.o2 .mul (.ix (.var 0) (.ci 0)) (.ix (.var 1) (.ci 0))) (.o2 .mul (.ix (.var 0) (.ci 1)) (.ix (.var 1) (.ci 1))))) .nil)
def f3 : Fn := ⟨.glob (sx "dot"), ⟨[.z, .z], .z⟩, b3, 2⟩
def x3 : Tx := ⟨[sx "one", sx "two"], [sx "one", sx "two"], ⟨(sx "dot", none), sx "dot", sx "dot", L2.defArgs (top 5), L2.defBody (top 5), L2.defScope (top 5), [], []⟩⟩
theorem bo3 : BindOk x3 := fun _ _ _ _ _ _ us hl => match us, hl with
  | [_, _], _ => rfl
/-- cross -/
def b4 : S := (.cons (.ret (.o2 .sub (.o2 .mul (.ix (.var 0) (.ci 0)) (.ix (.var 1) (.ci 1))) (.o2 .mul (.ix (.var 0) (.ci 1)) (.ix (.var 1) (.ci 0))))) .nil)
def f4 : Fn := ⟨.glob (sx "cross"), ⟨[.z, .z], .z⟩, b4, 2⟩
def x4 : Tx := ⟨[sx "one", sx "two"], [sx "one", sx "two"], ⟨(sx "cross", none), sx "cross", sx "cross", L2.defArgs (top 6), L2.defBody (top 6), L2.defScope (top 6), [], []⟩⟩
theorem bo4 : BindOk x4 := fun _ _ _ _ _ _ us hl => match us, hl with
  | [_, _], _ => rfl
/-- turned -/
def b5 : S := (.cons (.ret (.tup (.aE (.neg (.ix (.var 0) (.ci 1))) (.aE (.ix (.var 0) (.ci 0)) .a0)))) .nil)
def f5 : Fn := ⟨.glob (sx "turned"), ⟨[.z], .z⟩, b5, 1⟩
def x5 : Tx := ⟨[sx "vector"], [sx "vector"], ⟨(sx "turned", none), sx "turned", sx "turned", L2.defArgs (top 7), L2.defBody (top 7), L2.defScope (top 7), [], []⟩⟩
theorem bo5 : BindOk x5 := fun _ _ _ _ _ _ us hl => match us, hl with
  | [_], _ => rfl
/-- primitive -/
def b6 : S := (.cons (.asg 1 (.bi .gcd (.aE (.ix (.var 0) (.ci 0)) (.aE (.ix (.var 0) (.ci 1)) .a0)))) (.cons (.ret (.tup (.aE (.o2 .fdiv (.ix (.var 0) (.ci 0)) (.var 1)) (.aE (.o2 .fdiv (.ix (.var 0) (.ci 1)) (.var 1)) .a0)))) .nil))
def f6 : Fn := ⟨.glob (sx "primitive"), ⟨[.z], .z⟩, b6, 2⟩
def x6 : Tx := ⟨[sx "direction", sx "common"], [sx "direction"], ⟨(sx "primitive", none), sx "primitive", sx "primitive", L2.defArgs (top 8), L2.defBody (top 8), L2.defScope (top 8), [], []⟩⟩
theorem bo6 : BindOk x6 := fun _ _ _ _ _ _ us hl => match us, hl with
  | [_], _ => rfl
/-- _law_same -/
def b7 : S := (.cons (.ifs (.orr (.bi (.isi [.tuple]) (.aE (.var 1) .a0)) (.bi (.isi [.list]) (.aE (.var 1) .a0))) (.cons (.ifs (.orr (.cp .ne (.bi (.isi [.tuple]) (.aE (.var 1) .a0)) (.bi (.isi [.tuple]) (.aE (.var 0) .a0))) (.cp .ne (.bi (.isi [.list]) (.aE (.var 1) .a0)) (.bi (.isi [.list]) (.aE (.var 0) .a0)))) (.cons (.ret (.cb false)) .nil) .nil) (.cons (.ifs (.cp .ne (.bi .len (.aE (.var 0) .a0)) (.bi .len (.aE (.var 1) .a0))) (.cons (.ret (.cb false)) .nil) .nil) (.cons (.ret (.cp .eq (.bi .len (.aE (.comp (.one 2) (.rg1 (.bi .len (.aE (.var 1) .a0))) (.nt (.call 7 (.aE (.ix (.var 0) (.var 2)) (.aE (.ix (.var 1) (.var 2)) .a0)))) (.var 2)) .a0)) (.ci 0))) .nil))) .nil) (.cons (.ifs (.cp .isN (.var 1) .cn) (.cons (.ret (.cp .isN (.var 0) .cn)) .nil) .nil) (.cons (.ifs (.orr (.bi (.isi [.bool]) (.aE (.var 1) .a0)) (.bi (.isi [.bool]) (.aE (.var 0) .a0))) (.cons (.ret (.an (.bi (.isi [.bool]) (.aE (.var 1) .a0)) (.an (.bi (.isi [.bool]) (.aE (.var 0) .a0)) (.cp .eq (.var 0) (.var 1))))) .nil) .nil) (.cons (.ifs (.bi (.isi [.int]) (.aE (.var 1) .a0)) (.cons (.ret (.an (.bi (.isi [.int]) (.aE (.var 0) .a0)) (.cp .eq (.var 0) (.var 1)))) .nil) .nil) (.cons (.ret (.an (.bi (.isi [.str]) (.aE (.var 0) .a0)) (.cp .eq (.var 0) (.var 1)))) .nil)))))
def f7 : Fn := ⟨.glob (sx "_law_same"), ⟨[(.bw (.L .z)), (.bw (.L .z))], .z⟩, b7, 3⟩
def x7 : Tx := ⟨[sx "actual", sx "due", sx "k"], [sx "actual", sx "due"], ⟨(sx "_law_same", none), sx "_law_same", sx "_law_same", L2.defArgs (top 10), L2.defBody (top 10), L2.defScope (top 10), [], []⟩⟩
theorem bo7 : BindOk x7 := fun _ _ _ _ _ _ us hl => match us, hl with
  | [_, _], _ => rfl
/-- _law_pool -/
def b8 : S := (.cons (.asg 1 (.ci 7)) (.cons (.for_ (.one 2) (.sq (.sl (.var 0) .so (.ci 63))) (.cons (.asg 1 (.o2 .mod (.bi .intOf (.aE (.o2 .add (.o2 .mul (.var 1) (.ci 31)) (.var 2)) .a0)) (.ci 1000003))) .nil) [2] []) (.cons (.ret (.lst (.aE (.bi .listOf (.aE (.var 0) .a0)) (.aE (.ci 0) (.aE (.ci 0) (.aE (.ci 0) (.aE (.var 1) .a0))))))) .nil)))
def f8 : Fn := ⟨.glob (sx "_law_pool"), ⟨[.z], (.L .z)⟩, b8, 3⟩
def x8 : Tx := ⟨[sx "script", sx "salt", sx "cell"], [sx "script"], ⟨(sx "_law_pool", none), sx "_law_pool", sx "_law_pool", L2.defArgs (top 11), L2.defBody (top 11), L2.defScope (top 11), [], []⟩⟩
theorem bo8 : BindOk x8 := fun _ _ _ _ _ _ us hl => match us, hl with
  | [_], _ => rfl
/-- _law_spread -/
def b9 : S := (.cons (.asg 1 (.o2 .mod (.bi .intOf (.aE (.var 0) .a0)) (.ci 2147483647))) (.cons (.asg 2 (.ci 1)) (.cons (.for_ (.one 3) (.rg1 (.ci 4)) (.cons (.asg 1 (.o2 .mod (.bi .intOf (.aE (.o2 .add (.o2 .add (.o2 .mul (.var 1) (.ci 48271)) (.ci 12345)) (.var 3)) .a0)) (.ci 2147483647))) (.cons (.asg 2 (.o2 .add (.o2 .mul (.var 2) (.ci 2147483647)) (.var 1))) .nil)) [3] []) (.cons (.ret (.var 2)) .nil))))
def f9 : Fn := ⟨.glob (sx "_law_spread"), ⟨[.z], .z⟩, b9, 4⟩
def x9 : Tx := ⟨[sx "cell", sx "mixed", sx "total", sx "k"], [sx "cell"], ⟨(sx "_law_spread", none), sx "_law_spread", sx "_law_spread", L2.defArgs (top 12), L2.defBody (top 12), L2.defScope (top 12), [], []⟩⟩
theorem bo9 : BindOk x9 := fun _ _ _ _ _ _ us hl => match us, hl with
  | [_], _ => rfl
/-- _law_draw -/
def b10 : S := (.cons (.ifs (.pur (.an (.cp .le (.ix (.var 0) (.ci 2)) (.ci 0)) (.cp .lt (.ix (.var 0) (.ci 1)) (.bi .len (.aE (.ix (.var 0) (.ci 0)) .a0))))) (.cons (.asg 3 (.pur (.ix (.ix (.var 0) (.ci 0)) (.ix (.var 0) (.ci 1))))) (.cons (.setI (.var 0) (.ci 1) (.pur (.o2 .add (.ix (.var 0) (.ci 1)) (.ci 1)))) (.cons (.setI (.var 0) (.ci 2) (.var 3)) (.cons (.ifs (.cp .lt (.var 3) (.ci 1000000000000000000)) (.cons (.setI (.var 0) (.ci 2) (.call 9 (.aE (.var 3) .a0))) .nil) .nil) .nil)))) .nil) (.cons (.setI (.var 0) (.ci 3) (.pur (.o2 .add (.ix (.var 0) (.ci 3)) (.ci 1)))) (.cons (.ifs (.pur (.cp .le (.ix (.var 0) (.ci 2)) (.ci 0))) (.cons (.asg 4 (.pur (.o2 .mod (.bi .intOf (.aE (.o2 .add (.o2 .add (.o2 .mul (.ix (.var 0) (.ci 4)) (.ci 48271)) (.o2 .mul (.ix (.var 0) (.ci 3)) (.ci 69621))) (.ci 1)) .a0)) (.ci 2147483647)))) (.cons (.asg 4 (.pur (.o2 .mod (.bi .intOf (.aE (.o2 .add (.o2 .mul (.var 4) (.ci 16807)) (.ix (.var 0) (.ci 3))) .a0)) (.ci 2147483629)))) (.cons (.ret (.o2 .mod (.o2 .fdiv (.var 4) (.ci 5)) (.var 1))) .nil))) .nil) (.cons (.asg 2 (.pur (.o2 .mod (.bi .intOf (.aE (.ix (.var 0) (.ci 2)) .a0)) (.var 1)))) (.cons (.setI (.var 0) (.ci 2) (.pur (.o2 .fdiv (.ix (.var 0) (.ci 2)) (.var 1)))) (.cons (.ret (.var 2)) .nil))))))
def f10 : Fn := ⟨.glob (sx "_law_draw"), ⟨[(.io (.L .z)), .z], .z⟩, b10, 5⟩
def x10 : Tx := ⟨[sx "pool", sx "many", sx "value", sx "cell", sx "mixed"], [sx "pool", sx "many"], ⟨(sx "_law_draw", none), sx "_law_draw", sx "_law_draw", L2.defArgs (top 13), L2.defBody (top 13), L2.defScope (top 13), [], []⟩⟩
theorem bo10 : BindOk x10 := fun _ _ _ _ _ _ us hl => match us, hl with
  | [_, _], _ => rfl
/-- _law_common -/
def b11 : S := (.cons (.for_ (.one 2) (.rg1 (.ci 2000)) (.cons (.ifs (.cp .eq (.var 1) (.ci 0)) (.cons (.ret (.var 0)) .nil) .nil) (.cons (.asg 3 (.o2 .mod (.bi .intOf (.aE (.var 0) .a0)) (.var 1))) (.cons (.asg 0 (.var 1)) (.cons (.asg 1 (.var 3)) .nil)))) [2, 3] []) (.cons (.ret (.var 0)) .nil))
def f11 : Fn := ⟨.glob (sx "_law_common"), ⟨[.z, .z], .z⟩, b11, 4⟩
def x11 : Tx := ⟨[sx "a", sx "b", sx "k", sx "rest"], [sx "a", sx "b"], ⟨(sx "_law_common", none), sx "_law_common", sx "_law_common", L2.defArgs (top 14), L2.defBody (top 14), L2.defScope (top 14), [], []⟩⟩
theorem bo11 : BindOk x11 := fun _ _ _ _ _ _ us hl => match us, hl with
  | [_, _], _ => rfl
/-- _law_number -/
def b12 : S := (.cons (.ret (.o2 .sub (.call 10 (.aio (.var 0) (.aE (.o2 .add (.o2 .mul (.ci 2) (.var 1)) (.ci 1)) .a0))) (.var 1))) .nil)
def f12 : Fn := ⟨.glob (sx "_law_number"), ⟨[(.io (.L .z)), .z], .z⟩, b12, 2⟩
def x12 : Tx := ⟨[sx "pool", sx "top"], [sx "pool", sx "top"], ⟨(sx "_law_number", none), sx "_law_number", sx "_law_number", L2.defArgs (top 15), L2.defBody (top 15), L2.defScope (top 15), [], []⟩⟩
theorem bo12 : BindOk x12 := fun _ _ _ _ _ _ us hl => match us, hl with
  | [_, _], _ => rfl
/-- _law_row -/
def b13 : S := (.cons (.ret (.bi .tupleOf (.aE (.comp (.one 3) (.rg1 (.var 1)) .ct (.call 12 (.aio (.var 0) (.aE (.var 2) .a0)))) .a0))) .nil)
def f13 : Fn := ⟨.glob (sx "_law_row"), ⟨[(.io (.L .z)), .z, .z], .z⟩, b13, 4⟩
def x13 : Tx := ⟨[sx "pool", sx "many", sx "top", sx "k"], [sx "pool", sx "many", sx "top"], ⟨(sx "_law_row", none), sx "_law_row", sx "_law_row", L2.defArgs (top 16), L2.defBody (top 16), L2.defScope (top 16), [], []⟩⟩
theorem bo13 : BindOk x13 := fun _ _ _ _ _ _ us hl => match us, hl with
  | [_, _, _], _ => rfl
/-- law -/
def b14 : S := (.cons (.asg 1 (.call 8 (.aE (.var 0) .a0))) (.cons (.for_ (.one 2) (.rg1 (.ci 6)) (.cons (.asg 3 (.call 13 (.aio (.var 1) (.aE (.ci 2) (.aE (.ix (.tup (.aE (.ci 2) (.aE (.ci 9) (.aE (.ci 1000) .a0)))) (.call 10 (.aio (.var 1) (.aE (.ci 3) .a0)))) .a0))))) (.cons (.asg 4 (.call 13 (.aio (.var 1) (.aE (.ci 2) (.aE (.ix (.tup (.aE (.ci 2) (.aE (.ci 9) (.aE (.ci 1000) .a0)))) (.call 10 (.aio (.var 1) (.aE (.ci 3) .a0)))) .a0))))) (.cons (.asg 5 (.call 12 (.aio (.var 1) (.aE (.ci 7) .a0)))) (.cons (.asg 6 (.lst (.aE (.call 0 (.aE (.var 3) (.aE (.var 4) .a0))) (.aE (.call 1 (.aE (.var 3) (.aE (.var 4) .a0))) (.aE (.call 2 (.aE (.var 5) (.aE (.var 3) .a0))) (.aE (.call 5 (.aE (.var 3) .a0)) .a0)))))) (.cons (.asg 7 (.lst (.aE (.tup (.aE (.o2 .add (.ix (.var 3) (.ci 0)) (.ix (.var 4) (.ci 0))) (.aE (.o2 .add (.ix (.var 3) (.ci 1)) (.ix (.var 4) (.ci 1))) .a0))) (.aE (.tup (.aE (.o2 .sub (.ix (.var 3) (.ci 0)) (.ix (.var 4) (.ci 0))) (.aE (.o2 .sub (.ix (.var 3) (.ci 1)) (.ix (.var 4) (.ci 1))) .a0))) (.aE (.tup (.aE (.o2 .mul (.var 5) (.ix (.var 3) (.ci 0))) (.aE (.o2 .mul (.var 5) (.ix (.var 3) (.ci 1))) .a0))) (.aE (.tup (.aE (.o2 .sub (.ci 0) (.ix (.var 3) (.ci 1))) (.aE (.ix (.var 3) (.ci 0)) .a0))) .a0)))))) (.cons (.ifs (.pur (.nt (.call 7 (.aE (.var 6) (.aE (.var 7) .a0))))) (.cons (.ret (.cb false)) .nil) .nil) (.cons (.ifs (.nt (.call 7 (.aE (.lst (.aE (.call 3 (.aE (.var 3) (.aE (.var 4) .a0))) (.aE (.call 4 (.aE (.var 3) (.aE (.var 4) .a0))) .a0))) (.aE (.lst (.aE (.o2 .add (.o2 .mul (.ix (.var 3) (.ci 0)) (.ix (.var 4) (.ci 0))) (.o2 .mul (.ix (.var 3) (.ci 1)) (.ix (.var 4) (.ci 1)))) (.aE (.o2 .sub (.o2 .mul (.ix (.var 3) (.ci 0)) (.ix (.var 4) (.ci 1))) (.o2 .mul (.ix (.var 3) (.ci 1)) (.ix (.var 4) (.ci 0)))) .a0))) .a0)))) (.cons (.ret (.cb false)) .nil) .nil) (.cons (.ifs (.cp .ne (.var 3) (.tup (.aE (.ci 0) (.aE (.ci 0) .a0)))) (.cons (.asg 8 (.call 11 (.aE (.bi .abs (.aE (.ix (.var 3) (.ci 0)) .a0)) (.aE (.bi .abs (.aE (.ix (.var 3) (.ci 1)) .a0)) .a0)))) (.cons (.ifs (.nt (.call 7 (.aE (.call 6 (.aE (.var 3) .a0)) (.aE (.tup (.aE (.o2 .fdiv (.ix (.var 3) (.ci 0)) (.var 8)) (.aE (.o2 .fdiv (.ix (.var 3) (.ci 1)) (.var 8)) .a0))) .a0)))) (.cons (.ret (.cb false)) .nil) .nil) .nil)) .nil) .nil)))))))) [2, 3, 4, 5, 6, 7, 8] []) (.cons (.ret (.cb true)) .nil)))
def f14 : Fn := ⟨.glob (sx "law"), ⟨[.z], .z⟩, b14, 9⟩
def x14 : Tx := ⟨[sx "script", sx "pool", sx "k", sx "one", sx "two", sx "many", sx "told", sx "due", sx "common"], [sx "script"], ⟨(sx "law", none), sx "law", sx "law", L2.defArgs (top 17), L2.defBody (top 17), L2.defScope (top 17), [], []⟩⟩
theorem bo14 : BindOk x14 := fun _ _ _ _ _ _ us hl => match us, hl with
  | [_], _ => rfl
def pg : Pg := ⟨[f0, f1, f2, f3, f4, f5, f6, f7, f8, f9, f10, f11, f12, f13, f14], [x0, x1, x2, x3, x4, x5, x6, x7, x8, x9, x10, x11, x12, x13, x14], [], [], true⟩
theorem ok0 : pg.okD f0 x0 = true := by decide +kernel
theorem ok1 : pg.okD f1 x1 = true := by decide +kernel
theorem ok2 : pg.okD f2 x2 = true := by decide +kernel
theorem ok3 : pg.okD f3 x3 = true := by decide +kernel
theorem ok4 : pg.okD f4 x4 = true := by decide +kernel
theorem ok5 : pg.okD f5 x5 = true := by decide +kernel
theorem ok6 : pg.okD f6 x6 = true := by decide +kernel
theorem ok7 : pg.okD f7 x7 = true := by decide +kernel
theorem ok8 : pg.okD f8 x8 = true := by decide +kernel
theorem ok9 : pg.okD f9 x9 = true := by decide +kernel
theorem ok10 : pg.okD f10 x10 = true := by decide +kernel
theorem ok11 : pg.okD f11 x11 = true := by decide +kernel
theorem ok12 : pg.okD f12 x12 = true := by decide +kernel
theorem ok13 : pg.okD f13 x13 = true := by decide +kernel
theorem ok14 : pg.okD f14 x14 = true := by decide +kernel
theorem okd : okL pg.okD pg.fs pg.tx = true := by
  show okL pg.okD [f0, f1, f2, f3, f4, f5, f6, f7, f8, f9, f10, f11, f12, f13, f14] [x0, x1, x2, x3, x4, x5, x6, x7, x8, x9, x10, x11, x12, x13, x14] = true
  simp only [okL, ok0, ok1, ok2, ok3, ok4, ok5, ok6, ok7, ok8, ok9, ok10, ok11, ok12, ok13, ok14, Bool.and_self]
theorem ok : pg.Ok := ⟨okd, by decide +kernel, fun x hx => by
  have hx : x ∈ [x0, x1, x2, x3, x4, x5, x6, x7, x8, x9, x10, x11, x12, x13, x14] := hx
  simp only [List.mem_cons, List.not_mem_nil, or_false] at hx
  rcases hx with rfl | rfl | rfl | rfl | rfl | rfl | rfl | rfl | rfl | rfl | rfl | rfl | rfl | rfl | rfl
  · exact bo0
  · exact bo1
  · exact bo2
  · exact bo3
  · exact bo4
  · exact bo5
  · exact bo6
  · exact bo7
  · exact bo8
  · exact bo9
  · exact bo10
  · exact bo11
  · exact bo12
  · exact bo13
  · exact bo14⟩
end T_k01
end
section
set_option Elab.async false
set_option linter.all false
set_option maxRecDepth 100000
set_option maxHeartbeats 0
namespace T_k01
open PySem PySem.W PySem.Calls PyProof.Rows
abbrev R : OpenRow := OpenLaw.row PySem.Challenge.rw_gripwright_k01_vectors_told
abbrev qv : Program := view R.prog [0, 17]
def loose : List PySem.Str := ([PySem.Str.ofString "plus", PySem.Str.ofString "minus", PySem.Str.ofString "scaled", PySem.Str.ofString "dot", PySem.Str.ofString "cross", PySem.Str.ofString "turned", PySem.Str.ofString "primitive", PySem.Str.ofString "_law_same", PySem.Str.ofString "_law_pool", PySem.Str.ofString "_law_spread", PySem.Str.ofString "_law_draw", PySem.Str.ofString "_law_common", PySem.Str.ofString "_law_number", PySem.Str.ofString "_law_row"] : List PySem.Str)
abbrev hk : Hook := pg.hook 4
def ob (s : SharedT) : DI.AlX := pg.obsG 4 (HandSHeadRun.getT s)
theorem ob_eq (s : SharedT) : ob s = hk.obs s.abs := DI.Pg.obsG_eq (HandSHeadRun.getT_eq s)
theorem run (w : World) : HandSHeadRun.RunEqI R qv hk ob 20000 loose w := by
  unfold HandSHeadRun.RunEqI
  kernel_rfl
end T_k01
end
section
set_option Elab.async false
set_option linter.all false
set_option maxRecDepth 100000
set_option maxHeartbeats 1000000
namespace T_k01
open PySem DI
theorem draws : Draws pg.fs 10 := ⟨9, f10, f9, rfl, rfl, rfl, rfl, rfl, rfl, rfl, rfl⟩
theorem numbers : Numbers pg.fs 12 := ⟨10, f12, draws, rfl, rfl, rfl, rfl⟩
theorem row2 {k : Nat} (hk : 3 < k) {p : D} (hp : PoolOk p) {t : Int} (t0 : 0 ≤ t) (t1 : t < 2 ^ 61) : ∃ a b p', callN pg.fs k 13 [p, .int 2, .int t] = some (.tup [.int a, .int b], [p']) ∧ (-t ≤ a ∧ a ≤ t) ∧ (-t ≤ b ∧ b ≤ t) ∧ PoolOk p' := by
  obtain ⟨vs, p', h, hl, hv, hp'⟩ := row_spec (fs := pg.fs) (i := 13) (d := f13) numbers hk rfl rfl rfl rfl hp (m := 2) (by omega) t0 t1
  match vs, hl with
  | [a, b], _ => exact ⟨a, b, p', h, hv a (by simp), hv b (by simp), hp'⟩
theorem pick3 {v : Int} (h0 : 0 ≤ v) (h1 : v < 3) : ∃ t, ixD (.tup [.int 2, .int 9, .int 1000]) (.int v) = some (.int t) ∧ 0 ≤ t ∧ t ≤ 1000 := by
  have : v = 0 ∨ v = 1 ∨ v = 2 := by omega
  rcases this with rfl | rfl | rfl
  · exact ⟨2, rfl, by omega, by omega⟩
  · exact ⟨9, rfl, by omega, by omega⟩
  · exact ⟨1000, rfl, by omega, by omega⟩
section
variable {k : Nat} {a b c d : Int}
theorem c_plus (hk : 0 < k) : callN pg.fs k 0 [.tup [.int a, .int b], .tup [.int c, .int d]] = some (.tup [.int (a + c), .int (b + d)], []) := by
  have := call_of (fs := pg.fs) (k := k) (i := 0) (d := f0) (ds := [.tup [.int a, .int b], .tup [.int c, .int d]]) (R := fun r outs => r = .tup [.int (a + c), .int (b + d)] ∧ outs = []) hk rfl rfl ?_
  · obtain ⟨r, outs, h, rfl, rfl⟩ := this; exact h
  · show wpS _ b0 [.tup [.int a, .int b], .tup [.int c, .int d]] { nx := fun ρ => _ ∧ outsOf [.z, .z] ρ = [], rt := fun r ρ => _ ∧ outsOf [.z, .z] ρ = [] }
    unfold b0
    simp -dsimp only [↓wy_one, ↓wy_cons, ↓seq_nx, ↓seq_rt, ↓seq_bk, ↓seq_ct, ↓ws_nil, ↓ws_pass, ↓ws_retn, ↓ws_cont, ↓ws_brk, ↓wy_ret, ↓ws_asg, ↓ws_drop, ↓wy_asgT, ↓wy_asgF, ↓wy_setI, ↓wy_aug, ↓wy_augI, ↓wy_app, ↓wy_ext, ↓wy_ifs, ↓wp_var, ↓wp_mv, ↓wp_fz, ↓wp_ci, ↓wp_cs, ↓wp_cb, ↓wp_cn, ↓wp_so, ↓wp_ct, ↓wp_a0, ↓wx_o2, ↓wx_neg, ↓wx_nt, ↓wx_cp, ↓wx_ch, ↓wx_an, ↓wx_orr, ↓wx_ite, ↓wx_tup, ↓wx_lst, ↓wx_aE, ↓wx_aS, ↓wx_ix, ↓wx_sl, ↓wx_fld, ↓wx_call, ↓wp_mcall, ↓wx_mk, ↓wx_aio, ↓wx_abw, ↓wx_bi, ↓wx_pur, ↓wx_sq, ↓wx_rg1, ↓wx_rg2, ↓wx_en, ↓wx_zp, ↓wx_comp, ↓wx_turn, OptW_some, IntW_int, BlW_bl, TupW_tup, LstW_lst, NeedW_true, IfW_true, IfW_false, List.getD_cons_zero, List.getD_cons_succ, List.set_cons_zero, List.set_cons_succ, biD, cp_lt, cp_le, cp_gt, cp_ge, cp_eqI, cp_neI, cp_eqB, cp_neB, cp_isN, cp_notN, isNon, add_i, sub_i, seqOf, loc, ev.putIo, isCt, setTg, setMany, Tg.slots, kill, back, outsOf, List.length_cons, List.length_nil, List.cons_append, List.nil_append, List.replicate, List.length_singleton, at0, at1, at2, at3, at4, atT0, atT1, atT2, atT3, ixN0, ixN1, ixN2, ixN3, ixN4, lenOk0, lenOk1, lenOk2, lenOk3, lenOk4, lenOk5, optI, if_true, Bool.false_eq_true, if_false, Bool.not_true, Bool.not_false, List.any_cons, List.any_nil, tyB, Bool.or_false, Bool.or_true, Bool.and_true, Bool.and_false, Option.map_some, small0, Nat.zero_add, Nat.reduceAdd, Nat.reduceSub, Nat.reduceLT, decide_true, decide_false, Post4.seq]
    exact ⟨trivial, trivial⟩
theorem c_minus (hk : 0 < k) : callN pg.fs k 1 [.tup [.int a, .int b], .tup [.int c, .int d]] = some (.tup [.int (a - c), .int (b - d)], []) := by
  have := call_of (fs := pg.fs) (k := k) (i := 1) (d := f1) (ds := [.tup [.int a, .int b], .tup [.int c, .int d]]) (R := fun r outs => r = .tup [.int (a - c), .int (b - d)] ∧ outs = []) hk rfl rfl ?_
  · obtain ⟨r, outs, h, rfl, rfl⟩ := this; exact h
  · show wpS _ b1 [.tup [.int a, .int b], .tup [.int c, .int d]] { nx := fun ρ => _ ∧ outsOf [.z, .z] ρ = [], rt := fun r ρ => _ ∧ outsOf [.z, .z] ρ = [] }
    unfold b1
    simp -dsimp only [↓wy_one, ↓wy_cons, ↓seq_nx, ↓seq_rt, ↓seq_bk, ↓seq_ct, ↓ws_nil, ↓ws_pass, ↓ws_retn, ↓ws_cont, ↓ws_brk, ↓wy_ret, ↓ws_asg, ↓ws_drop, ↓wy_asgT, ↓wy_asgF, ↓wy_setI, ↓wy_aug, ↓wy_augI, ↓wy_app, ↓wy_ext, ↓wy_ifs, ↓wp_var, ↓wp_mv, ↓wp_fz, ↓wp_ci, ↓wp_cs, ↓wp_cb, ↓wp_cn, ↓wp_so, ↓wp_ct, ↓wp_a0, ↓wx_o2, ↓wx_neg, ↓wx_nt, ↓wx_cp, ↓wx_ch, ↓wx_an, ↓wx_orr, ↓wx_ite, ↓wx_tup, ↓wx_lst, ↓wx_aE, ↓wx_aS, ↓wx_ix, ↓wx_sl, ↓wx_fld, ↓wx_call, ↓wp_mcall, ↓wx_mk, ↓wx_aio, ↓wx_abw, ↓wx_bi, ↓wx_pur, ↓wx_sq, ↓wx_rg1, ↓wx_rg2, ↓wx_en, ↓wx_zp, ↓wx_comp, ↓wx_turn, OptW_some, IntW_int, BlW_bl, TupW_tup, LstW_lst, NeedW_true, IfW_true, IfW_false, List.getD_cons_zero, List.getD_cons_succ, List.set_cons_zero, List.set_cons_succ, biD, cp_lt, cp_le, cp_gt, cp_ge, cp_eqI, cp_neI, cp_eqB, cp_neB, cp_isN, cp_notN, isNon, add_i, sub_i, seqOf, loc, ev.putIo, isCt, setTg, setMany, Tg.slots, kill, back, outsOf, List.length_cons, List.length_nil, List.cons_append, List.nil_append, List.replicate, List.length_singleton, at0, at1, at2, at3, at4, atT0, atT1, atT2, atT3, ixN0, ixN1, ixN2, ixN3, ixN4, lenOk0, lenOk1, lenOk2, lenOk3, lenOk4, lenOk5, optI, if_true, Bool.false_eq_true, if_false, Bool.not_true, Bool.not_false, List.any_cons, List.any_nil, tyB, Bool.or_false, Bool.or_true, Bool.and_true, Bool.and_false, Option.map_some, small0, Nat.zero_add, Nat.reduceAdd, Nat.reduceSub, Nat.reduceLT, decide_true, decide_false, Post4.seq]
    exact ⟨trivial, trivial⟩
theorem c_scaled (hk : 0 < k) (ha : a.natAbs < 2 ^ 63) (hb : b.natAbs < 2 ^ 63) : callN pg.fs k 2 [.int c, .tup [.int a, .int b]] = some (.tup [.int (c * a), .int (c * b)], []) := by
  have := call_of (fs := pg.fs) (k := k) (i := 2) (d := f2) (ds := [.int c, .tup [.int a, .int b]]) (R := fun r outs => r = .tup [.int (c * a), .int (c * b)] ∧ outs = []) hk rfl rfl ?_
  · obtain ⟨r, outs, h, rfl, rfl⟩ := this; exact h
  · show wpS _ b2 [.int c, .tup [.int a, .int b]] { nx := fun ρ => _ ∧ outsOf [.z, .z] ρ = [], rt := fun r ρ => _ ∧ outsOf [.z, .z] ρ = [] }
    unfold b2
    simp -dsimp only [↓wy_one, ↓wy_cons, ↓seq_nx, ↓seq_rt, ↓seq_bk, ↓seq_ct, ↓ws_nil, ↓ws_pass, ↓ws_retn, ↓ws_cont, ↓ws_brk, ↓wy_ret, ↓ws_asg, ↓ws_drop, ↓wy_asgT, ↓wy_asgF, ↓wy_setI, ↓wy_aug, ↓wy_augI, ↓wy_app, ↓wy_ext, ↓wy_ifs, ↓wp_var, ↓wp_mv, ↓wp_fz, ↓wp_ci, ↓wp_cs, ↓wp_cb, ↓wp_cn, ↓wp_so, ↓wp_ct, ↓wp_a0, ↓wx_o2, ↓wx_neg, ↓wx_nt, ↓wx_cp, ↓wx_ch, ↓wx_an, ↓wx_orr, ↓wx_ite, ↓wx_tup, ↓wx_lst, ↓wx_aE, ↓wx_aS, ↓wx_ix, ↓wx_sl, ↓wx_fld, ↓wx_call, ↓wp_mcall, ↓wx_mk, ↓wx_aio, ↓wx_abw, ↓wx_bi, ↓wx_pur, ↓wx_sq, ↓wx_rg1, ↓wx_rg2, ↓wx_en, ↓wx_zp, ↓wx_comp, ↓wx_turn, OptW_some, IntW_int, BlW_bl, TupW_tup, LstW_lst, NeedW_true, IfW_true, IfW_false, List.getD_cons_zero, List.getD_cons_succ, List.set_cons_zero, List.set_cons_succ, biD, cp_lt, cp_le, cp_gt, cp_ge, cp_eqI, cp_neI, cp_eqB, cp_neB, cp_isN, cp_notN, isNon, add_i, sub_i, seqOf, loc, ev.putIo, isCt, setTg, setMany, Tg.slots, kill, back, outsOf, List.length_cons, List.length_nil, List.cons_append, List.nil_append, List.replicate, List.length_singleton, at0, at1, at2, at3, at4, atT0, atT1, atT2, atT3, ixN0, ixN1, ixN2, ixN3, ixN4, lenOk0, lenOk1, lenOk2, lenOk3, lenOk4, lenOk5, optI, if_true, Bool.false_eq_true, if_false, Bool.not_true, Bool.not_false, List.any_cons, List.any_nil, tyB, Bool.or_false, Bool.or_true, Bool.and_true, Bool.and_false, Option.map_some, small0, Nat.zero_add, Nat.reduceAdd, Nat.reduceSub, Nat.reduceLT, decide_true, decide_false, Post4.seq, mul_r ha, mul_r hb]
    exact ⟨trivial, trivial⟩
theorem c_dot (hk : 0 < k) (hc : c.natAbs < 2 ^ 63) (hd : d.natAbs < 2 ^ 63) : callN pg.fs k 3 [.tup [.int a, .int b], .tup [.int c, .int d]] = some (.int (a * c + b * d), []) := by
  have := call_of (fs := pg.fs) (k := k) (i := 3) (d := f3) (ds := [.tup [.int a, .int b], .tup [.int c, .int d]]) (R := fun r outs => r = .int (a * c + b * d) ∧ outs = []) hk rfl rfl ?_
  · obtain ⟨r, outs, h, rfl, rfl⟩ := this; exact h
  · show wpS _ b3 [.tup [.int a, .int b], .tup [.int c, .int d]] { nx := fun ρ => _ ∧ outsOf [.z, .z] ρ = [], rt := fun r ρ => _ ∧ outsOf [.z, .z] ρ = [] }
    unfold b3
    simp -dsimp only [↓wy_one, ↓wy_cons, ↓seq_nx, ↓seq_rt, ↓seq_bk, ↓seq_ct, ↓ws_nil, ↓ws_pass, ↓ws_retn, ↓ws_cont, ↓ws_brk, ↓wy_ret, ↓ws_asg, ↓ws_drop, ↓wy_asgT, ↓wy_asgF, ↓wy_setI, ↓wy_aug, ↓wy_augI, ↓wy_app, ↓wy_ext, ↓wy_ifs, ↓wp_var, ↓wp_mv, ↓wp_fz, ↓wp_ci, ↓wp_cs, ↓wp_cb, ↓wp_cn, ↓wp_so, ↓wp_ct, ↓wp_a0, ↓wx_o2, ↓wx_neg, ↓wx_nt, ↓wx_cp, ↓wx_ch, ↓wx_an, ↓wx_orr, ↓wx_ite, ↓wx_tup, ↓wx_lst, ↓wx_aE, ↓wx_aS, ↓wx_ix, ↓wx_sl, ↓wx_fld, ↓wx_call, ↓wp_mcall, ↓wx_mk, ↓wx_aio, ↓wx_abw, ↓wx_bi, ↓wx_pur, ↓wx_sq, ↓wx_rg1, ↓wx_rg2, ↓wx_en, ↓wx_zp, ↓wx_comp, ↓wx_turn, OptW_some, IntW_int, BlW_bl, TupW_tup, LstW_lst, NeedW_true, IfW_true, IfW_false, List.getD_cons_zero, List.getD_cons_succ, List.set_cons_zero, List.set_cons_succ, biD, cp_lt, cp_le, cp_gt, cp_ge, cp_eqI, cp_neI, cp_eqB, cp_neB, cp_isN, cp_notN, isNon, add_i, sub_i, seqOf, loc, ev.putIo, isCt, setTg, setMany, Tg.slots, kill, back, outsOf, List.length_cons, List.length_nil, List.cons_append, List.nil_append, List.replicate, List.length_singleton, at0, at1, at2, at3, at4, atT0, atT1, atT2, atT3, ixN0, ixN1, ixN2, ixN3, ixN4, lenOk0, lenOk1, lenOk2, lenOk3, lenOk4, lenOk5, optI, if_true, Bool.false_eq_true, if_false, Bool.not_true, Bool.not_false, List.any_cons, List.any_nil, tyB, Bool.or_false, Bool.or_true, Bool.and_true, Bool.and_false, Option.map_some, small0, Nat.zero_add, Nat.reduceAdd, Nat.reduceSub, Nat.reduceLT, decide_true, decide_false, Post4.seq, mul_r hc, mul_r hd]
    exact ⟨trivial, trivial⟩
theorem c_cross (hk : 0 < k) (hc : c.natAbs < 2 ^ 63) (hd : d.natAbs < 2 ^ 63) : callN pg.fs k 4 [.tup [.int a, .int b], .tup [.int c, .int d]] = some (.int (a * d - b * c), []) := by
  have := call_of (fs := pg.fs) (k := k) (i := 4) (d := f4) (ds := [.tup [.int a, .int b], .tup [.int c, .int d]]) (R := fun r outs => r = .int (a * d - b * c) ∧ outs = []) hk rfl rfl ?_
  · obtain ⟨r, outs, h, rfl, rfl⟩ := this; exact h
  · show wpS _ b4 [.tup [.int a, .int b], .tup [.int c, .int d]] { nx := fun ρ => _ ∧ outsOf [.z, .z] ρ = [], rt := fun r ρ => _ ∧ outsOf [.z, .z] ρ = [] }
    unfold b4
    simp -dsimp only [↓wy_one, ↓wy_cons, ↓seq_nx, ↓seq_rt, ↓seq_bk, ↓seq_ct, ↓ws_nil, ↓ws_pass, ↓ws_retn, ↓ws_cont, ↓ws_brk, ↓wy_ret, ↓ws_asg, ↓ws_drop, ↓wy_asgT, ↓wy_asgF, ↓wy_setI, ↓wy_aug, ↓wy_augI, ↓wy_app, ↓wy_ext, ↓wy_ifs, ↓wp_var, ↓wp_mv, ↓wp_fz, ↓wp_ci, ↓wp_cs, ↓wp_cb, ↓wp_cn, ↓wp_so, ↓wp_ct, ↓wp_a0, ↓wx_o2, ↓wx_neg, ↓wx_nt, ↓wx_cp, ↓wx_ch, ↓wx_an, ↓wx_orr, ↓wx_ite, ↓wx_tup, ↓wx_lst, ↓wx_aE, ↓wx_aS, ↓wx_ix, ↓wx_sl, ↓wx_fld, ↓wx_call, ↓wp_mcall, ↓wx_mk, ↓wx_aio, ↓wx_abw, ↓wx_bi, ↓wx_pur, ↓wx_sq, ↓wx_rg1, ↓wx_rg2, ↓wx_en, ↓wx_zp, ↓wx_comp, ↓wx_turn, OptW_some, IntW_int, BlW_bl, TupW_tup, LstW_lst, NeedW_true, IfW_true, IfW_false, List.getD_cons_zero, List.getD_cons_succ, List.set_cons_zero, List.set_cons_succ, biD, cp_lt, cp_le, cp_gt, cp_ge, cp_eqI, cp_neI, cp_eqB, cp_neB, cp_isN, cp_notN, isNon, add_i, sub_i, seqOf, loc, ev.putIo, isCt, setTg, setMany, Tg.slots, kill, back, outsOf, List.length_cons, List.length_nil, List.cons_append, List.nil_append, List.replicate, List.length_singleton, at0, at1, at2, at3, at4, atT0, atT1, atT2, atT3, ixN0, ixN1, ixN2, ixN3, ixN4, lenOk0, lenOk1, lenOk2, lenOk3, lenOk4, lenOk5, optI, if_true, Bool.false_eq_true, if_false, Bool.not_true, Bool.not_false, List.any_cons, List.any_nil, tyB, Bool.or_false, Bool.or_true, Bool.and_true, Bool.and_false, Option.map_some, small0, Nat.zero_add, Nat.reduceAdd, Nat.reduceSub, Nat.reduceLT, decide_true, decide_false, Post4.seq, mul_r hc, mul_r hd]
    exact ⟨trivial, trivial⟩
theorem c_turned (hk : 0 < k) : callN pg.fs k 5 [.tup [.int a, .int b]] = some (.tup [.int (-b), .int a], []) := by
  have := call_of (fs := pg.fs) (k := k) (i := 5) (d := f5) (ds := [.tup [.int a, .int b]]) (R := fun r outs => r = .tup [.int (-b), .int a] ∧ outs = []) hk rfl rfl ?_
  · obtain ⟨r, outs, h, rfl, rfl⟩ := this; exact h
  · show wpS _ b5 [.tup [.int a, .int b]] { nx := fun ρ => _ ∧ outsOf [.z] ρ = [], rt := fun r ρ => _ ∧ outsOf [.z] ρ = [] }
    unfold b5
    simp -dsimp only [↓wy_one, ↓wy_cons, ↓seq_nx, ↓seq_rt, ↓seq_bk, ↓seq_ct, ↓ws_nil, ↓ws_pass, ↓ws_retn, ↓ws_cont, ↓ws_brk, ↓wy_ret, ↓ws_asg, ↓ws_drop, ↓wy_asgT, ↓wy_asgF, ↓wy_setI, ↓wy_aug, ↓wy_augI, ↓wy_app, ↓wy_ext, ↓wy_ifs, ↓wp_var, ↓wp_mv, ↓wp_fz, ↓wp_ci, ↓wp_cs, ↓wp_cb, ↓wp_cn, ↓wp_so, ↓wp_ct, ↓wp_a0, ↓wx_o2, ↓wx_neg, ↓wx_nt, ↓wx_cp, ↓wx_ch, ↓wx_an, ↓wx_orr, ↓wx_ite, ↓wx_tup, ↓wx_lst, ↓wx_aE, ↓wx_aS, ↓wx_ix, ↓wx_sl, ↓wx_fld, ↓wx_call, ↓wp_mcall, ↓wx_mk, ↓wx_aio, ↓wx_abw, ↓wx_bi, ↓wx_pur, ↓wx_sq, ↓wx_rg1, ↓wx_rg2, ↓wx_en, ↓wx_zp, ↓wx_comp, ↓wx_turn, OptW_some, IntW_int, BlW_bl, TupW_tup, LstW_lst, NeedW_true, IfW_true, IfW_false, List.getD_cons_zero, List.getD_cons_succ, List.set_cons_zero, List.set_cons_succ, biD, cp_lt, cp_le, cp_gt, cp_ge, cp_eqI, cp_neI, cp_eqB, cp_neB, cp_isN, cp_notN, isNon, add_i, sub_i, seqOf, loc, ev.putIo, isCt, setTg, setMany, Tg.slots, kill, back, outsOf, List.length_cons, List.length_nil, List.cons_append, List.nil_append, List.replicate, List.length_singleton, at0, at1, at2, at3, at4, atT0, atT1, atT2, atT3, ixN0, ixN1, ixN2, ixN3, ixN4, lenOk0, lenOk1, lenOk2, lenOk3, lenOk4, lenOk5, optI, if_true, Bool.false_eq_true, if_false, Bool.not_true, Bool.not_false, List.any_cons, List.any_nil, tyB, Bool.or_false, Bool.or_true, Bool.and_true, Bool.and_false, Option.map_some, small0, Nat.zero_add, Nat.reduceAdd, Nat.reduceSub, Nat.reduceLT, decide_true, decide_false, Post4.seq]
    exact ⟨trivial, trivial⟩
theorem c_primitive (hk : 0 < k) (h : ¬ (a = 0 ∧ b = 0)) (ha : a.natAbs < 2 ^ 62) (hb : b.natAbs < 2 ^ 62) : callN pg.fs k 6 [.tup [.int a, .int b]] = some (.tup [.int (a / (Int.gcd a b : Int)), .int (b / (Int.gcd a b : Int))], []) := by
  have g0 : 0 < Int.gcd a b := by
    rcases Nat.eq_zero_or_pos (Int.gcd a b) with q | q
    · exact absurd (Int.gcd_eq_zero_iff.mp q) h
    · exact q
  have g1 : Int.gcd a b < 2 ^ 62 := by
    unfold Int.gcd at g0 ⊢
    by_cases h0 : a.natAbs = 0
    · rw [h0, Nat.gcd_zero_left]; exact hb
    · exact Nat.lt_of_le_of_lt (Nat.gcd_le_left _ (by omega)) ha
  have := call_of (fs := pg.fs) (k := k) (i := 6) (d := f6) (ds := [.tup [.int a, .int b]]) (R := fun r outs => r = .tup [.int (a / (Int.gcd a b : Int)), .int (b / (Int.gcd a b : Int))] ∧ outs = []) hk rfl rfl ?_
  · obtain ⟨r, outs, h, rfl, rfl⟩ := this; exact h
  · show wpS _ b6 [.tup [.int a, .int b], .non] { nx := fun ρ => _ ∧ outsOf [.z] ρ = [], rt := fun r ρ => _ ∧ outsOf [.z] ρ = [] }
    unfold b6
    simp -dsimp only [↓wy_one, ↓wy_cons, ↓seq_nx, ↓seq_rt, ↓seq_bk, ↓seq_ct, ↓ws_nil, ↓ws_pass, ↓ws_retn, ↓ws_cont, ↓ws_brk, ↓wy_ret, ↓ws_asg, ↓ws_drop, ↓wy_asgT, ↓wy_asgF, ↓wy_setI, ↓wy_aug, ↓wy_augI, ↓wy_app, ↓wy_ext, ↓wy_ifs, ↓wp_var, ↓wp_mv, ↓wp_fz, ↓wp_ci, ↓wp_cs, ↓wp_cb, ↓wp_cn, ↓wp_so, ↓wp_ct, ↓wp_a0, ↓wx_o2, ↓wx_neg, ↓wx_nt, ↓wx_cp, ↓wx_ch, ↓wx_an, ↓wx_orr, ↓wx_ite, ↓wx_tup, ↓wx_lst, ↓wx_aE, ↓wx_aS, ↓wx_ix, ↓wx_sl, ↓wx_fld, ↓wx_call, ↓wp_mcall, ↓wx_mk, ↓wx_aio, ↓wx_abw, ↓wx_bi, ↓wx_pur, ↓wx_sq, ↓wx_rg1, ↓wx_rg2, ↓wx_en, ↓wx_zp, ↓wx_comp, ↓wx_turn, OptW_some, IntW_int, BlW_bl, TupW_tup, LstW_lst, NeedW_true, IfW_true, IfW_false, List.getD_cons_zero, List.getD_cons_succ, List.set_cons_zero, List.set_cons_succ, biD, cp_lt, cp_le, cp_gt, cp_ge, cp_eqI, cp_neI, cp_eqB, cp_neB, cp_isN, cp_notN, isNon, add_i, sub_i, seqOf, loc, ev.putIo, isCt, setTg, setMany, Tg.slots, kill, back, outsOf, List.length_cons, List.length_nil, List.cons_append, List.nil_append, List.replicate, List.length_singleton, at0, at1, at2, at3, at4, atT0, atT1, atT2, atT3, ixN0, ixN1, ixN2, ixN3, ixN4, lenOk0, lenOk1, lenOk2, lenOk3, lenOk4, lenOk5, optI, if_true, Bool.false_eq_true, if_false, Bool.not_true, Bool.not_false, List.any_cons, List.any_nil, tyB, Bool.or_false, Bool.or_true, Bool.and_true, Bool.and_false, Option.map_some, small0, Nat.zero_add, Nat.reduceAdd, Nat.reduceSub, Nat.reduceLT, decide_true, decide_false, Post4.seq, fdiv_p (j := (Int.gcd a b : Int)) (by omega) (by omega)]
    exact ⟨trivial, trivial⟩
theorem c_same {n : Nat} (hk : n < k) {x : D} (h : Pl n x) : callN pg.fs k 7 [x, x] = some (.bl true, []) := same_refl (fs := pg.fs) (i := 7) (d := f7) rfl rfl rfl (fun ρ => outs_nil rfl) rfl h hk
end
theorem pl2 {n : Nat} {a b : Int} : Pl (n + 1) (.tup [.int a, .int b]) := .tup n _ (by simp) fun x hx => by
  simp only [List.mem_cons, List.not_mem_nil, or_false] at hx
  rcases hx with rfl | rfl <;> exact .int _ _
def Lp : S := match b14 with
  | .cons _ (.cons (.for_ _ _ b _ _) _) => b
  | _ => .nil
theorem body_ok {k : Nat} (hk : 10 < k) {s p : D} (hp : PoolOk p) {x2 x3 x4 x5 x6 x7 x8 : D} : wpS (callN pg.fs k) Lp [s, p, x2, x3, x4, x5, x6, x7, x8] { nx := fun ρ => ∃ p' y2 y3 y4 y5 y6 y7 y8, ρ = [s, p', y2, y3, y4, y5, y6, y7, y8] ∧ PoolOk p', rt := fun _ _ => False } := by
  obtain ⟨v1, p1, h1, u1, w1, hp1⟩ := draws.draw (k := k) (by omega) hp (m := 3) (by omega) (by omega)
  obtain ⟨t1, e1, l1, m1⟩ := pick3 u1 w1
  obtain ⟨a, b, p2, h2, ⟨a0, a1⟩, ⟨b0, b1⟩, hp2⟩ := row2 (k := k) (by omega) hp1 l1 (by omega)
  obtain ⟨v3, p3, h3, u3, w3, hp3⟩ := draws.draw (k := k) (by omega) hp2 (m := 3) (by omega) (by omega)
  obtain ⟨t2, e2, l2, m2⟩ := pick3 u3 w3
  obtain ⟨c, d, p4, h4, ⟨c0, c1⟩, ⟨d0, d1⟩, hp4⟩ := row2 (k := k) (by omega) hp3 l2 (by omega)
  obtain ⟨m, p5, h5, m0, m9, hp5⟩ := numbers.number (k := k) (by omega) hp4 (t := 7) (by omega) (by omega)
  unfold Lp b14
  simp -dsimp only [↓wy_one, ↓wy_cons, ↓seq_nx, ↓seq_rt, ↓seq_bk, ↓seq_ct, ↓ws_nil, ↓ws_pass, ↓ws_retn, ↓ws_cont, ↓ws_brk, ↓wy_ret, ↓ws_asg, ↓ws_drop, ↓wy_asgT, ↓wy_asgF, ↓wy_setI, ↓wy_aug, ↓wy_augI, ↓wy_app, ↓wy_ext, ↓wy_ifs, ↓wp_var, ↓wp_mv, ↓wp_fz, ↓wp_ci, ↓wp_cs, ↓wp_cb, ↓wp_cn, ↓wp_so, ↓wp_ct, ↓wp_a0, ↓wx_o2, ↓wx_neg, ↓wx_nt, ↓wx_cp, ↓wx_ch, ↓wx_an, ↓wx_orr, ↓wx_ite, ↓wx_tup, ↓wx_lst, ↓wx_aE, ↓wx_aS, ↓wx_ix, ↓wx_sl, ↓wx_fld, ↓wx_call, ↓wp_mcall, ↓wx_mk, ↓wx_aio, ↓wx_abw, ↓wx_bi, ↓wx_pur, ↓wx_sq, ↓wx_rg1, ↓wx_rg2, ↓wx_en, ↓wx_zp, ↓wx_comp, ↓wx_turn, OptW_some, IntW_int, BlW_bl, TupW_tup, LstW_lst, NeedW_true, IfW_true, IfW_false, List.getD_cons_zero, List.getD_cons_succ, List.set_cons_zero, List.set_cons_succ, biD, cp_lt, cp_le, cp_gt, cp_ge, cp_eqI, cp_neI, cp_eqB, cp_neB, cp_isN, cp_notN, isNon, add_i, sub_i, seqOf, loc, ev.putIo, isCt, setTg, setMany, Tg.slots, kill, back, outsOf, List.length_cons, List.length_nil, List.cons_append, List.nil_append, List.replicate, List.length_singleton, at0, at1, at2, at3, at4, atT0, atT1, atT2, atT3, ixN0, ixN1, ixN2, ixN3, ixN4, lenOk0, lenOk1, lenOk2, lenOk3, lenOk4, lenOk5, optI, if_true, Bool.false_eq_true, if_false, Bool.not_true, Bool.not_false, List.any_cons, List.any_nil, tyB, Bool.or_false, Bool.or_true, Bool.and_true, Bool.and_false, Option.map_some, small0, Nat.zero_add, Nat.reduceAdd, Nat.reduceSub, Nat.reduceLT, decide_true, decide_false, Post4.seq, h1, e1]
  simp -dsimp only [↓wy_one, ↓wy_cons, ↓seq_nx, ↓seq_rt, ↓seq_bk, ↓seq_ct, ↓ws_nil, ↓ws_pass, ↓ws_retn, ↓ws_cont, ↓ws_brk, ↓wy_ret, ↓ws_asg, ↓ws_drop, ↓wy_asgT, ↓wy_asgF, ↓wy_setI, ↓wy_aug, ↓wy_augI, ↓wy_app, ↓wy_ext, ↓wy_ifs, ↓wp_var, ↓wp_mv, ↓wp_fz, ↓wp_ci, ↓wp_cs, ↓wp_cb, ↓wp_cn, ↓wp_so, ↓wp_ct, ↓wp_a0, ↓wx_o2, ↓wx_neg, ↓wx_nt, ↓wx_cp, ↓wx_ch, ↓wx_an, ↓wx_orr, ↓wx_ite, ↓wx_tup, ↓wx_lst, ↓wx_aE, ↓wx_aS, ↓wx_ix, ↓wx_sl, ↓wx_fld, ↓wx_call, ↓wp_mcall, ↓wx_mk, ↓wx_aio, ↓wx_abw, ↓wx_bi, ↓wx_pur, ↓wx_sq, ↓wx_rg1, ↓wx_rg2, ↓wx_en, ↓wx_zp, ↓wx_comp, ↓wx_turn, OptW_some, IntW_int, BlW_bl, TupW_tup, LstW_lst, NeedW_true, IfW_true, IfW_false, List.getD_cons_zero, List.getD_cons_succ, List.set_cons_zero, List.set_cons_succ, biD, cp_lt, cp_le, cp_gt, cp_ge, cp_eqI, cp_neI, cp_eqB, cp_neB, cp_isN, cp_notN, isNon, add_i, sub_i, seqOf, loc, ev.putIo, isCt, setTg, setMany, Tg.slots, kill, back, outsOf, List.length_cons, List.length_nil, List.cons_append, List.nil_append, List.replicate, List.length_singleton, at0, at1, at2, at3, at4, atT0, atT1, atT2, atT3, ixN0, ixN1, ixN2, ixN3, ixN4, lenOk0, lenOk1, lenOk2, lenOk3, lenOk4, lenOk5, optI, if_true, Bool.false_eq_true, if_false, Bool.not_true, Bool.not_false, List.any_cons, List.any_nil, tyB, Bool.or_false, Bool.or_true, Bool.and_true, Bool.and_false, Option.map_some, small0, Nat.zero_add, Nat.reduceAdd, Nat.reduceSub, Nat.reduceLT, decide_true, decide_false, Post4.seq, h2]
  simp -dsimp only [↓wy_one, ↓wy_cons, ↓seq_nx, ↓seq_rt, ↓seq_bk, ↓seq_ct, ↓ws_nil, ↓ws_pass, ↓ws_retn, ↓ws_cont, ↓ws_brk, ↓wy_ret, ↓ws_asg, ↓ws_drop, ↓wy_asgT, ↓wy_asgF, ↓wy_setI, ↓wy_aug, ↓wy_augI, ↓wy_app, ↓wy_ext, ↓wy_ifs, ↓wp_var, ↓wp_mv, ↓wp_fz, ↓wp_ci, ↓wp_cs, ↓wp_cb, ↓wp_cn, ↓wp_so, ↓wp_ct, ↓wp_a0, ↓wx_o2, ↓wx_neg, ↓wx_nt, ↓wx_cp, ↓wx_ch, ↓wx_an, ↓wx_orr, ↓wx_ite, ↓wx_tup, ↓wx_lst, ↓wx_aE, ↓wx_aS, ↓wx_ix, ↓wx_sl, ↓wx_fld, ↓wx_call, ↓wp_mcall, ↓wx_mk, ↓wx_aio, ↓wx_abw, ↓wx_bi, ↓wx_pur, ↓wx_sq, ↓wx_rg1, ↓wx_rg2, ↓wx_en, ↓wx_zp, ↓wx_comp, ↓wx_turn, OptW_some, IntW_int, BlW_bl, TupW_tup, LstW_lst, NeedW_true, IfW_true, IfW_false, List.getD_cons_zero, List.getD_cons_succ, List.set_cons_zero, List.set_cons_succ, biD, cp_lt, cp_le, cp_gt, cp_ge, cp_eqI, cp_neI, cp_eqB, cp_neB, cp_isN, cp_notN, isNon, add_i, sub_i, seqOf, loc, ev.putIo, isCt, setTg, setMany, Tg.slots, kill, back, outsOf, List.length_cons, List.length_nil, List.cons_append, List.nil_append, List.replicate, List.length_singleton, at0, at1, at2, at3, at4, atT0, atT1, atT2, atT3, ixN0, ixN1, ixN2, ixN3, ixN4, lenOk0, lenOk1, lenOk2, lenOk3, lenOk4, lenOk5, optI, if_true, Bool.false_eq_true, if_false, Bool.not_true, Bool.not_false, List.any_cons, List.any_nil, tyB, Bool.or_false, Bool.or_true, Bool.and_true, Bool.and_false, Option.map_some, small0, Nat.zero_add, Nat.reduceAdd, Nat.reduceSub, Nat.reduceLT, decide_true, decide_false, Post4.seq, h3, e2]
  simp -dsimp only [↓wy_one, ↓wy_cons, ↓seq_nx, ↓seq_rt, ↓seq_bk, ↓seq_ct, ↓ws_nil, ↓ws_pass, ↓ws_retn, ↓ws_cont, ↓ws_brk, ↓wy_ret, ↓ws_asg, ↓ws_drop, ↓wy_asgT, ↓wy_asgF, ↓wy_setI, ↓wy_aug, ↓wy_augI, ↓wy_app, ↓wy_ext, ↓wy_ifs, ↓wp_var, ↓wp_mv, ↓wp_fz, ↓wp_ci, ↓wp_cs, ↓wp_cb, ↓wp_cn, ↓wp_so, ↓wp_ct, ↓wp_a0, ↓wx_o2, ↓wx_neg, ↓wx_nt, ↓wx_cp, ↓wx_ch, ↓wx_an, ↓wx_orr, ↓wx_ite, ↓wx_tup, ↓wx_lst, ↓wx_aE, ↓wx_aS, ↓wx_ix, ↓wx_sl, ↓wx_fld, ↓wx_call, ↓wp_mcall, ↓wx_mk, ↓wx_aio, ↓wx_abw, ↓wx_bi, ↓wx_pur, ↓wx_sq, ↓wx_rg1, ↓wx_rg2, ↓wx_en, ↓wx_zp, ↓wx_comp, ↓wx_turn, OptW_some, IntW_int, BlW_bl, TupW_tup, LstW_lst, NeedW_true, IfW_true, IfW_false, List.getD_cons_zero, List.getD_cons_succ, List.set_cons_zero, List.set_cons_succ, biD, cp_lt, cp_le, cp_gt, cp_ge, cp_eqI, cp_neI, cp_eqB, cp_neB, cp_isN, cp_notN, isNon, add_i, sub_i, seqOf, loc, ev.putIo, isCt, setTg, setMany, Tg.slots, kill, back, outsOf, List.length_cons, List.length_nil, List.cons_append, List.nil_append, List.replicate, List.length_singleton, at0, at1, at2, at3, at4, atT0, atT1, atT2, atT3, ixN0, ixN1, ixN2, ixN3, ixN4, lenOk0, lenOk1, lenOk2, lenOk3, lenOk4, lenOk5, optI, if_true, Bool.false_eq_true, if_false, Bool.not_true, Bool.not_false, List.any_cons, List.any_nil, tyB, Bool.or_false, Bool.or_true, Bool.and_true, Bool.and_false, Option.map_some, small0, Nat.zero_add, Nat.reduceAdd, Nat.reduceSub, Nat.reduceLT, decide_true, decide_false, Post4.seq, h4]
  simp -dsimp only [↓wy_one, ↓wy_cons, ↓seq_nx, ↓seq_rt, ↓seq_bk, ↓seq_ct, ↓ws_nil, ↓ws_pass, ↓ws_retn, ↓ws_cont, ↓ws_brk, ↓wy_ret, ↓ws_asg, ↓ws_drop, ↓wy_asgT, ↓wy_asgF, ↓wy_setI, ↓wy_aug, ↓wy_augI, ↓wy_app, ↓wy_ext, ↓wy_ifs, ↓wp_var, ↓wp_mv, ↓wp_fz, ↓wp_ci, ↓wp_cs, ↓wp_cb, ↓wp_cn, ↓wp_so, ↓wp_ct, ↓wp_a0, ↓wx_o2, ↓wx_neg, ↓wx_nt, ↓wx_cp, ↓wx_ch, ↓wx_an, ↓wx_orr, ↓wx_ite, ↓wx_tup, ↓wx_lst, ↓wx_aE, ↓wx_aS, ↓wx_ix, ↓wx_sl, ↓wx_fld, ↓wx_call, ↓wp_mcall, ↓wx_mk, ↓wx_aio, ↓wx_abw, ↓wx_bi, ↓wx_pur, ↓wx_sq, ↓wx_rg1, ↓wx_rg2, ↓wx_en, ↓wx_zp, ↓wx_comp, ↓wx_turn, OptW_some, IntW_int, BlW_bl, TupW_tup, LstW_lst, NeedW_true, IfW_true, IfW_false, List.getD_cons_zero, List.getD_cons_succ, List.set_cons_zero, List.set_cons_succ, biD, cp_lt, cp_le, cp_gt, cp_ge, cp_eqI, cp_neI, cp_eqB, cp_neB, cp_isN, cp_notN, isNon, add_i, sub_i, seqOf, loc, ev.putIo, isCt, setTg, setMany, Tg.slots, kill, back, outsOf, List.length_cons, List.length_nil, List.cons_append, List.nil_append, List.replicate, List.length_singleton, at0, at1, at2, at3, at4, atT0, atT1, atT2, atT3, ixN0, ixN1, ixN2, ixN3, ixN4, lenOk0, lenOk1, lenOk2, lenOk3, lenOk4, lenOk5, optI, if_true, Bool.false_eq_true, if_false, Bool.not_true, Bool.not_false, List.any_cons, List.any_nil, tyB, Bool.or_false, Bool.or_true, Bool.and_true, Bool.and_false, Option.map_some, small0, Nat.zero_add, Nat.reduceAdd, Nat.reduceSub, Nat.reduceLT, decide_true, decide_false, Post4.seq, h5]
  have q1 := c_plus (k := k) (a := a) (b := b) (c := c) (d := d) (by omega)
  have q2 := c_minus (k := k) (a := a) (b := b) (c := c) (d := d) (by omega)
  have q3 := c_scaled (k := k) (a := a) (b := b) (c := m) (by omega) (by omega) (by omega)
  have q4 := c_turned (k := k) (a := a) (b := b) (by omega)
  have r1 := mul_r (i := m) (j := a) (by omega)
  have r2 := mul_r (i := m) (j := b) (by omega)
  simp -dsimp only [↓wy_one, ↓wy_cons, ↓seq_nx, ↓seq_rt, ↓seq_bk, ↓seq_ct, ↓ws_nil, ↓ws_pass, ↓ws_retn, ↓ws_cont, ↓ws_brk, ↓wy_ret, ↓ws_asg, ↓ws_drop, ↓wy_asgT, ↓wy_asgF, ↓wy_setI, ↓wy_aug, ↓wy_augI, ↓wy_app, ↓wy_ext, ↓wy_ifs, ↓wp_var, ↓wp_mv, ↓wp_fz, ↓wp_ci, ↓wp_cs, ↓wp_cb, ↓wp_cn, ↓wp_so, ↓wp_ct, ↓wp_a0, ↓wx_o2, ↓wx_neg, ↓wx_nt, ↓wx_cp, ↓wx_ch, ↓wx_an, ↓wx_orr, ↓wx_ite, ↓wx_tup, ↓wx_lst, ↓wx_aE, ↓wx_aS, ↓wx_ix, ↓wx_sl, ↓wx_fld, ↓wx_call, ↓wp_mcall, ↓wx_mk, ↓wx_aio, ↓wx_abw, ↓wx_bi, ↓wx_pur, ↓wx_sq, ↓wx_rg1, ↓wx_rg2, ↓wx_en, ↓wx_zp, ↓wx_comp, ↓wx_turn, OptW_some, IntW_int, BlW_bl, TupW_tup, LstW_lst, NeedW_true, IfW_true, IfW_false, List.getD_cons_zero, List.getD_cons_succ, List.set_cons_zero, List.set_cons_succ, biD, cp_lt, cp_le, cp_gt, cp_ge, cp_eqI, cp_neI, cp_eqB, cp_neB, cp_isN, cp_notN, isNon, add_i, sub_i, seqOf, loc, ev.putIo, isCt, setTg, setMany, Tg.slots, kill, back, outsOf, List.length_cons, List.length_nil, List.cons_append, List.nil_append, List.replicate, List.length_singleton, at0, at1, at2, at3, at4, atT0, atT1, atT2, atT3, ixN0, ixN1, ixN2, ixN3, ixN4, lenOk0, lenOk1, lenOk2, lenOk3, lenOk4, lenOk5, optI, if_true, Bool.false_eq_true, if_false, Bool.not_true, Bool.not_false, List.any_cons, List.any_nil, tyB, Bool.or_false, Bool.or_true, Bool.and_true, Bool.and_false, Option.map_some, small0, Nat.zero_add, Nat.reduceAdd, Nat.reduceSub, Nat.reduceLT, decide_true, decide_false, Post4.seq, q1, q2, q3, q4, r1, r2, Int.zero_sub]
  have s1 := c_same (k := k) (n := 2) (by omega) (x := .lst [.tup [.int (a + c), .int (b + d)], .tup [.int (a - c), .int (b - d)], .tup [.int (m * a), .int (m * b)], .tup [.int (-b), .int a]]) (.lst 1 _ (by simp) fun x hx => by
    simp only [List.mem_cons, List.not_mem_nil, or_false] at hx
    rcases hx with rfl | rfl | rfl | rfl <;> exact pl2)
  have q5 := c_dot (k := k) (a := a) (b := b) (c := c) (d := d) (by omega) (by omega) (by omega)
  have q6 := c_cross (k := k) (a := a) (b := b) (c := c) (d := d) (by omega) (by omega) (by omega)
  have r3 := mul_r (i := a) (j := c) (by omega)
  have r4 := mul_r (i := b) (j := d) (by omega)
  have r5 := mul_r (i := a) (j := d) (by omega)
  have r6 := mul_r (i := b) (j := c) (by omega)
  simp -dsimp only [↓wy_one, ↓wy_cons, ↓seq_nx, ↓seq_rt, ↓seq_bk, ↓seq_ct, ↓ws_nil, ↓ws_pass, ↓ws_retn, ↓ws_cont, ↓ws_brk, ↓wy_ret, ↓ws_asg, ↓ws_drop, ↓wy_asgT, ↓wy_asgF, ↓wy_setI, ↓wy_aug, ↓wy_augI, ↓wy_app, ↓wy_ext, ↓wy_ifs, ↓wp_var, ↓wp_mv, ↓wp_fz, ↓wp_ci, ↓wp_cs, ↓wp_cb, ↓wp_cn, ↓wp_so, ↓wp_ct, ↓wp_a0, ↓wx_o2, ↓wx_neg, ↓wx_nt, ↓wx_cp, ↓wx_ch, ↓wx_an, ↓wx_orr, ↓wx_ite, ↓wx_tup, ↓wx_lst, ↓wx_aE, ↓wx_aS, ↓wx_ix, ↓wx_sl, ↓wx_fld, ↓wx_call, ↓wp_mcall, ↓wx_mk, ↓wx_aio, ↓wx_abw, ↓wx_bi, ↓wx_pur, ↓wx_sq, ↓wx_rg1, ↓wx_rg2, ↓wx_en, ↓wx_zp, ↓wx_comp, ↓wx_turn, OptW_some, IntW_int, BlW_bl, TupW_tup, LstW_lst, NeedW_true, IfW_true, IfW_false, List.getD_cons_zero, List.getD_cons_succ, List.set_cons_zero, List.set_cons_succ, biD, cp_lt, cp_le, cp_gt, cp_ge, cp_eqI, cp_neI, cp_eqB, cp_neB, cp_isN, cp_notN, isNon, add_i, sub_i, seqOf, loc, ev.putIo, isCt, setTg, setMany, Tg.slots, kill, back, outsOf, List.length_cons, List.length_nil, List.cons_append, List.nil_append, List.replicate, List.length_singleton, at0, at1, at2, at3, at4, atT0, atT1, atT2, atT3, ixN0, ixN1, ixN2, ixN3, ixN4, lenOk0, lenOk1, lenOk2, lenOk3, lenOk4, lenOk5, optI, if_true, Bool.false_eq_true, if_false, Bool.not_true, Bool.not_false, List.any_cons, List.any_nil, tyB, Bool.or_false, Bool.or_true, Bool.and_true, Bool.and_false, Option.map_some, small0, Nat.zero_add, Nat.reduceAdd, Nat.reduceSub, Nat.reduceLT, decide_true, decide_false, Post4.seq, s1, q5, q6, r3, r4, r5, r6]
  have s2 := c_same (k := k) (n := 1) (by omega) (x := .lst [.int (a * c + b * d), .int (a * d - b * c)]) (.lst 0 _ (by simp) fun x hx => by
    simp only [List.mem_cons, List.not_mem_nil, or_false] at hx
    rcases hx with rfl | rfl <;> exact .int _ _)
  simp -dsimp only [↓wy_one, ↓wy_cons, ↓seq_nx, ↓seq_rt, ↓seq_bk, ↓seq_ct, ↓ws_nil, ↓ws_pass, ↓ws_retn, ↓ws_cont, ↓ws_brk, ↓wy_ret, ↓ws_asg, ↓ws_drop, ↓wy_asgT, ↓wy_asgF, ↓wy_setI, ↓wy_aug, ↓wy_augI, ↓wy_app, ↓wy_ext, ↓wy_ifs, ↓wp_var, ↓wp_mv, ↓wp_fz, ↓wp_ci, ↓wp_cs, ↓wp_cb, ↓wp_cn, ↓wp_so, ↓wp_ct, ↓wp_a0, ↓wx_o2, ↓wx_neg, ↓wx_nt, ↓wx_cp, ↓wx_ch, ↓wx_an, ↓wx_orr, ↓wx_ite, ↓wx_tup, ↓wx_lst, ↓wx_aE, ↓wx_aS, ↓wx_ix, ↓wx_sl, ↓wx_fld, ↓wx_call, ↓wp_mcall, ↓wx_mk, ↓wx_aio, ↓wx_abw, ↓wx_bi, ↓wx_pur, ↓wx_sq, ↓wx_rg1, ↓wx_rg2, ↓wx_en, ↓wx_zp, ↓wx_comp, ↓wx_turn, OptW_some, IntW_int, BlW_bl, TupW_tup, LstW_lst, NeedW_true, IfW_true, IfW_false, List.getD_cons_zero, List.getD_cons_succ, List.set_cons_zero, List.set_cons_succ, biD, cp_lt, cp_le, cp_gt, cp_ge, cp_eqI, cp_neI, cp_eqB, cp_neB, cp_isN, cp_notN, isNon, add_i, sub_i, seqOf, loc, ev.putIo, isCt, setTg, setMany, Tg.slots, kill, back, outsOf, List.length_cons, List.length_nil, List.cons_append, List.nil_append, List.replicate, List.length_singleton, at0, at1, at2, at3, at4, atT0, atT1, atT2, atT3, ixN0, ixN1, ixN2, ixN3, ixN4, lenOk0, lenOk1, lenOk2, lenOk3, lenOk4, lenOk5, optI, if_true, Bool.false_eq_true, if_false, Bool.not_true, Bool.not_false, List.any_cons, List.any_nil, tyB, Bool.or_false, Bool.or_true, Bool.and_true, Bool.and_false, Option.map_some, small0, Nat.zero_add, Nat.reduceAdd, Nat.reduceSub, Nat.reduceLT, decide_true, decide_false, Post4.seq, s2, cp_neT2]
  have fin : ∀ (p : D) (z : D), PoolOk p → ∃ p' y2 y3 y4 y5 y6 y7 y8, [s, p, x2, .tup [.int a, .int b], .tup [.int c, .int d], .int m, .lst [.tup [.int (a + c), .int (b + d)], .tup [.int (a - c), .int (b - d)], .tup [.int (m * a), .int (m * b)], .tup [.int (-b), .int a]], .lst [.tup [.int (a + c), .int (b + d)], .tup [.int (a - c), .int (b - d)], .tup [.int (m * a), .int (m * b)], .tup [.int (-b), .int a]], z] = [s, p', y2, y3, y4, y5, y6, y7, y8] ∧ PoolOk p' := fun p z h => ⟨p, _, _, _, _, _, _, _, rfl, h⟩
  refine IfW_cases (fun hz => ?_) (fun _ => by simp -dsimp only [↓wy_one, ↓wy_cons, ↓seq_nx, ↓seq_rt, ↓seq_bk, ↓seq_ct, ↓ws_nil, ↓ws_pass, ↓ws_retn, ↓ws_cont, ↓ws_brk, ↓wy_ret, ↓ws_asg, ↓ws_drop, ↓wy_asgT, ↓wy_asgF, ↓wy_setI, ↓wy_aug, ↓wy_augI, ↓wy_app, ↓wy_ext, ↓wy_ifs, ↓wp_var, ↓wp_mv, ↓wp_fz, ↓wp_ci, ↓wp_cs, ↓wp_cb, ↓wp_cn, ↓wp_so, ↓wp_ct, ↓wp_a0, ↓wx_o2, ↓wx_neg, ↓wx_nt, ↓wx_cp, ↓wx_ch, ↓wx_an, ↓wx_orr, ↓wx_ite, ↓wx_tup, ↓wx_lst, ↓wx_aE, ↓wx_aS, ↓wx_ix, ↓wx_sl, ↓wx_fld, ↓wx_call, ↓wp_mcall, ↓wx_mk, ↓wx_aio, ↓wx_abw, ↓wx_bi, ↓wx_pur, ↓wx_sq, ↓wx_rg1, ↓wx_rg2, ↓wx_en, ↓wx_zp, ↓wx_comp, ↓wx_turn, OptW_some, IntW_int, BlW_bl, TupW_tup, LstW_lst, NeedW_true, IfW_true, IfW_false, List.getD_cons_zero, List.getD_cons_succ, List.set_cons_zero, List.set_cons_succ, biD, cp_lt, cp_le, cp_gt, cp_ge, cp_eqI, cp_neI, cp_eqB, cp_neB, cp_isN, cp_notN, isNon, add_i, sub_i, seqOf, loc, ev.putIo, isCt, setTg, setMany, Tg.slots, kill, back, outsOf, List.length_cons, List.length_nil, List.cons_append, List.nil_append, List.replicate, List.length_singleton, at0, at1, at2, at3, at4, atT0, atT1, atT2, atT3, ixN0, ixN1, ixN2, ixN3, ixN4, lenOk0, lenOk1, lenOk2, lenOk3, lenOk4, lenOk5, optI, if_true, Bool.false_eq_true, if_false, Bool.not_true, Bool.not_false, List.any_cons, List.any_nil, tyB, Bool.or_false, Bool.or_true, Bool.and_true, Bool.and_false, Option.map_some, small0, Nat.zero_add, Nat.reduceAdd, Nat.reduceSub, Nat.reduceLT, decide_true, decide_false, Post4.seq]; exact fin _ _ hp5)
  have hz : ¬ (a = 0 ∧ b = 0) := fun ⟨h1, h2⟩ => by simp [h1, h2] at hz
  have q7 := c_primitive (k := k) (by omega) hz (by omega) (by omega)
  have q8 : callN pg.fs k 11 [.int (a.natAbs : Int), .int (b.natAbs : Int)] = some (.int (Int.gcd a b : Int), []) :=
    common_spec (fs := pg.fs) (i := 11) (d := f11) (by omega) rfl rfl rfl rfl a.natAbs b.natAbs (Nat.lt_of_lt_of_le (show b.natAbs < 2 ^ 62 by omega) (Nat.pow_le_pow_right (by omega) (by omega)))
  have g0 : 0 < Int.gcd a b := by
    rcases Nat.eq_zero_or_pos (Int.gcd a b) with q | q
    · exact absurd (Int.gcd_eq_zero_iff.mp q) hz
    · exact q
  have g1 : Int.gcd a b < 2 ^ 62 := by
    unfold Int.gcd at g0 ⊢
    by_cases h0 : a.natAbs = 0
    · rw [h0, Nat.gcd_zero_left]; omega
    · exact Nat.lt_of_le_of_lt (Nat.gcd_le_left _ (by omega)) (by omega)
  have f1 := fdiv_p (i := a) (j := (Int.gcd a b : Int)) (by omega) (by omega)
  have f2 := fdiv_p (i := b) (j := (Int.gcd a b : Int)) (by omega) (by omega)
  simp -dsimp only [↓wy_one, ↓wy_cons, ↓seq_nx, ↓seq_rt, ↓seq_bk, ↓seq_ct, ↓ws_nil, ↓ws_pass, ↓ws_retn, ↓ws_cont, ↓ws_brk, ↓wy_ret, ↓ws_asg, ↓ws_drop, ↓wy_asgT, ↓wy_asgF, ↓wy_setI, ↓wy_aug, ↓wy_augI, ↓wy_app, ↓wy_ext, ↓wy_ifs, ↓wp_var, ↓wp_mv, ↓wp_fz, ↓wp_ci, ↓wp_cs, ↓wp_cb, ↓wp_cn, ↓wp_so, ↓wp_ct, ↓wp_a0, ↓wx_o2, ↓wx_neg, ↓wx_nt, ↓wx_cp, ↓wx_ch, ↓wx_an, ↓wx_orr, ↓wx_ite, ↓wx_tup, ↓wx_lst, ↓wx_aE, ↓wx_aS, ↓wx_ix, ↓wx_sl, ↓wx_fld, ↓wx_call, ↓wp_mcall, ↓wx_mk, ↓wx_aio, ↓wx_abw, ↓wx_bi, ↓wx_pur, ↓wx_sq, ↓wx_rg1, ↓wx_rg2, ↓wx_en, ↓wx_zp, ↓wx_comp, ↓wx_turn, OptW_some, IntW_int, BlW_bl, TupW_tup, LstW_lst, NeedW_true, IfW_true, IfW_false, List.getD_cons_zero, List.getD_cons_succ, List.set_cons_zero, List.set_cons_succ, biD, cp_lt, cp_le, cp_gt, cp_ge, cp_eqI, cp_neI, cp_eqB, cp_neB, cp_isN, cp_notN, isNon, add_i, sub_i, seqOf, loc, ev.putIo, isCt, setTg, setMany, Tg.slots, kill, back, outsOf, List.length_cons, List.length_nil, List.cons_append, List.nil_append, List.replicate, List.length_singleton, at0, at1, at2, at3, at4, atT0, atT1, atT2, atT3, ixN0, ixN1, ixN2, ixN3, ixN4, lenOk0, lenOk1, lenOk2, lenOk3, lenOk4, lenOk5, optI, if_true, Bool.false_eq_true, if_false, Bool.not_true, Bool.not_false, List.any_cons, List.any_nil, tyB, Bool.or_false, Bool.or_true, Bool.and_true, Bool.and_false, Option.map_some, small0, Nat.zero_add, Nat.reduceAdd, Nat.reduceSub, Nat.reduceLT, decide_true, decide_false, Post4.seq, abs_i, q8, q7, f1, f2]
  have s3 := c_same (k := k) (n := 1) (by omega) (x := .tup [.int (a / (Int.gcd a b : Int)), .int (b / (Int.gcd a b : Int))]) pl2
  simp -dsimp only [↓wy_one, ↓wy_cons, ↓seq_nx, ↓seq_rt, ↓seq_bk, ↓seq_ct, ↓ws_nil, ↓ws_pass, ↓ws_retn, ↓ws_cont, ↓ws_brk, ↓wy_ret, ↓ws_asg, ↓ws_drop, ↓wy_asgT, ↓wy_asgF, ↓wy_setI, ↓wy_aug, ↓wy_augI, ↓wy_app, ↓wy_ext, ↓wy_ifs, ↓wp_var, ↓wp_mv, ↓wp_fz, ↓wp_ci, ↓wp_cs, ↓wp_cb, ↓wp_cn, ↓wp_so, ↓wp_ct, ↓wp_a0, ↓wx_o2, ↓wx_neg, ↓wx_nt, ↓wx_cp, ↓wx_ch, ↓wx_an, ↓wx_orr, ↓wx_ite, ↓wx_tup, ↓wx_lst, ↓wx_aE, ↓wx_aS, ↓wx_ix, ↓wx_sl, ↓wx_fld, ↓wx_call, ↓wp_mcall, ↓wx_mk, ↓wx_aio, ↓wx_abw, ↓wx_bi, ↓wx_pur, ↓wx_sq, ↓wx_rg1, ↓wx_rg2, ↓wx_en, ↓wx_zp, ↓wx_comp, ↓wx_turn, OptW_some, IntW_int, BlW_bl, TupW_tup, LstW_lst, NeedW_true, IfW_true, IfW_false, List.getD_cons_zero, List.getD_cons_succ, List.set_cons_zero, List.set_cons_succ, biD, cp_lt, cp_le, cp_gt, cp_ge, cp_eqI, cp_neI, cp_eqB, cp_neB, cp_isN, cp_notN, isNon, add_i, sub_i, seqOf, loc, ev.putIo, isCt, setTg, setMany, Tg.slots, kill, back, outsOf, List.length_cons, List.length_nil, List.cons_append, List.nil_append, List.replicate, List.length_singleton, at0, at1, at2, at3, at4, atT0, atT1, atT2, atT3, ixN0, ixN1, ixN2, ixN3, ixN4, lenOk0, lenOk1, lenOk2, lenOk3, lenOk4, lenOk5, optI, if_true, Bool.false_eq_true, if_false, Bool.not_true, Bool.not_false, List.any_cons, List.any_nil, tyB, Bool.or_false, Bool.or_true, Bool.and_true, Bool.and_false, Option.map_some, small0, Nat.zero_add, Nat.reduceAdd, Nat.reduceSub, Nat.reduceLT, decide_true, decide_false, Post4.seq, s3]
  exact fin _ _ hp5
theorem law_true (ns : List Int) (_ : ns.length ≤ 63) : callN pg.fs 20 14 [.lst (ns.map D.int)] = some (.bl true, []) := by
  obtain ⟨p, h1, hp⟩ := pool_spec (fs := pg.fs) (k := 19) (i := 8) (d := f8) (by omega) rfl rfl rfl rfl ns
  have := call_of (fs := pg.fs) (k := 20) (i := 14) (d := f14) (ds := [.lst (ns.map D.int)]) (R := fun r outs => r = .bl true ∧ outs = []) (by omega) rfl rfl ?_
  · obtain ⟨r, outs, h, rfl, rfl⟩ := this; exact h
  · show wpS (callN pg.fs 19) b14 [.lst (ns.map D.int), .non, .non, .non, .non, .non, .non, .non, .non] { nx := fun ρ => _ ∧ outsOf [.z] ρ = [], rt := fun r ρ => _ ∧ outsOf [.z] ρ = [] }
    unfold b14
    simp -dsimp only [↓wy_one, ↓wy_cons, ↓seq_nx, ↓seq_rt, ↓seq_bk, ↓seq_ct, ↓ws_nil, ↓ws_pass, ↓ws_retn, ↓ws_cont, ↓ws_brk, ↓wy_ret, ↓ws_asg, ↓ws_drop, ↓wy_asgT, ↓wy_asgF, ↓wy_setI, ↓wy_aug, ↓wy_augI, ↓wy_app, ↓wy_ext, ↓wy_ifs, ↓wp_var, ↓wp_mv, ↓wp_fz, ↓wp_ci, ↓wp_cs, ↓wp_cb, ↓wp_cn, ↓wp_so, ↓wp_ct, ↓wp_a0, ↓wx_o2, ↓wx_neg, ↓wx_nt, ↓wx_cp, ↓wx_ch, ↓wx_an, ↓wx_orr, ↓wx_ite, ↓wx_tup, ↓wx_lst, ↓wx_aE, ↓wx_aS, ↓wx_ix, ↓wx_sl, ↓wx_fld, ↓wx_call, ↓wp_mcall, ↓wx_mk, ↓wx_aio, ↓wx_abw, ↓wx_bi, ↓wx_pur, ↓wx_sq, ↓wx_rg1, ↓wx_rg2, ↓wx_en, ↓wx_zp, ↓wx_comp, ↓wx_turn, OptW_some, IntW_int, BlW_bl, TupW_tup, LstW_lst, NeedW_true, IfW_true, IfW_false, List.getD_cons_zero, List.getD_cons_succ, List.set_cons_zero, List.set_cons_succ, biD, cp_lt, cp_le, cp_gt, cp_ge, cp_eqI, cp_neI, cp_eqB, cp_neB, cp_isN, cp_notN, isNon, add_i, sub_i, seqOf, loc, ev.putIo, isCt, setTg, setMany, Tg.slots, kill, back, outsOf, List.length_cons, List.length_nil, List.cons_append, List.nil_append, List.replicate, List.length_singleton, at0, at1, at2, at3, at4, atT0, atT1, atT2, atT3, ixN0, ixN1, ixN2, ixN3, ixN4, lenOk0, lenOk1, lenOk2, lenOk3, lenOk4, lenOk5, optI, if_true, Bool.false_eq_true, if_false, Bool.not_true, Bool.not_false, List.any_cons, List.any_nil, tyB, Bool.or_false, Bool.or_true, Bool.and_true, Bool.and_false, Option.map_some, small0, Nat.zero_add, Nat.reduceAdd, Nat.reduceSub, Nat.reduceLT, decide_true, decide_false, Post4.seq, h1]
    refine for_inv (I := fun l ρ => (∃ ns : List Int, l = ns.map D.int) ∧ ∃ p' y2 y3 y4 y5 y6 y7 y8, ρ = [.lst (ns.map D.int), p', y2, y3, y4, y5, y6, y7, y8] ∧ PoolOk p') ?_ ?_ ?_
    · simp -dsimp only [↓wy_one, ↓wy_cons, ↓seq_nx, ↓seq_rt, ↓seq_bk, ↓seq_ct, ↓ws_nil, ↓ws_pass, ↓ws_retn, ↓ws_cont, ↓ws_brk, ↓wy_ret, ↓ws_asg, ↓ws_drop, ↓wy_asgT, ↓wy_asgF, ↓wy_setI, ↓wy_aug, ↓wy_augI, ↓wy_app, ↓wy_ext, ↓wy_ifs, ↓wp_var, ↓wp_mv, ↓wp_fz, ↓wp_ci, ↓wp_cs, ↓wp_cb, ↓wp_cn, ↓wp_so, ↓wp_ct, ↓wp_a0, ↓wx_o2, ↓wx_neg, ↓wx_nt, ↓wx_cp, ↓wx_ch, ↓wx_an, ↓wx_orr, ↓wx_ite, ↓wx_tup, ↓wx_lst, ↓wx_aE, ↓wx_aS, ↓wx_ix, ↓wx_sl, ↓wx_fld, ↓wx_call, ↓wp_mcall, ↓wx_mk, ↓wx_aio, ↓wx_abw, ↓wx_bi, ↓wx_pur, ↓wx_sq, ↓wx_rg1, ↓wx_rg2, ↓wx_en, ↓wx_zp, ↓wx_comp, ↓wx_turn, OptW_some, IntW_int, BlW_bl, TupW_tup, LstW_lst, NeedW_true, IfW_true, IfW_false, List.getD_cons_zero, List.getD_cons_succ, List.set_cons_zero, List.set_cons_succ, biD, cp_lt, cp_le, cp_gt, cp_ge, cp_eqI, cp_neI, cp_eqB, cp_neB, cp_isN, cp_notN, isNon, add_i, sub_i, seqOf, loc, ev.putIo, isCt, setTg, setMany, Tg.slots, kill, back, outsOf, List.length_cons, List.length_nil, List.cons_append, List.nil_append, List.replicate, List.length_singleton, at0, at1, at2, at3, at4, atT0, atT1, atT2, atT3, ixN0, ixN1, ixN2, ixN3, ixN4, lenOk0, lenOk1, lenOk2, lenOk3, lenOk4, lenOk5, optI, if_true, Bool.false_eq_true, if_false, Bool.not_true, Bool.not_false, List.any_cons, List.any_nil, tyB, Bool.or_false, Bool.or_true, Bool.and_true, Bool.and_false, Option.map_some, small0, Nat.zero_add, Nat.reduceAdd, Nat.reduceSub, Nat.reduceLT, decide_true, decide_false, Post4.seq]
      rw [small0 (by decide) (by decide), NeedW_true]
      exact ⟨_, rfl, range4 6, _, _, _, _, _, _, _, _, rfl, hp⟩
    · rintro ρ2 ⟨_, p', y2, y3, y4, y5, y6, y7, y8, rfl, hp'⟩
      simp -dsimp only [↓wy_one, ↓wy_cons, ↓seq_nx, ↓seq_rt, ↓seq_bk, ↓seq_ct, ↓ws_nil, ↓ws_pass, ↓ws_retn, ↓ws_cont, ↓ws_brk, ↓wy_ret, ↓ws_asg, ↓ws_drop, ↓wy_asgT, ↓wy_asgF, ↓wy_setI, ↓wy_aug, ↓wy_augI, ↓wy_app, ↓wy_ext, ↓wy_ifs, ↓wp_var, ↓wp_mv, ↓wp_fz, ↓wp_ci, ↓wp_cs, ↓wp_cb, ↓wp_cn, ↓wp_so, ↓wp_ct, ↓wp_a0, ↓wx_o2, ↓wx_neg, ↓wx_nt, ↓wx_cp, ↓wx_ch, ↓wx_an, ↓wx_orr, ↓wx_ite, ↓wx_tup, ↓wx_lst, ↓wx_aE, ↓wx_aS, ↓wx_ix, ↓wx_sl, ↓wx_fld, ↓wx_call, ↓wp_mcall, ↓wx_mk, ↓wx_aio, ↓wx_abw, ↓wx_bi, ↓wx_pur, ↓wx_sq, ↓wx_rg1, ↓wx_rg2, ↓wx_en, ↓wx_zp, ↓wx_comp, ↓wx_turn, OptW_some, IntW_int, BlW_bl, TupW_tup, LstW_lst, NeedW_true, IfW_true, IfW_false, List.getD_cons_zero, List.getD_cons_succ, List.set_cons_zero, List.set_cons_succ, biD, cp_lt, cp_le, cp_gt, cp_ge, cp_eqI, cp_neI, cp_eqB, cp_neB, cp_isN, cp_notN, isNon, add_i, sub_i, seqOf, loc, ev.putIo, isCt, setTg, setMany, Tg.slots, kill, back, outsOf, List.length_cons, List.length_nil, List.cons_append, List.nil_append, List.replicate, List.length_singleton, at0, at1, at2, at3, at4, atT0, atT1, atT2, atT3, ixN0, ixN1, ixN2, ixN3, ixN4, lenOk0, lenOk1, lenOk2, lenOk3, lenOk4, lenOk5, optI, if_true, Bool.false_eq_true, if_false, Bool.not_true, Bool.not_false, List.any_cons, List.any_nil, tyB, Bool.or_false, Bool.or_true, Bool.and_true, Bool.and_false, Option.map_some, small0, Nat.zero_add, Nat.reduceAdd, Nat.reduceSub, Nat.reduceLT, decide_true, decide_false, Post4.seq]
      exact ⟨trivial, trivial⟩
    · rintro d ds ρ1 ⟨⟨ns', e⟩, p', y2, y3, y4, y5, y6, y7, y8, rfl, hp'⟩
      refine ⟨_, rfl, ?_⟩
      have := body_ok (k := 19) (by omega) (s := .lst (ns.map D.int)) (x2 := d) (x3 := y3) (x4 := y4) (x5 := y5) (x6 := y6) (x7 := y7) (x8 := y8) hp'
      cases ns' with
      | nil => cases e
      | cons n ns' =>
        cases e
        refine wpS_mono this (fun ρ h => ?_) (fun _ _ h => h.elim) (fun _ h => h.elim) (fun _ h => h.elim)
        obtain ⟨p', y2, y3, y4, y5, y6, y7, y8, rfl, hp'⟩ := h
        exact ⟨⟨ns', rfl⟩, p', _, _, _, _, _, _, _, rfl, hp'⟩
end T_k01
end
set_option linter.all false
set_option maxRecDepth 100000
set_option maxHeartbeats 0
open PySem PySem.W PySem.Calls PyProof.Rows
set_option maxRecDepth 100000 in
set_option maxHeartbeats 0 in
theorem PySem.Challenge.cw_gripwright_k01_vectors_told_holds : PySem.Challenge.rw_gripwright_k01_vectors_told.Holds := by
  w_on; o_law
  refine HandSHeadRun.head_imp (r := OpenLaw.row PySem.Challenge.rw_gripwright_k01_vectors_told) (q := view (OpenLaw.row PySem.Challenge.rw_gripwright_k01_vectors_told).prog [0, 17]) (H := T_k01.hk) (ob := T_k01.ob) (M := 20000) (loose := T_k01.loose) (d := HandSHeadRun.topDef (OpenLaw.row PySem.Challenge.rw_gripwright_k01_vectors_told).prog 17) (kwd := []) T_k01.ob_eq
    T_k01.run (by kernel_rfl) (by kernel_rfl) (by kernel_rfl) (by rfl) (by first | assumption | decide +kernel) (by decide +kernel) ⟨rfl, rfl, rfl, rfl, rfl, by decide +kernel⟩ ?hw ?hc
  case hw => w_witness2
  case hc =>
    refine L2.walk_ofE (l := PySem.Challenge.rw_gripwright_k01_vectors_told) (n := 63) (k := 2 * 20) (x := "script") (CX := DI.CX0) rfl (by decide) (by kernel_rfl) ⟨rfl, by decide, by decide⟩ ?F (fun _ _ _ _ z => z)
    intro w mg fa h Y G hmg0
    obtain ⟨K, KX, c⟩ := Y
    have hmg : mg ("law" : PySem.Str) = some (.ref fa) := by
      have e : (HandSHeadRun.topDef (OpenLaw.row PySem.Challenge.rw_gripwright_k01_vectors_told).prog 17).name = ("law" : PySem.Str) := by kernel_rfl
      rw [← e]
      exact hmg0
    obtain ⟨fd, sp, hb, hsp, hF⟩ := DI.Pg.end_ (li := 14) (k := 20) T_k01.ok rfl rfl rfl rfl rfl T_k01.law_true (P := (PySem.Challenge.rw_gripwright_k01_vectors_told).prog) (w := w) KX G hmg c
    exact ⟨K, fd, sp, KX, hb, hsp, hF⟩

