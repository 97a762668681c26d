import PyProof.Rows.All
import Wide.All
import OpenK.AllK
import Wide.FinOn
import HandS.ForExc
import HandS.ForMost
import HandS.Deep
import HandS.IsInst
import HandS.Flow
import HandS.ExcOwn
import HandS.TryMany
import HandS.TupAny
import HandS.TupLe
import HandS.Zip
import HandS.TupMul
import HandS.Small
import HandS.Walk
import HandS.ExcIs
import KE.GoesEnum
import KE.KRevSl
import KE.DatumOrd
import KE.SortData
import PyProof.ReprRoads
import PyProof.TupleOfStr
import KE.KTupSum
import HandS.WordsExc
import HandS.Ends
import KE.KStrBytes
import PyProof.TableCode
import PySem.Challenge.RW_orderwhole_k92_cells_of_falling_rows
set_option Elab.async false
set_option linter.all false
set_option maxRecDepth 100000
/-! The data layer, first part: the own terms, their meaning over plain data (no heap). -/
namespace L2.DL
open PySem PyProof.Rows

/-! ### results -/
abbrev Store := List (List PyData)
inductive Res (α : Type) where
  | ok (a : α) (S : Store)
  | exc (c : Nat) (S : Store)
  | stuck
abbrev Mn (α : Type) := Store → Res α
def Mn.pure {α : Type} (a : α) : Mn α := fun S => .ok a S
def Mn.bind {α β : Type} (m : Mn α) (f : α → Mn β) : Mn β := fun S =>
  match m S with
  | .ok a S' => f a S'
  | .exc c S' => .exc c S'
  | .stuck => .stuck
def Mn.stuck {α : Type} : Mn α := fun _ => .stuck
def Mn.exc {α : Type} (c : Nat) : Mn α := fun S => .exc c S
/-- an exception within is not carried -/
def Mn.calm {α : Type} (m : Mn α) : Mn α := fun S =>
  match m S with
  | .ok a S' => .ok a S'
  | _ => .stuck
instance : Monad Mn where
  pure := Mn.pure
  bind := Mn.bind
def guardM (b : Bool) : Mn Unit := fun S => if b then .ok () S else .stuck
def ofOpt {α : Type} : Option α → Mn α
  | some a => Mn.pure a
  | none => Mn.stuck

/-! ### slots -/
inductive Slot where
  | no
  | val (d : PyData)
  | own (d : PyData)
  | ref (n : Nat)
abbrev Env := List Slot

/-! ### the terms -/
inductive Bop where
  | add | sub | mul | mod | fdiv | pow
  deriving DecidableEq
inductive Cop where
  | eq | ne | lt | le | gt | ge | isin | notin | isNone | notNone | isB | notB
  deriving DecidableEq
inductive Ty where
  | bool | int | str | tuple | list
  deriving DecidableEq
inductive Bi where
  | len | tuple | list | sorted | sortedSet | lenSet | sum | maxl | minl | max2 | min2 | abs | repr | str | int | dict
  deriving DecidableEq
inductive Mt where
  | join | index | values | items | keys | get2
  deriving DecidableEq
mutual
inductive E where
  | var (i : Nat)
  | own (i : Nat)
  | rf (i : Nat)
  | cst (d : PyData)
  | edict
  | tup (es : Es)
  | lst (es : Es)
  | neg (a : E)
  | not (a : E)
  | bin (op : Bop) (a b : E)
  | cmp (op : Cop) (a b : E)
  | chain (o p : Cop) (a b c : E)
  | and (a b : E)
  | or (a b : E)
  | orv (a b : E)
  | ite (t : T) (a b : E)
  | idx (a b : E)
  | cell (i : Nat) (b : E)
  | sli (a : E) (lo hi : Oe)
  | rev (a : E)
  | isi (a : E) (ts : List Ty)
  | call (f : Str) (es : Es)
  | bi (b : Bi) (a : E)
  | bi2 (b : Bi) (a c : E)
  | biIt (b : Bi) (it : It)
  | mth (m : Mt) (o : E) (es : Es)
  | cellPop (i : Nat) (k : E)
  | lc (vs : List Nat) (elt : E) (g : Gs)
inductive T where
  | of (e : E)
  | not (t : T)
  | and (t u : T)
  | or (t u : T)
inductive Oe where
  | no
  | one (e : E)
inductive Ot where
  | no
  | one (t : T)
inductive Es where
  | nil
  | cons (e : E) (es : Es)
inductive It where
  | seq (e : E)
  | range1 (a : E)
  | range2 (a b : E)
  | range3 (a b c : E)
  | enum (e : E)
  | zip (a b : E)
inductive Gs where
  | one (tg : List Nat) (it : It) (cond : Ot)
  | more (tg : List Nat) (it : It) (cond : Ot) (g : Gs)
end

/-! ### operations on data -/
def strSz (x : Str) : Bool := decide (x.length ≤ sizeLine)
def lenOk {α : Type} (xs : List α) : Bool := decide (xs.length ≤ sizeLine)
def cMul (i j : Int) : Bool := (decide (-(2 ^ 64) < i) && decide (i < 2 ^ 64)) || (decide (-(2 ^ 64) < j) && decide (j < 2 ^ 64))
def opAdd : PyData → PyData → Option PyData
  | .int i, .int j => some (.int (i + j))
  | .str x, .str y => if x.length + y.length ≤ sizeLine then some (.str (x ++ y)) else none
  | .list xs, .list ys => if xs.length + ys.length ≤ sizeLine then some (.list (xs ++ ys)) else none
  | .tuple xs, .tuple ys => if xs.length + ys.length ≤ sizeLine then some (.tuple (xs ++ ys)) else none
  | _, _ => none
def opSub : PyData → PyData → Option PyData
  | .int i, .int j => some (.int (i - j))
  | _, _ => none
def opMul : PyData → PyData → Option PyData
  | .int i, .int j => if cMul i j then some (.int (i * j)) else none
  | _, _ => none
def opMod : PyData → PyData → Option PyData
  | .int i, .int j => if j ≠ 0 then some (.int (i.fmod j)) else none
  | _, _ => none
def opFdiv : PyData → PyData → Option PyData
  | .int i, .int j => if j ≠ 0 ∧ j.natAbs < 1073741824 then some (.int (i.fdiv j)) else none
  | _, _ => none
def opPow : PyData → PyData → Option PyData
  | .int i, .int j => if 0 ≤ j ∧ j ≤ 1000000 ∧ i.natAbs < 2 ^ 64 then some (.int (i ^ j.toNat)) else none
  | _, _ => none
def binD : Bop → PyData → PyData → Option PyData
  | .add => opAdd
  | .sub => opSub
  | .mul => opMul
  | .mod => opMod
  | .fdiv => opFdiv
  | .pow => opPow

/-- x op= e, ints alone -/
def augD : Bop → PyData → PyData → Option PyData
  | .add, .int i, .int j => some (.int (i + j))
  | .sub, .int i, .int j => some (.int (i - j))
  | _, _, _ => none
def notNone : PyData → Bool
  | .none => false
  | _ => true
def eqD (a b : PyData) : Option Bool := if SeqAt.shaped a && SeqAt.shaped b then some (PyData.eqv a b) else none
def neD (a b : PyData) : Option Bool := if SeqAt.shaped a && SeqAt.shaped b then some (!PyData.eqv a b) else none
def cmpOk (a b : PyData) : Bool := PySem.W.alike a b && notNone a && decide (a.depth ≤ 64) && !a.hasDict && !b.hasDict
def ltD (a b : PyData) : Option Bool := if cmpOk a b then some (PySem.W.dataLt a b) else none
def gtD (a b : PyData) : Option Bool := if cmpOk a b then some (PySem.W.dataLt b a) else none
def leD (a b : PyData) : Option Bool := if cmpOk a b then some (!PySem.W.dataLt b a) else none
def geD (a b : PyData) : Option Bool := if cmpOk a b then some (!PySem.W.dataLt a b) else none
def itemsOf : PyData → Option (List PyData)
  | .list xs => some xs
  | .tuple xs => some xs
  | _ => none
def inD (x : PyData) : PyData → Option Bool
  | .list ys => if SeqAt.shaped x && SeqAt.shaped (.list ys) then some (ys.any fun y => PyData.eqv y x) else none
  | .tuple ys => if SeqAt.shaped x && SeqAt.shaped (.tuple ys) then some (ys.any fun y => PyData.eqv y x) else none
  | _ => none
def notinD (x : PyData) : PyData → Option Bool
  | .list ys => if SeqAt.shaped x && SeqAt.shaped (.list ys) then some (!ys.any fun y => PyData.eqv y x) else none
  | .tuple ys => if SeqAt.shaped x && SeqAt.shaped (.tuple ys) then some (!ys.any fun y => PyData.eqv y x) else none
  | _ => none
def isNoneD : PyData → Bool
  | .none => true
  | _ => false
def isnD (a b : PyData) : Option Bool := if isNoneD b then some (isNoneD a) else none
def nonD (a b : PyData) : Option Bool := if isNoneD b then some (!isNoneD a) else none
def notB : PyData → PyData → Option Bool
  | .bool a, .bool b => some (!decide (a = b))
  | _, _ => none
def isB : PyData → PyData → Option Bool
  | .bool a, .bool b => some (decide (a = b))
  | _, _ => none
def cmpD : Cop → PyData → PyData → Option Bool
  | .eq => eqD
  | .ne => neD
  | .lt => ltD
  | .le => leD
  | .gt => gtD
  | .ge => geD
  | .isin => inD
  | .notin => notinD
  | .isNone => isnD
  | .notNone => nonD
  | .isB => isB
  | .notB => notB

def truD : PyData → Option Bool
  | .none => some false
  | .bool b => some b
  | .int i => some (i != 0)
  | .str x => if x.length ≤ sizeLine then some ((x.length : Int) != 0) else none
  | .list xs => some (!xs.isEmpty)
  | .tuple xs => some (!xs.isEmpty)
  | .dict _ => none

def idxD : PyData → PyData → Option PyData
  | .list xs, .int i => L2.atI xs i
  | .tuple xs, .int i => L2.atI xs i
  | .str x, .int i => if x.length ≤ sizeLine then (L2.atI x.cps.toList i).map fun c => .str ⟨#[c]⟩ else none
  | _, _ => none
def cutL {α : Type} (xs : List α) (lo hi : Option Int) : List α := (xs.drop (HT.sIx xs.length 0 lo)).take (HT.sIx xs.length xs.length hi - HT.sIx xs.length 0 lo)
def sliD (lo hi : Option Int) : PyData → Option PyData
  | .list xs => some (.list (cutL xs lo hi))
  | .tuple xs => some (.tuple (cutL xs lo hi))
  | .str x => if x.length ≤ sizeLine then some (.str (L2.cutS x lo hi)) else none
  | _ => none
def revD : PyData → Option PyData
  | .list xs => some (.list xs.reverse)
  | .tuple xs => some (.tuple xs.reverse)
  | .str x => if x.length ≤ sizeLine then some (.str ⟨x.cps.reverse⟩) else none
  | _ => none
def isiT : Ty → PyData → Bool
  | .bool, .bool _ => true
  | .int, .bool _ => true
  | .int, .int _ => true
  | .str, .str _ => true
  | .tuple, .tuple _ => true
  | .list, .list _ => true
  | _, _ => false
def isiD (ts : List Ty) (d : PyData) : Bool := ts.any fun t => isiT t d

def lenD : PyData → Option PyData
  | .list xs => some (.int xs.length)
  | .tuple xs => some (.int xs.length)
  | .str x => if x.length ≤ sizeLine then some (.int x.length) else none
  | _ => none
def dedup : List PyData → List PyData → List PyData
  | acc, [] => acc
  | acc, x :: r => if acc.any (fun y => PyData.eqv y x) then dedup acc r else dedup (acc ++ [x]) r
def chars (x : Str) : List PyData := x.cps.toList.map fun c => .str ⟨#[c]⟩
def dle (a b : PyData) : Bool := !PySem.W.dataLt b a
def isRow1 : PyData → Bool
  | .tuple (_ :: _) => true
  | _ => false
def noRow : PyData → Bool
  | .tuple _ => false
  | .none => false
  | _ => true
def sortOk (xs : List PyData) : Bool := (xs.all fun a => xs.all fun b => PySem.W.alike a b) && (xs.all fun a => !a.hasDict && decide (a.depth ≤ 60)) && (xs.all isRow1 || xs.all noRow) && decide (xs.length ≤ sizeLine)
def sortD (xs : List PyData) : Option PyData := if sortOk xs then some (.list (xs.mergeSort dle)) else none
def intsOf : List PyData → Option (List Int)
  | [] => some []
  | .int i :: r => (intsOf r).map (i :: ·)
  | _ :: _ => none
def maxI : List Int → Option Int
  | [] => none
  | x :: r => some (r.foldl (fun a b => if a < b then b else a) x)
def minI : List Int → Option Int
  | [] => none
  | x :: r => some (r.foldl (fun a b => if b < a then b else a) x)
def strD : PyData → Option PyData
  | .int i => if i.natAbs.log2 < 1920 then some (.str (toString i : String)) else none
  | .none => some (.str ("None" : Str))
  | .bool b => some (.str (if b then ("True" : Str) else ("False" : Str)))
  | .str x => some (.str x)
  | _ => none
def reprD (d : PyData) : Option PyData := if d.showable && !d.hasDict && decide (d.depth ≤ 64) && decide (d.shown.length ≤ sizeLine) then some (.str d.shown) else none
def tupD : PyData → Option PyData
  | .list xs => some (.tuple xs)
  | .tuple xs => some (.tuple xs)
  | .str x => if x.cps.size ≤ sizeLine then some (.tuple (chars x)) else none
  | _ => none
def sumD : PyData → Option PyData
  | .list xs => (intsOf xs).map fun ns => .int ns.sum
  | .tuple xs => (intsOf xs).map fun ns => .int ns.sum
  | _ => none
def listD : PyData → Option PyData
  | .list xs => some (.list xs)
  | .tuple xs => some (.list xs)
  | _ => none
def intD : PyData → Option PyData
  | .int i => some (.int i)
  | .bool b => some (.int (if b then 1 else 0))
  | _ => none
def absD : PyData → Option PyData
  | .int i => some (.int (if i < 0 then -i else i))
  | _ => none
def maxD : PyData → Option PyData
  | .list xs => ((intsOf xs).bind maxI).map .int
  | .tuple xs => ((intsOf xs).bind maxI).map .int
  | _ => none
def minD : PyData → Option PyData
  | .list xs => ((intsOf xs).bind minI).map .int
  | _ => none
def sortedD : PyData → Option PyData
  | .list xs => sortD xs
  | _ => none
def biD : Bi → PyData → Option PyData
  | .len => lenD
  | .tuple => tupD
  | .list => listD
  | .sorted => sortedD
  | .sum => sumD
  | .maxl => maxD
  | .minl => minD
  | .abs => absD
  | .repr => reprD
  | .str => strD
  | .int => intD
  | _ => fun _ => none
def bi2D : Bi → PyData → PyData → Option PyData
  | .max2, .int i, .int j => some (.int (if j > i then j else i))
  | .min2, .int i, .int j => some (.int (if j < i then j else i))
  | _, _, _ => none
def rangeN (lo : Int) (n : Nat) (c : Int) : List PyData := (List.range n).map fun k => .int (lo + (k : Nat) * c)
def biItD : Bi → List PyData → Option PyData
  | .list, xs => if xs.length ≤ sizeLine then some (.list xs) else none
  | _, _ => none
def strsOf : List PyData → Option (List Str)
  | [] => some []
  | .str x :: r => (strsOf r).map (x :: ·)
  | _ :: _ => none
def firstEq (x : PyData) : Nat → List PyData → Option Nat
  | _, [] => none
  | k, y :: r => if PyData.eqv y x then some k else firstEq x (k + 1) r
def joinD (a : Str) : PyData → Option PyData
  | .list ys => (strsOf ys).bind fun zs => if (zs.map (·.length)).sum + zs.length * a.length ≤ 16777216 then some (.str (Txt.join a zs)) else none
  | .tuple ys => (strsOf ys).bind fun zs => if (zs.map (·.length)).sum + zs.length * a.length ≤ 16777216 then some (.str (Txt.join a zs)) else none
  | _ => none
def indexD (ys : List PyData) (x : PyData) : Option PyData := if SeqAt.shaped x && SeqAt.shaped (.list ys) then (firstEq x 0 ys).map fun k => .int k else none
def mthD : Mt → PyData → List PyData → Option PyData
  | .join, .str a, [y] => joinD a y
  | .index, .list ys, [x] => indexD ys x
  | _, _, _ => none
/-- has it the method? -/
def mthT : Mt → PyData → Option Unit
  | .join, .str _ => some ()
  | .index, .list _ => some ()
  | _, _ => none
def intOf : PyData → Option Int
  | .int i => some i
  | _ => none
def range62 (i : Int) : Bool := decide (-(2 ^ 62) ≤ i) && decide (i < 2 ^ 62)

/-! ### what is walked -/
def iterOf : PyData → Option (List PyData)
  | .list xs => some xs
  | .tuple xs => some xs
  | .str x => some (chars x)
  | _ => none
def rng1 : PyData → Option (List PyData)
  | .int j => if range62 j then some (rangeN 0 j.toNat 1) else none
  | _ => none
def rng2 : PyData → PyData → Option (List PyData)
  | .int i, .int j => if range62 i && range62 j then some (rangeN i (j - i).toNat 1) else none
  | _, _ => none
def rng3 : PyData → PyData → PyData → Option (List PyData)
  | .int i, .int j, .int (-1) => if range62 i && range62 j then some (rangeN i (i - j).toNat (-1)) else none
  | _, _, _ => none
def enumD : PyData → Option (List PyData)
  | .list xs => some (xs.zipIdx.map fun p => .tuple [.int p.2, p.1])
  | .tuple xs => some (xs.zipIdx.map fun p => .tuple [.int p.2, p.1])
  | _ => none
def zipD : PyData → PyData → Option (List PyData)
  | .list xs, .list ys => some ((xs.zip ys).map fun p => .tuple [p.1, p.2])
  | .tuple xs, .tuple ys => some ((xs.zip ys).map fun p => .tuple [p.1, p.2])
  | _, _ => none

/-! ### the meaning of expressions -/
def getVal (ρ : Env) (i : Nat) : Mn PyData :=
  match ρ[i]? with
  | some (.val d) => Mn.pure d
  | _ => Mn.stuck
def getOwn (ρ : Env) (i : Nat) : Mn PyData :=
  match ρ[i]? with
  | some (.val d) => Mn.pure d
  | some (.own d) => Mn.pure d
  | _ => Mn.stuck
def getRef (ρ : Env) (i : Nat) : Mn Nat :=
  match ρ[i]? with
  | some (.ref n) => Mn.pure n
  | _ => Mn.stuck
def getCell (n : Nat) : Mn (List PyData) := fun S => match S[n]? with
  | some xs => .ok xs S
  | none => .stuck
def putCell (n : Nat) (xs : List PyData) : Mn Unit := fun S => .ok () (S.set n xs)
def setAll (ρ : Env) : List Nat → List PyData → Env
  | i :: is, d :: ds => setAll (ρ.set i (.val d)) is ds
  | _, _ => ρ
def bindTg (tg : List Nat) (d : PyData) (ρ : Env) : Option Env :=
  match tg with
  | [i] => some (ρ.set i (.val d))
  | is => match d with
    | .tuple ds => if is.length = ds.length then some (setAll ρ is ds) else none
    | .list ds => if is.length = ds.length then some (setAll ρ is ds) else none
    | _ => none
/-- the block's own names, without a value -/
def wipeE (ρ : Env) : List Nat → Env
  | [] => ρ
  | v :: vs => (wipeE ρ vs).set v .no
def catM {α β : Type} (f : α → Mn (List β)) : List α → Mn (List β)
  | [] => Mn.pure []
  | x :: r => Mn.bind (f x) fun a => Mn.bind (catM f r) fun b => Mn.pure (a ++ b)
def okList {α : Type} (m : Mn (List α)) : Mn (List α) := Mn.bind m fun xs => if xs.length ≤ sizeLine then Mn.pure xs else Mn.stuck

abbrev Call := Str → List Slot → Mn PyData
section
variable (Φ : Call)
mutual
def evE : E → Env → Mn PyData
  | .var i, ρ => getVal ρ i
  | .own i, ρ => getOwn ρ i
  | .rf _, _ => Mn.stuck
  | .cst d, _ => Mn.pure d
  | .edict, _ => Mn.pure (.dict [])
  | .tup es, ρ => Mn.bind (evEs es ρ) fun ds => Mn.pure (.tuple ds)
  | .lst es, ρ => Mn.bind (evEs es ρ) fun ds => Mn.pure (.list ds)
  | .neg a, ρ => Mn.bind (evE a ρ) fun d => match d with | .int i => Mn.pure (.int (-i)) | _ => Mn.stuck
  | .not a, ρ => Mn.bind (evE a ρ) fun x => Mn.bind (ofOpt (truD x)) fun k => Mn.pure (.bool (!k))
  | .bin op a b, ρ => Mn.bind (evE a ρ) fun x => Mn.bind (evE b ρ) fun y => ofOpt (binD op x y)
  | .cmp op a b, ρ => Mn.bind (evE a ρ) fun x => Mn.bind (evE b ρ) fun y => Mn.bind (ofOpt (cmpD op x y)) fun k => Mn.pure (.bool k)
  | .chain o p a b c, ρ => Mn.bind (evE a ρ) fun x => Mn.bind (evE b ρ) fun y => Mn.bind (ofOpt (cmpD o x y)) fun k =>
      if k then Mn.bind (evE c ρ) fun z => Mn.bind (ofOpt (cmpD p y z)) fun l => Mn.pure (.bool l) else Mn.pure (.bool false)
  | .and a b, ρ => Mn.bind (evE a ρ) fun x => match x with | .bool true => evE b ρ | .bool false => Mn.pure (.bool false) | _ => Mn.stuck
  | .or a b, ρ => Mn.bind (evE a ρ) fun x => match x with | .bool true => Mn.pure (.bool true) | .bool false => evE b ρ | _ => Mn.stuck
  | .orv a b, ρ => Mn.bind (evE a ρ) fun x => Mn.bind (ofOpt (truD x)) fun k => if k then Mn.pure x else evE b ρ
  | .ite t a b, ρ => Mn.bind (evT t ρ) fun k => if k then evE a ρ else evE b ρ
  | .idx a b, ρ => Mn.bind (evE a ρ) fun x => Mn.bind (evE b ρ) fun y => ofOpt (idxD x y)
  | .cell i b, ρ => Mn.bind (getRef ρ i) fun n => Mn.bind (evE b ρ) fun y => Mn.bind (getCell n) fun xs => ofOpt (idxD (.list xs) y)
  | .sli a lo hi, ρ => Mn.bind (evE a ρ) fun x => Mn.bind (evO lo ρ) fun l => Mn.bind (evO hi ρ) fun h => ofOpt (sliD l h x)
  | .rev a, ρ => Mn.bind (evE a ρ) fun x => ofOpt (revD x)
  | .isi a ts, ρ => Mn.bind (evE a ρ) fun x => Mn.pure (.bool (isiD ts x))
  | .call f es, ρ => Mn.bind (evAs es ρ) fun as => Φ f as
  | .bi b a, ρ => Mn.bind (evE a ρ) fun x => ofOpt (biD b x)
  | .bi2 b a c, ρ => Mn.bind (evE a ρ) fun x => Mn.bind (evE c ρ) fun y => ofOpt (bi2D b x y)
  | .biIt b it, ρ => Mn.bind (evIt it ρ) fun xs => ofOpt (biItD b xs)
  | .mth m o es, ρ => Mn.bind (evE o ρ) fun x => Mn.bind (ofOpt (mthT m x)) fun _ => Mn.bind (evEs es ρ) fun ys => ofOpt (mthD m x ys)
  | .cellPop i k, ρ => Mn.bind (getRef ρ i) fun n => Mn.bind (evE k ρ) fun y => Mn.bind (getCell n) fun xs =>
      match y with
      | .int j => match L2.ixN xs.length j with
        | some p => match xs[p]? with
          | some d => Mn.bind (putCell n (xs.eraseIdx p)) fun _ => Mn.pure d
          | none => Mn.stuck
        | none => Mn.stuck
      | _ => Mn.stuck
  | .lc vs elt g, ρ => Mn.bind (okList (evG g ρ (wipeE ρ vs) fun ρ' => evE elt ρ')) fun ds => Mn.pure (.list ds)
def evT : T → Env → Mn Bool
  | .of e, ρ => Mn.bind (evE e ρ) fun x => ofOpt (truD x)
  | .and a b, ρ => Mn.bind (evT a ρ) fun k => if k then evT b ρ else Mn.pure false
  | .or a b, ρ => Mn.bind (evT a ρ) fun k => if k then Mn.pure true else evT b ρ
  | .not a, ρ => Mn.bind (evT a ρ) fun k => Mn.pure (!k)
def evO : Oe → Env → Mn (Option Int)
  | .no, _ => Mn.pure none
  | .one e, ρ => Mn.bind (evE e ρ) fun x => match x with | .int i => Mn.pure (some i) | _ => Mn.stuck
def evEs : Es → Env → Mn (List PyData)
  | .nil, _ => Mn.pure []
  | .cons e es, ρ => Mn.bind (evE e ρ) fun d => Mn.bind (evEs es ρ) fun ds => Mn.pure (d :: ds)
def evAs : Es → Env → Mn (List Slot)
  | .nil, _ => Mn.pure []
  | .cons (.rf i) es, ρ => Mn.bind (getRef ρ i) fun n => Mn.bind (evAs es ρ) fun ds => Mn.pure (.ref n :: ds)
  | .cons e es, ρ => Mn.bind (evE e ρ) fun d => Mn.bind (evAs es ρ) fun ds => Mn.pure (.val d :: ds)
def evIt : It → Env → Mn (List PyData)
  | .seq e, ρ => Mn.bind (evE e ρ) fun d => ofOpt (iterOf d)
  | .range1 a, ρ => Mn.bind (evE a ρ) fun d => ofOpt (rng1 d)
  | .range2 a b, ρ => Mn.bind (evE a ρ) fun d => Mn.bind (evE b ρ) fun e => ofOpt (rng2 d e)
  | .range3 a b c, ρ => Mn.bind (evE a ρ) fun d => Mn.bind (evE b ρ) fun e => Mn.bind (evE c ρ) fun f => ofOpt (rng3 d e f)
  | .enum e, ρ => Mn.bind (evE e ρ) fun d => ofOpt (enumD d)
  | .zip a b, ρ => Mn.bind (evE a ρ) fun d => Mn.bind (evE b ρ) fun e => ofOpt (zipD d e)
def evG : Gs → Env → Env → (Env → Mn PyData) → Mn (List PyData)
  | .one tg it c, ρ, β, k => Mn.bind (evIt it ρ) fun xs => Mn.calm (catM (fun x => Mn.bind (ofOpt (bindTg tg x (wipeE β tg))) fun β' => Mn.bind (evC c β') fun b => if b then Mn.bind (k β') fun d => Mn.pure [d] else Mn.pure []) xs)
  | .more tg it c g, ρ, β, k => Mn.bind (evIt it ρ) fun xs => Mn.calm (catM (fun x => Mn.bind (ofOpt (bindTg tg x (wipeE β tg))) fun β' => Mn.bind (evC c β') fun b => if b then evG g β' β' k else Mn.pure []) xs)
def evC : Ot → Env → Mn Bool
  | .no, _ => Mn.pure true
  | .one t, ρ => evT t ρ
end
end
end L2.DL
namespace L2.DL
open PySem PyProof.Rows
/-! ### statements -/
inductive Flow where
  | next | brk | cont | ret (d : PyData)
inductive SRes where
  | fin (f : Flow) (ρ : Env) (S : Store)
  | exc (c : Nat) (ρ : Env) (S : Store)
  | stuck
/-- what a clause does: leave with (), or go on behind the try -/
inductive Hb where
  | unit | go
inductive Hs where
  | nil
  | cons (c i : Nat) (b : Hb) (h : Hs)
mutual
inductive S where
  | set (i : Nat) (e : E)
  | setOwn (i : Nat) (e : E)
  | newCell (i : Nat) (e : E)
  | unp (tg : List Nat) (e : E)
  | par (i j : Nat) (es : Es)
  | aug (i : Nat) (op : Bop) (e : E)
  | frz (i : Nat)
  | push (i : Nat) (e : E)
  | setIx (i : Nat) (k e : E)
  | cellSet (i : Nat) (k e : E)
  | cellAug (i : Nat) (k : E) (op : Bop) (e : E)
  | pop (tg : List Nat) (i : Nat)
  | popAt (tg : List Nat) (i : Nat) (k : E)
  | ex (e : E)
  | ite (t : T) (a b : Ss)
  | forr (tg : List Nat) (it : It) (b : Ss)
  | whil (t : T) (b : Ss)
  | ret (e : E)
  | raise (c : Nat)
  | cont
  | brk
  | pass
  | tryy (b : Ss) (h : Hs)
inductive Ss where
  | nil
  | cons (s : S) (r : Ss)
end
def liftE {α : Type} (m : Mn α) (ρ : Env) (k : α → Store → SRes) : Store → SRes := fun S =>
  match m S with
  | .ok a S' => k a S'
  | .exc c S' => .exc c ρ S'
  | .stuck => .stuck
def SRes.bind (r : SRes) (k : Env → Store → SRes) : SRes :=
  match r with
  | .fin .next ρ S => k ρ S
  | r => r
def forS (body : PyData → Env → Store → SRes) : List PyData → Env → Store → SRes
  | [], ρ, S => .fin .next ρ S
  | x :: r, ρ, S =>
    match body x ρ S with
    | .fin .next ρ' S' => forS body r ρ' S'
    | .fin .cont ρ' S' => forS body r ρ' S'
    | .fin .brk ρ' S' => .fin .next ρ' S'
    | .fin (.ret d) ρ' S' => .fin (.ret d) ρ' S'
    | .exc c ρ' S' => .exc c ρ' S'
    | .stuck => .stuck
def whileS (test : Env → Mn Bool) (body : Env → Store → SRes) : Nat → Env → Store → SRes
  | 0, _, _ => .stuck
  | n + 1, ρ, S => liftE (test ρ) ρ (fun k S' => if k then
      match body ρ S' with
      | .fin .next ρ' S'' => whileS test body n ρ' S''
      | .fin .cont ρ' S'' => whileS test body n ρ' S''
      | .fin .brk ρ' S'' => .fin .next ρ' S''
      | .fin (.ret d) ρ' S'' => .fin (.ret d) ρ' S''
      | .exc c ρ' S'' => .exc c ρ' S''
      | .stuck => .stuck
    else .fin .next ρ S') S
def whileFuel : Nat := 1000000
/-- x[k] = d -/
def putIx (xs : List PyData) : PyData → PyData → Option (List PyData)
  | .int i, d => (L2.ixN xs.length i).map fun p => xs.set p d
  | _, _ => none
/-- the item at y, and what stays -/
def popD (xs : List PyData) : PyData → Option (PyData × List PyData)
  | .int z => if -(2 ^ 63) ≤ z ∧ z < 2 ^ 63 then (seqIndex? z xs.length).bind fun p => (xs[p]?).map fun d => (d, xs.eraseIdx p) else none
  | _ => none
def ownOf (ρ : Env) (i : Nat) : Option PyData :=
  match ρ[i]? with
  | some (.own d) => some d
  | _ => none
def frzAt (ρ : Env) (i : Nat) : Env :=
  match ρ[i]? with
  | some (.own d) => ρ.set i (.val d)
  | _ => ρ
def handle : Hs → Nat → Env → Store → SRes
  | .nil, c, ρ, S => .exc c ρ S
  | .cons d i b h, c, ρ, S => if c = d then (match b with | .unit => .fin (.ret (.tuple [])) ρ S | .go => .fin .next (ρ.set i .no) S) else handle h c ρ S
section
variable (Φ : Call)
mutual
def evS : S → Env → Store → SRes
  | .set i e, ρ, S => liftE (evE Φ e ρ) ρ (fun d S' => .fin .next (ρ.set i (.val d)) S') S
  | .setOwn i e, ρ, S => liftE (evE Φ e ρ) ρ (fun d S' => .fin .next (ρ.set i (.own d)) S') S
  | .newCell i e, ρ, S => liftE (evE Φ e ρ) ρ (fun d S' => match d with
      | .list xs => .fin .next (ρ.set i (.ref S'.length)) (S' ++ [xs])
      | _ => .stuck) S
  | .unp tg e, ρ, S => liftE (evE Φ e ρ) ρ (fun d S' => match bindTg tg d ρ with
      | some ρ' => .fin .next ρ' S'
      | none => .stuck) S
  | .par i j es, ρ, S => liftE (evEs Φ es ρ) ρ (fun ds S' => match ds with
      | [x, y] => .fin .next ((ρ.set i (.val x)).set j (.val y)) S'
      | _ => .stuck) S
  | .aug i op e, ρ, S => liftE (Mn.bind (getVal ρ i) fun x => Mn.bind (evE Φ e ρ) fun y => ofOpt (augD op x y)) ρ (fun d S' => .fin .next (ρ.set i (.val d)) S') S
  | .frz i, ρ, S => .fin .next (frzAt ρ i) S
  | .push i e, ρ, S => match ownOf ρ i with
      | some (.list xs) => liftE (evE Φ e ρ) ρ (fun d S' => if xs.length < sizeLine then .fin .next (ρ.set i (.own (.list (xs ++ [d])))) S' else .stuck) S
      | _ => .stuck
  | .setIx i k e, ρ, S => match ownOf ρ i with
      | some (.list xs) => liftE (Mn.bind (evE Φ e ρ) fun d => Mn.bind (evE Φ k ρ) fun x => Mn.bind (ofOpt (putIx xs x d)) fun ys => Mn.pure ys) ρ (fun ys S' => .fin .next (ρ.set i (.own (.list ys))) S') S
      | _ => .stuck
  | .cellSet i k e, ρ, S => liftE (Mn.bind (evE Φ e ρ) fun d => Mn.bind (getRef ρ i) fun n => Mn.bind (evE Φ k ρ) fun x => Mn.bind (getCell n) fun xs => Mn.bind (ofOpt (putIx xs x d)) fun ys => Mn.pure (n, ys)) ρ
      (fun p S' => .fin .next ρ (S'.set p.1 p.2)) S
  | .cellAug i k op e, ρ, S => liftE (Mn.bind (getRef ρ i) fun n => Mn.bind (evE Φ k ρ) fun x => Mn.bind (getCell n) fun xs => Mn.bind (ofOpt (idxD (.list xs) x)) fun a =>
      Mn.bind (evE Φ e ρ) fun b => Mn.bind (ofOpt (augD op a b)) fun d => Mn.bind (getCell n) fun ys => Mn.bind (ofOpt (putIx ys x d)) fun zs => Mn.pure (n, zs)) ρ
      (fun p S' => .fin .next ρ (S'.set p.1 p.2)) S
  | .pop tg i, ρ, S => match ownOf ρ i with
      | some (.list xs) => match xs.getLast? with
        | some d => match bindTg tg d (ρ.set i (.own (.list xs.dropLast))) with
          | some ρ' => .fin .next ρ' S
          | none => .stuck
        | none => .stuck
      | _ => .stuck
  | .popAt tg i k, ρ, S => match ownOf ρ i with
      | some (.list xs) => liftE (evE Φ k ρ) ρ (fun y S' => match popD xs y with
        | some (d, ys) => match bindTg tg d (ρ.set i (.own (.list ys))) with
          | some ρ' => .fin .next ρ' S'
          | none => .stuck
        | none => .stuck) S
      | _ => .stuck
  | .ex e, ρ, S => liftE (evE Φ e ρ) ρ (fun _ S' => .fin .next ρ S') S
  | .ite t a b, ρ, S => liftE (evT Φ t ρ) ρ (fun k S' => if k then evSs a ρ S' else evSs b ρ S') S
  | .forr tg it b, ρ, S => liftE (evIt Φ it ρ) ρ (fun xs S' => forS (fun x ρ S => match bindTg tg x ρ with
      | some ρ' => evSs b ρ' S
      | none => .stuck) xs ρ S') S
  | .whil t b, ρ, S => whileS (fun ρ => evT Φ t ρ) (fun ρ S => evSs b ρ S) whileFuel ρ S
  | .ret e, ρ, S => liftE (evE Φ e ρ) ρ (fun d S' => .fin (.ret d) ρ S') S
  | .raise c, ρ, S => .exc c ρ S
  | .cont, ρ, S => .fin .cont ρ S
  | .brk, ρ, S => .fin .brk ρ S
  | .pass, ρ, S => .fin .next ρ S
  | .tryy b h, ρ, S => match evSs b ρ S with
      | .exc c ρ' S' => if c < 2 then handle h c ρ' S' else .stuck
      | r => r
def evSs : Ss → Env → Store → SRes
  | .nil, ρ, S => .fin .next ρ S
  | .cons s r, ρ, S => match evS s ρ S with
      | .fin .next ρ' S' => evSs r ρ' S'
      | x => x
end
end
/-! ### defs -/
structure FDef where
  np : Nat
  ns : Nat
  body : Ss
abbrev Tab := Str → Option FDef
def runDef (Φ : Call) (fd : FDef) (as : List Slot) : Mn PyData := fun S =>
  if as.length = fd.np then
    match evSs Φ fd.body (as ++ List.replicate (fd.ns - fd.np) .no) S with
    | .fin .next _ S' => .ok .none S'
    | .fin (.ret d) _ S' => .ok d S'
    | .exc c _ S' => .exc c S'
    | _ => .stuck
  else .stuck
def callF (tab : Tab) : Nat → Call
  | 0, _, _ => Mn.stuck
  | n + 1, f, as => match tab f with
    | some fd => runDef (callF tab n) fd as
    | none => Mn.stuck
end L2.DL

set_option maxHeartbeats 1000000
/-! The data layer, second part: data in the abstract heap. -/
namespace L2.DL
open PySem PySem.Spec PyProof.Rows L2

def keyD : L2.Key → PyData
  | .inl i => .int i
  | .inr x => .str x

mutual
/-- v is the data d: lists and dicts that no one changes (M: those that may change) -/
inductive Is (M : Addr → Prop) (H : Hp) : V → PyData → Prop
  | non : Is M H .non .none
  | bl (b : Bool) : Is M H (.bl b) (.bool b)
  | int (i : Int) : Is M H (.int i) (.int i)
  | str (x : Str) : Is M H (.str x) (.str x)
  | lst {a : Addr} {xs : List V} {ds : List PyData} : ¬ M a → Rd H a (.lst xs) → IsAll M H xs ds → Is M H (.ref a) (.list ds)
  | tup {a : Addr} {xs : List V} {ds : List PyData} : ¬ M a → Rd H a (.tup xs) → IsAll M H xs ds → Is M H (.ref a) (.tuple ds)
  | dic {a : Addr} {kvs : List (L2.Key × V)} {ds : List (PyData × PyData)} : ¬ M a → Rd H a (.dK kvs) → IsKv M H kvs ds → Is M H (.ref a) (.dict ds)
inductive IsAll (M : Addr → Prop) (H : Hp) : List V → List PyData → Prop
  | nil : IsAll M H [] []
  | cons {v : V} {vs : List V} {d : PyData} {ds : List PyData} : Is M H v d → IsAll M H vs ds → IsAll M H (v :: vs) (d :: ds)
inductive IsKv (M : Addr → Prop) (H : Hp) : List (L2.Key × V) → List (PyData × PyData) → Prop
  | nil : IsKv M H [] []
  | cons {k : L2.Key} {v : V} {r : List (L2.Key × V)} {d : PyData} {ds : List (PyData × PyData)} : Is M H v d → IsKv M H r ds → IsKv M H ((k, v) :: r) ((keyD k, d) :: ds)
end
/-- one that may change: the list itself, its items are data -/
def OwnAt (M : Addr → Prop) (H : Hp) (a : Addr) (d : PyData) : Prop :=
  M a ∧ ((∃ xs ds, d = .list ds ∧ H a = some (.lst xs) ∧ IsAll M H xs ds) ∨ ∃ kvs ds, d = .dict ds ∧ H a = some (.dK kvs) ∧ IsKv M H kvs ds)
/-- to be read: data, or one that may change -/
def IsB (M : Addr → Prop) (H : Hp) (v : V) (d : PyData) : Prop := Is M H v d ∨ ∃ a, v = .ref a ∧ OwnAt M H a d

structure Step (La La' : List Addr) (M M' : Addr → Prop) (H H' : Hp) : Prop where
  la : La <+: La'
  inM : ∀ a ∈ La, M a
  keep : ∀ a o, H a = some o → a ∉ La → H' a = some o
  there : ∀ a, H a ≠ none → H' a ≠ none
  mon : ∀ a, M' a → M a ∨ H a = none

theorem Step.refl {La : List Addr} {M : Addr → Prop} {H : Hp} (h : ∀ a ∈ La, M a) : Step La La M M H H :=
  ⟨List.prefix_refl _, h, fun _ _ e _ => e, fun _ h => h, fun _ h => .inl h⟩
theorem Step.trans {La La' La'' : List Addr} {M M' M'' : Addr → Prop} {H H' H'' : Hp} (p : Step La La' M M' H H') (q : Step La' La'' M' M'' H' H'') (hn : ∀ a ∈ La', a ∉ La → H a = none) : Step La La'' M M'' H H'' where
  la := p.la.trans q.la
  inM := p.inM
  keep := fun a o e ha => q.keep a o (p.keep a o e ha) fun hb => by rw [hn a hb ha] at e; cases e
  there := fun a h => q.there a (p.there a h)
  mon := fun a h => by
    rcases q.mon a h with h | h
    · exact p.mon a h
    · right
      cases e : H a with
      | none => rfl
      | some o => exact absurd h (p.there a (by rw [e]; exact nofun))

section
variable {La La' : List Addr} {M M' : Addr → Prop} {H H' : Hp}
theorem Step.rd (s : Step La La' M M' H H') {a : Addr} {u : HO} (hm : ¬ M a) (h : Rd H a u) : ¬ M' a ∧ Rd H' a u := by
  have hL : a ∉ La := fun z => hm (s.inM a z)
  rcases h with h | ⟨o, h⟩
  · refine ⟨fun z => ?_, .inl (s.keep a _ h hL)⟩
    rcases s.mon a z with z | z
    · exact hm z
    · rw [h] at z; cases z
  · refine ⟨fun z => ?_, .inr ⟨o, s.keep a _ h hL⟩⟩
    rcases s.mon a z with z | z
    · exact hm z
    · rw [h] at z; cases z
mutual
theorem Is.mono (s : Step La La' M M' H H') : ∀ {v : V} {d : PyData}, Is M H v d → Is M' H' v d
  | _, _, .non => .non
  | _, _, .bl b => .bl b
  | _, _, .int i => .int i
  | _, _, .str x => .str x
  | _, _, .lst hm hr ha => .lst (s.rd hm hr).1 (s.rd hm hr).2 (IsAll.mono s ha)
  | _, _, .tup hm hr ha => .tup (s.rd hm hr).1 (s.rd hm hr).2 (IsAll.mono s ha)
  | _, _, .dic hm hr ha => .dic (s.rd hm hr).1 (s.rd hm hr).2 (IsKv.mono s ha)
theorem IsAll.mono (s : Step La La' M M' H H') : ∀ {v : List V} {d : List PyData}, IsAll M H v d → IsAll M' H' v d
  | _, _, .nil => .nil
  | _, _, .cons h t => .cons (Is.mono s h) (IsAll.mono s t)
theorem IsKv.mono (s : Step La La' M M' H H') : ∀ {v : List (L2.Key × V)} {d : List (PyData × PyData)}, IsKv M H v d → IsKv M' H' v d
  | _, _, .nil => .nil
  | _, _, .cons h t => .cons (Is.mono s h) (IsKv.mono s t)
end
end

/-! ### frames -/
structure RelF (La : List Addr) (M0 M : Addr → Prop) (H : Hp) (σ : St) (ρ : Env) (S : Store) : Prop where
  len : ρ.length = σ.length
  val : ∀ (i : Nat) (d : PyData), ρ[i]? = some (.val d) → ∃ v, σ[i]? = some (some v) ∧ Is M H v d
  own : ∀ (i : Nat) (d : PyData), ρ[i]? = some (.own d) → ∃ a, σ[i]? = some (some (.ref a)) ∧ OwnAt M H a d ∧ ¬ M0 a ∧ a ∉ La
  ref : ∀ (i n : Nat), ρ[i]? = some (.ref n) → ∃ a, σ[i]? = some (some (.ref a)) ∧ La[n]? = some a
  dist : ∀ (i j : Nat) (d e : PyData) (a : Addr), ρ[i]? = some (.own d) → ρ[j]? = some (.own e) → σ[i]? = some (some (.ref a)) → σ[j]? = some (some (.ref a)) → i = j
  sub : ∀ a, M0 a → M a
  dom : ∀ a, M a → H a ≠ none
  laM : ∀ a ∈ La, M a
  nd : La.Nodup
  szs : La.length = S.length
  cells : ∀ (n : Nat) (a : Addr) (ds : List PyData), La[n]? = some a → S[n]? = some ds → ∃ xs, H a = some (.lst xs) ∧ IsAll M H xs ds

/-- a step of an expression: nothing of the frame changes -/
structure StepE (La La' : List Addr) (M M' : Addr → Prop) (H H' : Hp) : Prop extends Step La La' M M' H H' where
  up : ∀ a, M a → M' a
  newLa : ∀ a ∈ La', a ∉ La → H a = none
theorem StepE.refl {La : List Addr} {M : Addr → Prop} {H : Hp} (h : ∀ a ∈ La, M a) : StepE La La M M H H :=
  { Step.refl h with up := fun _ h => h, newLa := fun _ h k => absurd h k }
theorem StepE.trans {La La' La'' : List Addr} {M M' M'' : Addr → Prop} {H H' H'' : Hp} (p : StepE La La' M M' H H') (q : StepE La' La'' M' M'' H' H'') : StepE La La'' M M'' H H'' :=
  { p.toStep.trans q.toStep p.newLa with
    up := fun a h => q.up a (p.up a h)
    newLa := fun a h k => by
      by_cases z : a ∈ La'
      · exact p.newLa a z k
      · have h1 := q.newLa a h z
        cases e : H a with
        | none => rfl
        | some o => exact absurd h1 (p.there a (by rw [e]; exact nofun)) }
/-- a new object -/
theorem StepE.new {La : List Addr} {M : Addr → Prop} {H : Hp} {p : Addr} {o : HO} (h : ∀ a ∈ La, M a) (hp : H p = none) : StepE La La M M H (upd H p o) where
  la := List.prefix_refl _
  inM := h
  keep := fun a u e _ => by rw [upd_ne (ne_of_none e hp)]; exact e
  there := fun a e => by
    by_cases z : a = p
    · subst z; rw [upd_same]; exact nofun
    · rw [upd_ne z]; exact e
  mon := fun _ h => .inl h
  up := fun _ h => h
  newLa := fun _ h k => absurd h k
/-- a new object that may change -/
theorem StepE.newM {La : List Addr} {M : Addr → Prop} {H : Hp} {p : Addr} {o : HO} (h : ∀ a ∈ La, M a) (hp : H p = none) : StepE La La M (fun a => M a ∨ a = p) H (upd H p o) :=
  { (StepE.new (o := o) h hp) with
    mon := fun a z => z.elim .inl fun e => .inr (by rw [e]; exact hp)
    up := fun _ h => .inl h }

section
variable {La La' : List Addr} {M0 M M' : Addr → Prop} {H H' : Hp} {σ : St} {ρ : Env} {S S' : Store}
theorem OwnAt.mono {a : Addr} {d : PyData} (s : StepE La La' M M' H H') (ha : a ∉ La) (h : OwnAt M H a d) : OwnAt M' H' a d := by
  obtain ⟨hm, h⟩ := h
  refine ⟨s.up a hm, ?_⟩
  rcases h with ⟨xs, ds, e, h, k⟩ | ⟨kvs, ds, e, h, k⟩
  · exact .inl ⟨xs, ds, e, s.keep a _ h ha, k.mono s.toStep⟩
  · exact .inr ⟨kvs, ds, e, s.keep a _ h ha, k.mono s.toStep⟩
/-- the frame behind an expression, from what it does to the cells -/
theorem RelF.step (R : RelF La M0 M H σ ρ S) (s : StepE La La' M M' H H') (dom : ∀ a, M' a → H' a ≠ none) (laM : ∀ a ∈ La', M' a) (nd : La'.Nodup) (szs : La'.length = S'.length)
    (cells : ∀ (n : Nat) (a : Addr) (ds : List PyData), La'[n]? = some a → S'[n]? = some ds → ∃ xs, H' a = some (.lst xs) ∧ IsAll M' H' xs ds) : RelF La' M0 M' H' σ ρ S' where
  len := R.len
  val := fun i d e => let ⟨v, h1, h2⟩ := R.val i d e; ⟨v, h1, h2.mono s.toStep⟩
  own := fun i d e => by
    obtain ⟨a, h1, h2, h3, h4⟩ := R.own i d e
    refine ⟨a, h1, h2.mono s h4, h3, fun z => ?_⟩
    have := s.newLa a z h4
    exact R.dom a h2.1 this
  ref := fun i n e => by
    obtain ⟨a, h1, h2⟩ := R.ref i n e
    refine ⟨a, h1, ?_⟩
    obtain ⟨t, e⟩ := s.la
    rw [← e, List.getElem?_append_left (List.getElem?_eq_some_iff.mp h2).1]
    exact h2
  dist := R.dist
  sub := fun a h => s.up a (R.sub a h)
  dom := dom
  laM := laM
  nd := nd
  szs := szs
  cells := cells
/-- .. where the cells stay -/
theorem RelF.stay (R : RelF La M0 M H σ ρ S) (s : StepE La La M M' H H') (dom : ∀ a, M' a → H' a ≠ none) (keepC : ∀ a ∈ La, H' a = H a) : RelF La M0 M' H' σ ρ S :=
  R.step s dom (fun a h => s.up a (R.laM a h)) R.nd R.szs fun n a ds h1 h2 => by
    obtain ⟨xs, h3, h4⟩ := R.cells n a ds h1 h2
    exact ⟨xs, (keepC a (List.mem_of_getElem? h1)).trans h3, h4.mono s.toStep⟩
theorem RelF.new (R : RelF La M0 M H σ ρ S) {p : Addr} {o : HO} (hp : H p = none) : RelF La M0 M (upd H p o) σ ρ S :=
  R.stay (StepE.new R.laM hp) (fun a h => (StepE.new (o := o) R.laM hp).there a (R.dom a h)) fun a h => upd_ne fun z => R.dom a (R.laM a h) (by rw [z]; exact hp)
theorem RelF.newM (R : RelF La M0 M H σ ρ S) {p : Addr} {o : HO} (hp : H p = none) : RelF La M0 (fun a => M a ∨ a = p) (upd H p o) σ ρ S :=
  R.stay (StepE.newM R.laM hp) (fun a h => h.elim (fun h => (StepE.new (o := o) R.laM hp).there a (R.dom a h)) fun e => by subst e; rw [upd_same]; exact nofun) fun a h => upd_ne fun z => R.dom a (R.laM a h) (by rw [z]; exact hp)
end

/-! ### readings -/
/-- what is wished of an exception, by its number -/
abbrev WN := Nat → St → Hp → Prop
/-- behind an expression's meaning m -/
def After {α : Type} (W : WN) (La : List Addr) (M0 M : Addr → Prop) (H : Hp) (σ : St) (ρ : Env) (r : Res α) (Q : α → List Addr → (Addr → Prop) → Hp → Store → Prop) : Prop :=
  match r with
  | .ok a S' => ∀ La' M' H', StepE La La' M M' H H' → RelF La' M0 M' H' σ ρ S' → Q a La' M' H' S'
  | .exc c S' => ∀ La' M' H', StepE La La' M M' H H' → RelF La' M0 M' H' σ ρ S' → W c σ H'
  | .stuck => False
abbrev IsR := List Addr → (Addr → Prop) → Hp → V → PyData → Prop
abbrev IsF : IsR := fun _ => Is
/-- .. or an own one of the frame -/
def IsO : IsR := fun La M H v d => Is M H v d ∨ ∃ a, v = .ref a ∧ a ∉ La ∧ OwnAt M H a d
theorem IsO.b {La : List Addr} {M : Addr → Prop} {H : Hp} {v : V} {d : PyData} (h : IsO La M H v d) : IsB M H v d := by
  rcases h with h | ⟨a, e, _, h⟩
  · exact .inl h
  · exact .inr ⟨a, e, h⟩
theorem IsO.mono {La La' : List Addr} {M M' : Addr → Prop} {H H' : Hp} {v : V} {d : PyData} (s : StepE La La' M M' H H') (h : IsO La M H v d) (hd : ∀ a, M a → H a ≠ none) : IsO La' M' H' v d := by
  rcases h with h | ⟨a, e, n, h⟩
  · exact .inl (h.mono s.toStep)
  · exact .inr ⟨a, e, fun z => hd a h.1 (s.newLa a z n), h.mono s n⟩
/-- a reading of an expression by its meaning f; R: what its value is to the data -/
def tD (W : WN) (R : IsR) (f : Env → Mn PyData) : TE := fun σ H Q => ∃ La M0 M ρ S, RelF La M0 M H σ ρ S ∧
  match f ρ S with
  | .ok d S' => ∀ v La' M' H', StepE La La' M M' H H' → RelF La' M0 M' H' σ ρ S' → R La' M' H' v d → Q v H'
  | .exc c S' => ∀ La' M' H', StepE La La' M M' H H' → RelF La' M0 M' H' σ ρ S' → W c σ H'
  | .stuck => False
def tDT (W : WN) (f : Env → Mn Bool) : TT := fun σ H Q => ∃ La M0 M ρ S, RelF La M0 M H σ ρ S ∧
  match f ρ S with
  | .ok b S' => ∀ La' M' H', StepE La La' M M' H H' → RelF La' M0 M' H' σ ρ S' → Q b H'
  | .exc c S' => ∀ La' M' H', StepE La La' M M' H H' → RelF La' M0 M' H' σ ρ S' → W c σ H'
  | .stuck => False
def tDA (W : WN) (R : IsR) (f : Env → Mn (List PyData)) : TA := fun σ H Q => ∃ La M0 M ρ S, RelF La M0 M H σ ρ S ∧
  match f ρ S with
  | .ok ds S' => ∀ vs La' M' H', StepE La La' M M' H H' → RelF La' M0 M' H' σ ρ S' → Paired (R La' M' H') vs ds → Q vs H'
  | .exc c S' => ∀ La' M' H', StepE La La' M M' H H' → RelF La' M0 M' H' σ ρ S' → W c σ H'
  | .stuck => False
theorem PE.imp {X : Cx} {e : Expr} {t t' : TE} (h : PE X e t) (w : ∀ σ H Q, t' σ H Q → t σ H Q) : PE X e t' := ⟨fun pins s σ H Q I q => h.run pins s σ H Q I (w σ H Q q)⟩
theorem PT.imp {X : Cx} {e : Expr} {t t' : TT} (h : PT X e t) (w : ∀ σ H Q, t' σ H Q → t σ H Q) : PT X e t' := ⟨fun pins s σ H Q I q => h.run pins s σ H Q I (w σ H Q q)⟩
theorem PA.imp {X : Cx} {e : List Expr} {t t' : TA} (h : PA X e t) (w : ∀ σ H Q, t' σ H Q → t σ H Q) : PA X e t' := ⟨fun pos pins s σ H Q I q => h.run pos pins s σ H Q I (w σ H Q q)⟩
theorem PS.imp {X : Cx} {e : Stmt} {t t' : TS} (h : PS X e t) (w : ∀ D σ H, t' D σ H → t D σ H) : PS X e t' := ⟨fun pins s σ H D I q => h.run pins s σ H D I (w D σ H q)⟩
theorem PSs.imp {X : Cx} {e : List Stmt} {t t' : TS} (h : PSs X e t) (w : ∀ D σ H, t' D σ H → t D σ H) : PSs X e t' := ⟨fun pins s σ H D I q => h.run pins s σ H D I (w D σ H q)⟩
end L2.DL

set_option maxHeartbeats 1000000
/-! The data layer, third part: operations on data. -/
namespace L2.DL
open PySem PySem.Spec PyProof.Rows L2

/-! ### After -/
section
variable {α β : Type} {W : WN} {La : List Addr} {M0 M : Addr → Prop} {H : Hp} {σ : St} {ρ : Env}
theorem After.mono {r : Res α} {Q Q' : α → List Addr → (Addr → Prop) → Hp → Store → Prop} (h : After W La M0 M H σ ρ r Q)
    (w : ∀ a La' M' H' S', StepE La La' M M' H H' → RelF La' M0 M' H' σ ρ S' → Q a La' M' H' S' → Q' a La' M' H' S') : After W La M0 M H σ ρ r Q' := by
  cases r with
  | ok a S' => exact fun La' M' H' s R => w a La' M' H' S' s R (h La' M' H' s R)
  | exc c S' => exact h
  | stuck => exact h
theorem After.trans {La1 : List Addr} {M1 : Addr → Prop} {H1 : Hp} {r : Res α} {Q : α → List Addr → (Addr → Prop) → Hp → Store → Prop} (s1 : StepE La La1 M M1 H H1) (h : After W La M0 M H σ ρ r Q) : After W La1 M0 M1 H1 σ ρ r Q := by
  cases r with
  | ok a S' => exact fun La' M' H' s R => h La' M' H' (s1.trans s) R
  | exc c S' => exact fun La' M' H' s R => h La' M' H' (s1.trans s) R
  | stuck => exact h
theorem After.bind {m : Mn α} {k : α → Mn β} {S : Store} {Q : β → List Addr → (Addr → Prop) → Hp → Store → Prop} (h : After W La M0 M H σ ρ (Mn.bind m k S) Q) :
    After W La M0 M H σ ρ (m S) fun a La' M' H' S' => After W La' M0 M' H' σ ρ (k a S') Q := by
  unfold Mn.bind at h
  cases e : m S with
  | ok a S' => rw [e] at h; exact fun La' M' H' s R => h.trans s
  | exc c S' => rw [e] at h; exact h
  | stuck => rw [e] at h; exact h
theorem After.here {a : α} {S : Store} {Q : α → List Addr → (Addr → Prop) → Hp → Store → Prop} (h : After W La M0 M H σ ρ (.ok a S) Q) (R : RelF La M0 M H σ ρ S) : Q a La M H S := h La M H (StepE.refl R.laM) R
end
/-- a reading by After -/
theorem tD_iff {W : WN} {R : IsR} {f : Env → Mn PyData} {σ : St} {H : Hp} {Q : VK} : tD W R f σ H Q ↔ ∃ La M0 M ρ S, RelF La M0 M H σ ρ S ∧ After W La M0 M H σ ρ (f ρ S) fun d La' M' H' S' => ∀ v, R La' M' H' v d → Q v H' := by
  constructor
  · rintro ⟨La, M0, M, ρ, S, hR, h⟩
    refine ⟨La, M0, M, ρ, S, hR, ?_⟩
    cases e : f ρ S with
    | ok d S' => rw [e] at h; exact fun La' M' H' s R v r => h v La' M' H' s R r
    | exc c S' => rw [e] at h; exact h
    | stuck => rw [e] at h; exact h
  · rintro ⟨La, M0, M, ρ, S, hR, h⟩
    refine ⟨La, M0, M, ρ, S, hR, ?_⟩
    cases e : f ρ S with
    | ok d S' => rw [e] at h; exact fun v La' M' H' s R r => h La' M' H' s R v r
    | exc c S' => rw [e] at h; exact h
    | stuck => rw [e] at h; exact h
theorem tDT_iff {W : WN} {f : Env → Mn Bool} {σ : St} {H : Hp} {Q : Bool → Hp → Prop} : tDT W f σ H Q ↔ ∃ La M0 M ρ S, RelF La M0 M H σ ρ S ∧ After W La M0 M H σ ρ (f ρ S) fun b La' M' H' S' => Q b H' := by
  constructor
  · rintro ⟨La, M0, M, ρ, S, hR, h⟩
    refine ⟨La, M0, M, ρ, S, hR, ?_⟩
    cases e : f ρ S with
    | ok d S' => rw [e] at h; exact h
    | exc c S' => rw [e] at h; exact h
    | stuck => rw [e] at h; exact h
  · rintro ⟨La, M0, M, ρ, S, hR, h⟩
    refine ⟨La, M0, M, ρ, S, hR, ?_⟩
    cases e : f ρ S with
    | ok d S' => rw [e] at h; exact h
    | exc c S' => rw [e] at h; exact h
    | stuck => rw [e] at h; exact h
theorem tDA_iff {W : WN} {R : IsR} {f : Env → Mn (List PyData)} {σ : St} {H : Hp} {Q : List V → Hp → Prop} : tDA W R f σ H Q ↔ ∃ La M0 M ρ S, RelF La M0 M H σ ρ S ∧ After W La M0 M H σ ρ (f ρ S) fun d La' M' H' S' => ∀ v, Paired (R La' M' H') v d → Q v H' := by
  constructor
  · rintro ⟨La, M0, M, ρ, S, hR, h⟩
    refine ⟨La, M0, M, ρ, S, hR, ?_⟩
    cases e : f ρ S with
    | ok d S' => rw [e] at h; exact fun La' M' H' s R v r => h v La' M' H' s R r
    | exc c S' => rw [e] at h; exact h
    | stuck => rw [e] at h; exact h
  · rintro ⟨La, M0, M, ρ, S, hR, h⟩
    refine ⟨La, M0, M, ρ, S, hR, ?_⟩
    cases e : f ρ S with
    | ok d S' => rw [e] at h; exact fun v La' M' H' s R r => h La' M' H' s R v r
    | exc c S' => rw [e] at h; exact h
    | stuck => rw [e] at h; exact h

/-! ### what a value is -/
section
variable {M : Addr → Prop} {H : Hp} {v : V} {K : PySem.W.Frag}
theorem IsB.of {d : PyData} (h : Is M H v d) : IsB M H v d := .inl h
theorem IsB.int {i : Int} (h : IsB M H v (.int i)) : v = .int i := by
  rcases h with h | ⟨a, rfl, _, h | h⟩
  · cases h; rfl
  · obtain ⟨_, _, e, _⟩ := h; cases e
  · obtain ⟨_, _, e, _⟩ := h; cases e
theorem IsB.bool {i : Bool} (h : IsB M H v (.bool i)) : v = .bl i := by
  rcases h with h | ⟨a, rfl, _, h | h⟩
  · cases h; rfl
  · obtain ⟨_, _, e, _⟩ := h; cases e
  · obtain ⟨_, _, e, _⟩ := h; cases e
theorem IsB.none (h : IsB M H v .none) : v = .non := by
  rcases h with h | ⟨a, rfl, _, h | h⟩
  · cases h; rfl
  · obtain ⟨_, _, e, _⟩ := h; cases e
  · obtain ⟨_, _, e, _⟩ := h; cases e
theorem IsB.str {i : Str} (h : IsB M H v (.str i)) : v = .str i := by
  rcases h with h | ⟨a, rfl, _, h | h⟩
  · cases h; rfl
  · obtain ⟨_, _, e, _⟩ := h; cases e
  · obtain ⟨_, _, e, _⟩ := h; cases e
theorem IsB.list {ds : List PyData} (h : IsB M H v (.list ds)) : ∃ a xs, v = .ref a ∧ Rd H a (.lst xs) ∧ IsAll M H xs ds := by
  rcases h with h | ⟨a, rfl, _, h | h⟩
  · cases h with
    | lst h1 h2 h3 => exact ⟨_, _, rfl, h2, h3⟩
  · obtain ⟨xs, _, e, h1, h2⟩ := h; cases e; exact ⟨a, xs, rfl, .inl h1, h2⟩
  · obtain ⟨_, _, e, _⟩ := h; cases e
theorem IsB.tup {ds : List PyData} (h : IsB M H v (.tuple ds)) : ∃ a xs, v = .ref a ∧ ¬ M a ∧ Rd H a (.tup xs) ∧ IsAll M H xs ds := by
  rcases h with h | ⟨a, rfl, _, h | h⟩
  · cases h with
    | tup h1 h2 h3 => exact ⟨_, _, rfl, h1, h2, h3⟩
  · obtain ⟨xs, _, e, h1, h2⟩ := h; cases e
  · obtain ⟨_, _, e, _⟩ := h; cases e
theorem IsB.dict {ds : List (PyData × PyData)} (h : IsB M H v (.dict ds)) : ∃ a kvs, v = .ref a ∧ Rd H a (.dK kvs) ∧ IsKv M H kvs ds := by
  rcases h with h | ⟨a, rfl, _, h | h⟩
  · cases h with
    | dic h1 h2 h3 => exact ⟨_, _, rfl, h2, h3⟩
  · obtain ⟨_, _, e, _⟩ := h; cases e
  · obtain ⟨xs, _, e, h1, h2⟩ := h; cases e; exact ⟨a, xs, rfl, .inl h1, h2⟩
mutual
theorem Is.dp : ∀ {v : V} {d : PyData}, Is M H v d → d.hasDict = false → Dp K H v d
  | _, _, .non, _ => .non
  | _, _, .bl b, _ => .bl b
  | _, _, .int i, _ => .int i
  | _, _, .str x, _ => .str x
  | _, _, .lst hm hr ha, h => .lst (.inl hr) (IsAll.dp ha (by simpa [PyData.hasDict] using h))
  | _, _, .tup hm hr ha, h => .tup (.inl hr) (IsAll.dp ha (by simpa [PyData.hasDict] using h))
  | _, _, .dic hm hr ha, h => absurd h (by simp [PyData.hasDict])
theorem IsAll.dp : ∀ {v : List V} {d : List PyData}, IsAll M H v d → PyData.hasDictAll d = false → DpAll K H v d
  | _, _, .nil, _ => .nil
  | _, _, .cons h t, k => by
    simp only [PyData.hasDictAll, Bool.or_eq_false_iff] at k
    exact .cons (Is.dp h k.1) (IsAll.dp t k.2)
end
theorem IsB.dp {d : PyData} (h : IsB M H v d) (k : d.hasDict = false) : Dp K H v d := by
  rcases h with h | ⟨a, rfl, _, h | h⟩
  · exact h.dp k
  · obtain ⟨xs, ds, e, h1, h2⟩ := h; subst e; exact .lst (.inl (.inl h1)) (h2.dp (by simpa [PyData.hasDict] using k))
  · obtain ⟨_, _, e, _⟩ := h; subst e; simp [PyData.hasDict] at k
theorem noDict_of_shaped {d : PyData} (h : SeqAt.shaped d = true) : d.hasDict = false := PyData.hasDict_of_canLay d (SeqAt.canLay_of_shaped h)
theorem IsAll.length : ∀ {vs : List V} {ds : List PyData}, IsAll M H vs ds → vs.length = ds.length
  | _, _, .nil => rfl
  | _, _, .cons _ t => by rw [List.length_cons, List.length_cons, t.length]
theorem IsAll.get : ∀ {vs : List V} {ds : List PyData} {i : Nat} {d : PyData}, IsAll M H vs ds → ds[i]? = some d → ∃ v, vs[i]? = some v ∧ Is M H v d
  | _, _, _, _, .nil, e => by simp at e
  | _, _, 0, _, .cons h _, e => by simp at e; subst e; exact ⟨_, rfl, h⟩
  | _, _, i + 1, _, .cons _ t, e => by
    obtain ⟨v, h1, h2⟩ := t.get (i := i) (by simpa using e)
    exact ⟨v, by simpa using h1, h2⟩
theorem IsAll.get2 : ∀ {vs : List V} {ds : List PyData} {i : Nat} {v : V}, IsAll M H vs ds → vs[i]? = some v → ∃ d, ds[i]? = some d ∧ Is M H v d
  | _, _, _, _, .nil, e => by simp at e
  | _, _, 0, _, .cons h _, e => by simp at e; subst e; exact ⟨_, rfl, h⟩
  | _, _, i + 1, _, .cons _ t, e => by
    obtain ⟨v, h1, h2⟩ := t.get2 (i := i) (by simpa using e)
    exact ⟨v, by simpa using h1, h2⟩
theorem IsAll.append : ∀ {vs ws : List V} {ds es : List PyData}, IsAll M H vs ds → IsAll M H ws es → IsAll M H (vs ++ ws) (ds ++ es)
  | _, _, _, _, .nil, k => k
  | _, _, _, _, .cons h t, k => .cons h (t.append k)
theorem IsAll.take : ∀ {vs : List V} {ds : List PyData} (n : Nat), IsAll M H vs ds → IsAll M H (vs.take n) (ds.take n)
  | _, _, 0, _ => .nil
  | _, _, _ + 1, .nil => .nil
  | _, _, n + 1, .cons h t => .cons h (t.take n)
theorem IsAll.drop : ∀ {vs : List V} {ds : List PyData} (n : Nat), IsAll M H vs ds → IsAll M H (vs.drop n) (ds.drop n)
  | _, _, 0, h => h
  | _, _, _ + 1, .nil => .nil
  | _, _, n + 1, .cons h t => t.drop n
theorem IsAll.reverse : ∀ {vs : List V} {ds : List PyData}, IsAll M H vs ds → IsAll M H vs.reverse ds.reverse
  | _, _, .nil => .nil
  | _, _, .cons h t => by rw [List.reverse_cons, List.reverse_cons]; exact t.reverse.append (.cons h .nil)
theorem IsAll.set : ∀ {vs : List V} {ds : List PyData} {v : V} {d : PyData} (i : Nat), IsAll M H vs ds → Is M H v d → IsAll M H (vs.set i v) (ds.set i d)
  | _, _, _, _, _, .nil, _ => .nil
  | _, _, _, _, 0, .cons _ t, k => .cons k t
  | _, _, _, _, i + 1, .cons h t, k => .cons h (t.set i k)
theorem IsAll.eraseIdx : ∀ {vs : List V} {ds : List PyData} (i : Nat), IsAll M H vs ds → IsAll M H (vs.eraseIdx i) (ds.eraseIdx i)
  | _, _, _, .nil => .nil
  | _, _, 0, .cons _ t => t
  | _, _, i + 1, .cons h t => .cons h (t.eraseIdx i)
theorem IsAll.dropLast : ∀ {vs : List V} {ds : List PyData}, IsAll M H vs ds → IsAll M H vs.dropLast ds.dropLast
  | _, _, .nil => .nil
  | _, _, .cons _ .nil => .nil
  | _, _, .cons h (.cons k t) => .cons h (IsAll.dropLast (.cons k t))
theorem IsAll.paired : ∀ {vs : List V} {ds : List PyData}, IsAll M H vs ds → Paired (Is M H) vs ds
  | _, _, .nil => .nil
  | _, _, .cons h t => .cons h t.paired
theorem IsAll.of_paired : ∀ {vs : List V} {ds : List PyData}, Paired (Is M H) vs ds → IsAll M H vs ds
  | _, _, .nil => .nil
  | _, _, .cons h t => .cons h (of_paired t)
end

/-! ### a new object, or none -/
def Grow (H H' : Hp) : Prop := H' = H ∨ ∃ p o, H p = none ∧ H' = upd H p o
theorem Grow.refl (H : Hp) : Grow H H := .inl rfl
theorem Grow.stepE {La : List Addr} {M0 M : Addr → Prop} {H H' : Hp} {σ : St} {ρ : Env} {S : Store} (g : Grow H H') (R : RelF La M0 M H σ ρ S) : StepE La La M M H H' ∧ RelF La M0 M H' σ ρ S := by
  rcases g with rfl | ⟨p, o, hp, rfl⟩
  · exact ⟨StepE.refl R.laM, R⟩
  · exact ⟨StepE.new R.laM hp, R.new hp⟩
theorem notM {M : Addr → Prop} {H : Hp} {p : Addr} (hd : ∀ a, M a → H a ≠ none) (hp : H p = none) : ¬ M p := fun z => hd p z hp
theorem is_new_tup {M : Addr → Prop} {H : Hp} {p : Addr} {xs : List V} {ds : List PyData} (hd : ∀ a, M a → H a ≠ none) (hp : H p = none) (h : IsAll M H xs ds) : Is M (upd H p (.tup xs)) (.ref p) (.tuple ds) :=
  .tup (notM hd hp) (.inl upd_same) (h.mono (StepE.new (La := []) (fun _ h => by cases h) hp).toStep)
theorem is_new_lst {M : Addr → Prop} {H : Hp} {p : Addr} {xs : List V} {ds : List PyData} (hd : ∀ a, M a → H a ≠ none) (hp : H p = none) (h : IsAll M H xs ds) : Is M (upd H p (.lst xs)) (.ref p) (.list ds) :=
  .lst (notM hd hp) (.inl upd_same) (h.mono (StepE.new (La := []) (fun _ h => by cases h) hp).toStep)

/-- a two-place operation on data -/
def rD2 (g : PyData → PyData → Option PyData) : R2 := fun x y H Q => ∃ (M : Addr → Prop) (dx dy d : PyData), (∀ a, M a → H a ≠ none) ∧ IsB M H x dx ∧ IsB M H y dy ∧ g dx dy = some d ∧ ∀ v H', Grow H H' → Is M H' v d → Q v H'
/-- .. that gives a bool -/
def rD2b (g : PyData → PyData → Option Bool) : R2 := fun x y H Q => ∃ (M : Addr → Prop) (dx dy : PyData) (b : Bool), IsB M H x dx ∧ IsB M H y dy ∧ g dx dy = some b ∧ Q (.bl b) H
section
variable {X : Cx}
theorem op_catL : OpR X (binaryOp .Add) (fun x y H Q => ∃ l b xs zs, x = .ref l ∧ y = .ref b ∧ SqL X.K H l xs ∧ SqL X.K H b zs ∧ xs.length + zs.length ≤ sizeLine ∧ ∀ p, H p = none → Q (.ref p) (upd H p (.lst (xs ++ zs)))) := by
  intro pins s σ H x y v u Q I rx ry h
  obtain ⟨l, b, xs, zs, rfl, rfl, hH, hB, hz, q⟩ := h
  cases rx
  cases ry
  obtain ⟨its, r, p, hl⟩ := I.list hH
  obtain ⟨its2, r2, p2, hl2⟩ := I.list hB
  obtain ⟨⟨cls, dd, data, sl⟩, n, ho, hc, hdd, hd⟩ := id p
  obtain ⟨⟨cls2, dd2, data2, sl2⟩, n2, ho2, hc2, hdd2, hd2⟩ := id p2
  simp only at hc hd hdd hc2 hd2 hdd2
  subst hc hd hdd hc2 hd2 hdd2
  have e1 := r.length
  have e2 := r2.length
  refine concat_meets ⟨_, ho, rfl⟩ ⟨_, ho2, rfl⟩ noFill_list_add seq_list_add PySem.F.slot_list_add PySem.F.entry_list_add (PySem.F.args_list_add_2 _ _) (list_addW l b its.toArray its2.toArray n n2 none none sl sl2 (by rw [List.size_toArray, List.size_toArray]; omega)) ⟨ho, ho2, ?_⟩
  have ea : its.toArray ++ its2.toArray = (its ++ its2).toArray := by simp
  rw [ea]
  exact ⟨.ref _, _, I.lnew (t' := s.toks) (r.append r2) (by rw [List.length_append]; omega), rfl, q _ I.fresh⟩

theorem op_addD : OpR X (binaryOp .Add) (rD2 opAdd) := by
  intro pins s σ H x y v u Q I rx ry h
  obtain ⟨M, dx, dy, d, hd, hx, hy, e, q⟩ := h
  unfold opAdd at e
  split at e
  · cases e
    have e1 := hx.int; have e2 := hy.int; subst e1; subst e2
    exact op_add pins s σ H _ _ v u Q I rx ry ⟨_, _, rfl, rfl, q _ _ (.refl H) (.int _)⟩
  · split at e
    · rename_i hl
      cases e
      have e1 := hx.str; have e2 := hy.str; subst e1; subst e2
      exact op_add_str pins s σ H _ _ v u Q I rx ry ⟨_, _, rfl, rfl, hl, q _ _ (.refl H) (.str _)⟩
    · cases e
  · split at e
    · rename_i hl
      cases e
      obtain ⟨a, xs, rfl, ha, hxs⟩ := hx.list
      obtain ⟨b, ys, rfl, hb, hys⟩ := hy.list
      exact op_catL pins s σ H _ _ v u Q I rx ry ⟨_, _, _, _, rfl, rfl, .inl ha, .inl hb, by rw [hxs.length, hys.length]; exact hl, fun p hp => q _ _ (.inr ⟨p, _, hp, rfl⟩) (is_new_lst hd hp (hxs.append hys))⟩
    · cases e
  · split at e
    · rename_i hl
      cases e
      obtain ⟨a, xs, rfl, na, ha, hxs⟩ := hx.tup
      obtain ⟨b, ys, rfl, nb, hb, hys⟩ := hy.tup
      refine op_catA pins s σ H _ _ v u Q I rx ry ⟨_, _, _, _, rfl, rfl, .inl ha, .inl hb, by rw [hxs.length, hys.length]; exact hl, fun z => ?_, fun _ z => ?_, fun _ _ p hp => q _ _ (.inr ⟨p, _, hp, rfl⟩) (is_new_tup hd hp (hxs.append hys))⟩
      · subst z
        cases hxs
        exact q _ _ (.refl H) (.tup nb hb hys)
      · subst z
        cases hys
        rw [List.append_nil] at q
        exact q _ _ (.refl H) (.tup na ha hxs)
    · cases e
  · cases e
theorem op_subD : OpR X (binaryOp .Sub) (rD2 opSub) := by
  intro pins s σ H x y v u Q I rx ry h
  obtain ⟨M, dx, dy, d, hd, hx, hy, e, q⟩ := h
  unfold opSub at e
  split at e
  · cases e
    have e1 := hx.int; have e2 := hy.int; subst e1; subst e2
    exact op_sub pins s σ H _ _ v u Q I rx ry ⟨_, _, rfl, rfl, q _ _ (.refl H) (.int _)⟩
  · cases e
theorem op_mulD : OpR X (binaryOp .Mult) (rD2 opMul) := by
  intro pins s σ H x y v u Q I rx ry h
  obtain ⟨M, dx, dy, d, hd, hx, hy, e, q⟩ := h
  unfold opMul at e
  split at e
  · split at e
    · rename_i hc
      cases e
      have e1 := hx.int; have e2 := hy.int; subst e1; subst e2
      refine op_mul pins s σ H _ _ v u Q I rx ry ⟨_, _, rfl, rfl, ?_, q _ _ (.refl H) (.int _)⟩
      unfold cMul at hc
      simp only [Bool.or_eq_true, Bool.and_eq_true, decide_eq_true_eq] at hc
      exact hc
    · cases e
  · cases e
theorem op_modD : OpR X (binaryOp .Mod) (rD2 opMod) := by
  intro pins s σ H x y v u Q I rx ry h
  obtain ⟨M, dx, dy, d, hd, hx, hy, e, q⟩ := h
  unfold opMod at e
  split at e
  · split at e
    · rename_i hc
      cases e
      have e1 := hx.int; have e2 := hy.int; subst e1; subst e2
      exact op_modN pins s σ H _ _ v u Q I rx ry ⟨_, _, rfl, rfl, hc, q _ _ (.refl H) (.int _)⟩
    · cases e
  · cases e
theorem op_fdivD : OpR X (binaryOp .FloorDiv) (rD2 opFdiv) := by
  intro pins s σ H x y v u Q I rx ry h
  obtain ⟨M, dx, dy, d, hd, hx, hy, e, q⟩ := h
  unfold opFdiv at e
  split at e
  · split at e
    · rename_i hc
      cases e
      have e1 := hx.int; have e2 := hy.int; subst e1; subst e2
      exact op_fdivN pins s σ H _ _ v u Q I rx ry ⟨_, _, rfl, rfl, hc, q _ _ (.refl H) (.int _)⟩
    · cases e
  · cases e
theorem op_powD : OpR X (binaryOp .Pow) (rD2 opPow) := by
  intro pins s σ H x y v u Q I rx ry h
  obtain ⟨M, dx, dy, d, hd, hx, hy, e, q⟩ := h
  unfold opPow at e
  split at e
  · split at e
    · rename_i hc
      cases e
      have e1 := hx.int; have e2 := hy.int; subst e1; subst e2
      exact op_pow pins s σ H _ _ v u Q I rx ry ⟨_, _, rfl, rfl, hc, q _ _ (.refl H) (.int _)⟩
    · cases e
  · cases e
def bopP : Bop → Operator
  | .add => .Add | .sub => .Sub | .mul => .Mult | .mod => .Mod | .fdiv => .FloorDiv | .pow => .Pow
theorem op_binD (o : Bop) : OpR X (binaryOp (bopP o)) (rD2 (binD o)) := by
  cases o
  · exact op_addD
  · exact op_subD
  · exact op_mulD
  · exact op_modD
  · exact op_fdivD
  · exact op_powD

/-! ### comparisons -/
theorem op_eqDD (hu : X.A.units + 64 < cLine) : OpR X (compareOp .Eq) (rD2b eqD) := by
  intro pins s σ H x y v u Q I rx ry h
  obtain ⟨M, dx, dy, b, hx, hy, e, q⟩ := h
  unfold eqD at e
  split at e
  · rename_i hc
    simp only [Bool.and_eq_true] at hc
    cases e
    exact op_eqD hu pins s σ H x y v u Q I rx ry ⟨dx, dy, hx.dp (noDict_of_shaped hc.1), hy.dp (noDict_of_shaped hc.2), hc.1, hc.2, q⟩
  · cases e
theorem op_neDD (hu : X.A.units + 64 < cLine) : OpR X (compareOp .NotEq) (rD2b neD) := by
  intro pins s σ H x y v u Q I rx ry h
  obtain ⟨M, dx, dy, b, hx, hy, e, q⟩ := h
  unfold neD at e
  split at e
  · rename_i hc
    simp only [Bool.and_eq_true] at hc
    cases e
    exact op_neD hu pins s σ H x y v u Q I rx ry ⟨dx, dy, hx.dp (noDict_of_shaped hc.1), hy.dp (noDict_of_shaped hc.2), hc.1, hc.2, q⟩
  · cases e
theorem notNone_ne {d : PyData} (h : notNone d = true) : d ≠ .none := fun z => by subst z; cases h
theorem cmp_common {M : Addr → Prop} {H : Hp} {x y : V} {v u : Value} {dx dy : PyData} {pins : List (Addr × Obj)} {σ : St} {s : Shared} (I : Inv X pins σ H s) (hu : X.A.units + 64 < cLine) (hx : IsB M H x dx) (hy : IsB M H y dy) (rx : RelV x v) (ry : RelV y u)
    (hc : (PySem.W.alike dx dy && notNone dx && decide (dx.depth ≤ 64) && !dx.hasDict && !dy.hasDict) = true) :
    ∃ as bs, Reads s.heap v dx as ∧ Reads s.heap u dy bs ∧ PySem.W.alike dx dy = true ∧ dx ≠ .none ∧ X.A.units + min dx.depth dy.depth < cLine := by
  simp only [Bool.and_eq_true, Bool.not_eq_true', decide_eq_true_eq] at hc
  obtain ⟨⟨⟨⟨h1, h2⟩, h3⟩, h4⟩, h5⟩ := hc
  obtain ⟨as, r1⟩ := Dp.reads I dx x v (hx.dp h4) rx
  obtain ⟨bs, r2⟩ := Dp.reads I dy y u (hy.dp h5) ry
  have : min dx.depth dy.depth ≤ dx.depth := Nat.min_le_left _ _
  exact ⟨as, bs, r1, r2, h1, notNone_ne h2, by omega⟩
theorem op_ltDD (hu : X.A.units + 64 < cLine) : OpR X (compareOp .Lt) (rD2b ltD) := by
  intro pins s σ H x y v u Q I rx ry h
  obtain ⟨M, dx, dy, b, hx, hy, e, q⟩ := h
  unfold ltD at e
  split at e
  · rename_i hc
    cases e
    obtain ⟨as, bs, r1, r2, h1, h2, h3⟩ := cmp_common I hu hx hy rx ry hc
    exact PySem.W.lt_data r1 r2 h1 h2 h3 ⟨.bl _, H, I, rfl, q⟩
  · cases e
theorem op_gtDD (hu : X.A.units + 64 < cLine) : OpR X (compareOp .Gt) (rD2b gtD) := by
  intro pins s σ H x y v u Q I rx ry h
  obtain ⟨M, dx, dy, b, hx, hy, e, q⟩ := h
  unfold gtD at e
  split at e
  · rename_i hc
    cases e
    obtain ⟨as, bs, r1, r2, h1, h2, h3⟩ := cmp_common I hu hx hy rx ry hc
    exact PySem.W.gt_data r1 r2 h1 h2 h3 ⟨.bl _, H, I, rfl, q⟩
  · cases e
theorem op_leDD (hu : X.A.units + 64 < cLine) : OpR X (compareOp .LtE) (rD2b leD) := by
  intro pins s σ H x y v u Q I rx ry h
  obtain ⟨M, dx, dy, b, hx, hy, e, q⟩ := h
  unfold leD at e
  split at e
  · rename_i hc
    cases e
    obtain ⟨as, bs, r1, r2, h1, h2, h3⟩ := cmp_common I hu hx hy rx ry hc
    exact PySem.W.le_data r1 r2 h1 h2 h3 ⟨.bl _, H, I, rfl, q⟩
  · cases e
theorem op_geDD (hu : X.A.units + 64 < cLine) : OpR X (compareOp .GtE) (rD2b geD) := by
  intro pins s σ H x y v u Q I rx ry h
  obtain ⟨M, dx, dy, b, hx, hy, e, q⟩ := h
  unfold geD at e
  split at e
  · rename_i hc
    cases e
    obtain ⟨as, bs, r1, r2, h1, h2, h3⟩ := cmp_common I hu hx hy rx ry hc
    exact PySem.W.ge_data r1 r2 h1 h2 h3 ⟨.bl _, H, I, rfl, q⟩
  · cases e
theorem op_inDD (hu : X.A.units + 65 < cLine) : OpR X (compareOp .In) (rD2b inD) := by
  intro pins s σ H x y v u Q I rx ry h
  obtain ⟨M, dx, dy, b, hx, hy, e, q⟩ := h
  unfold inD at e
  split at e
  · split at e
    · rename_i hc
      simp only [Bool.and_eq_true] at hc
      cases e
      obtain ⟨as, r1⟩ := Dp.reads I _ x v (hx.dp (noDict_of_shaped hc.1)) rx
      obtain ⟨bs, r2⟩ := Dp.reads I _ y u (hy.dp (noDict_of_shaped hc.2)) ry
      exact SeqAt.in_list_reads r2 r1 (SeqAt.canLay_of_shaped hc.2) (SeqAt.canLay_of_shaped hc.1) (room_in_shaped hc.1 hu) ⟨.bl _, H, I, rfl, q⟩
    · cases e
  · split at e
    · rename_i hc
      simp only [Bool.and_eq_true] at hc
      cases e
      obtain ⟨as, r1⟩ := Dp.reads I _ x v (hx.dp (noDict_of_shaped hc.1)) rx
      obtain ⟨bs, r2⟩ := Dp.reads I _ y u (hy.dp (noDict_of_shaped hc.2)) ry
      exact SeqAt.in_tuple_reads r2 r1 (SeqAt.canLay_of_shaped hc.2) (SeqAt.canLay_of_shaped hc.1) (room_in_shaped hc.1 hu) ⟨.bl _, H, I, rfl, q⟩
    · cases e
  · cases e
theorem op_notinDD (hu : X.A.units + 65 < cLine) : OpR X (compareOp .NotIn) (rD2b notinD) := by
  intro pins s σ H x y v u Q I rx ry h
  obtain ⟨M, dx, dy, b, hx, hy, e, q⟩ := h
  unfold notinD at e
  split at e
  · split at e
    · rename_i hc
      simp only [Bool.and_eq_true] at hc
      cases e
      obtain ⟨as, r1⟩ := Dp.reads I _ x v (hx.dp (noDict_of_shaped hc.1)) rx
      obtain ⟨bs, r2⟩ := Dp.reads I _ y u (hy.dp (noDict_of_shaped hc.2)) ry
      exact SeqAt.notIn_list_reads r2 r1 (SeqAt.canLay_of_shaped hc.2) (SeqAt.canLay_of_shaped hc.1) (room_in_shaped hc.1 hu) ⟨.bl _, H, I, rfl, q⟩
    · cases e
  · split at e
    · rename_i hc
      simp only [Bool.and_eq_true] at hc
      cases e
      obtain ⟨as, r1⟩ := Dp.reads I _ x v (hx.dp (noDict_of_shaped hc.1)) rx
      obtain ⟨bs, r2⟩ := Dp.reads I _ y u (hy.dp (noDict_of_shaped hc.2)) ry
      exact SeqAt.notIn_tuple_reads r2 r1 (SeqAt.canLay_of_shaped hc.2) (SeqAt.canLay_of_shaped hc.1) (room_in_shaped hc.1 hu) ⟨.bl _, H, I, rfl, q⟩
    · cases e
  · cases e
theorem isNone_dec {M : Addr → Prop} {H : Hp} {x : V} {d : PyData} (h : IsB M H x d) : decide (x = .non) = isNoneD d := by
  cases d with
  | none => rw [h.none]; rfl
  | bool b => rw [h.bool]; rfl
  | int b => rw [h.int]; rfl
  | str b => rw [h.str]; rfl
  | list b => obtain ⟨_, _, rfl, _⟩ := h.list; rfl
  | tuple b => obtain ⟨_, _, rfl, _⟩ := h.tup; rfl
  | dict b => obtain ⟨_, _, rfl, _⟩ := h.dict; rfl
theorem op_isNoneD : OpR X (compareOp .Is) (rD2b isnD) := by
  intro pins s σ H x y v u Q I rx ry h
  obtain ⟨M, dx, dy, b, hx, hy, e, q⟩ := h
  unfold isnD at e
  split at e
  · rename_i hc
    cases e
    have hn : dy = .none := by cases dy <;> first | rfl | cases hc
    subst hn
    refine op_isN pins s σ H x y v u Q I rx ry ⟨hy.none, ?_⟩
    rw [isNone_dec hx]; exact q
  · cases e
theorem op_notNoneD : OpR X (compareOp .IsNot) (rD2b nonD) := by
  intro pins s σ H x y v u Q I rx ry h
  obtain ⟨M, dx, dy, b, hx, hy, e, q⟩ := h
  unfold nonD at e
  split at e
  · rename_i hc
    cases e
    have hn : dy = .none := by cases dy <;> first | rfl | cases hc
    subst hn
    refine op_notN pins s σ H x y v u Q I rx ry ⟨hy.none, ?_⟩
    rw [isNone_dec hx]; exact q
  · cases e
theorem op_isBoolD : OpR X (compareOp .Is) (rD2b isB) := by
  intro pins s σ H x y v u Q I rx ry h
  obtain ⟨M, dx, dy, b, hx, hy, e, q⟩ := h
  unfold isB at e
  split at e
  · cases e
    have e1 := hx.bool; have e2 := hy.bool; subst e1; subst e2
    exact op_is_bl pins s σ H _ _ v u Q I rx ry ⟨_, _, rfl, rfl, q⟩
  · cases e
theorem op_notBoolD : OpR X (compareOp .IsNot) (rD2b notB) := by
  intro pins s σ H x y v u Q I rx ry h
  obtain ⟨M, dx, dy, b, hx, hy, e, q⟩ := h
  unfold notB at e
  split at e
  · cases e
    have e1 := hx.bool; have e2 := hy.bool; subst e1; subst e2
    exact op_isnot_bl pins s σ H _ _ v u Q I rx ry ⟨_, _, rfl, rfl, q⟩
  · cases e
def copP : Cop → CmpOp
  | .eq => .Eq | .ne => .NotEq | .lt => .Lt | .le => .LtE | .gt => .Gt | .ge => .GtE | .isin => .In | .notin => .NotIn
  | .isNone => .Is | .notNone => .IsNot | .isB => .Is | .notB => .IsNot
theorem op_cmpD (hu : X.A.units + 65 < cLine) (o : Cop) : OpR X (compareOp (copP o)) (rD2b (cmpD o)) := by
  have hu' : X.A.units + 64 < cLine := by omega
  cases o
  · exact op_eqDD hu'
  · exact op_neDD hu'
  · exact op_ltDD hu'
  · exact op_leDD hu'
  · exact op_gtDD hu'
  · exact op_geDD hu'
  · exact op_inDD hu
  · exact op_notinDD hu
  · exact op_isNoneD
  · exact op_notNoneD
  · exact op_isBoolD
  · exact op_notBoolD
end
end L2.DL

set_option maxHeartbeats 1000000
/-! The data layer, fourth part: subscripts, built-ins. -/
namespace L2.DL
open PySem PySem.Spec PyProof.Rows L2

theorem IsAll.atI {M : Addr → Prop} {H : Hp} {vs : List V} {ds : List PyData} {i : Int} {d : PyData} (h : IsAll M H vs ds) (e : L2.atI ds i = some d) : ∃ v, L2.atI vs i = some v ∧ Is M H v d := by
  unfold L2.atI at e ⊢
  rw [h.length]
  cases q : ixN ds.length i with
  | none => rw [q] at e; cases e
  | some j =>
    rw [q] at e
    exact h.get e
def rIxD2 : R2 := fun x y H Q => ∃ (M : Addr → Prop) (dx dy d : PyData), IsB M H x dx ∧ IsB M H y dy ∧ idxD dx dy = some d ∧ ∀ v, Is M H v d → Q v H
section
variable {X : Cx}
theorem ix_D : IxR X rIxD2 := by
  intro value slice pins s σ H x y v u Q I rx ry h hs
  obtain ⟨M, dx, dy, d, hx, hy, e, q⟩ := h
  unfold idxD at e
  split at e
  · obtain ⟨a, xs, rfl, ha, hxs⟩ := hx.list
    have ey := hy.int; subst ey
    obtain ⟨w, e1, e2⟩ := hxs.atI e
    exact ix_list value slice pins s σ H _ _ v u Q I rx ry ⟨_, _, _, _, rfl, rfl, .inl ha, e1, q _ e2⟩ hs
  · obtain ⟨a, xs, rfl, na, ha, hxs⟩ := hx.tup
    have ey := hy.int; subst ey
    obtain ⟨w, e1, e2⟩ := hxs.atI e
    exact ix_tup value slice pins s σ H _ _ v u Q I rx ry ⟨_, _, _, _, rfl, rfl, .inl ha, e1, q _ e2⟩ hs
  · split at e
    · rename_i hl
      have ex := hx.str; subst ex
      have ey := hy.int; subst ey
      rename_i x0 i0
      cases q' : L2.atI x0.cps.toList i0 with
      | none => rw [q'] at e; cases e
      | some c =>
        rw [q'] at e
        cases e
        exact ix_str value slice pins s σ H _ _ v u Q I rx ry ⟨_, _, c, rfl, rfl, hl, q', q _ (.str _)⟩ hs
    · cases e
  · cases e

theorem cutL_is {M : Addr → Prop} {H : Hp} {vs : List V} {ds : List PyData} {lo hi : Option Int} (h : IsAll M H vs ds) : IsAll M H (cutV vs lo hi) (cutL ds lo hi) := by
  unfold cutV cutL
  rw [h.length]
  exact (h.drop _).take _
def rSlD2 : V → Option Int → Option Int → Hp → VK → Prop := fun x lo hi H Q => ∃ (M : Addr → Prop) (dx d : PyData), (∀ a, M a → H a ≠ none) ∧ IsB M H x dx ∧ sliD lo hi dx = some d ∧ ∀ v H', Grow H H' → Is M H' v d → Q v H'
theorem sl_D : SlR X rSlD2 := by
  intro pins s σ H x v vl vu lo hi sl Q I rx hs pl pu h
  obtain ⟨M, dx, d, hd, hx, e, q⟩ := h
  unfold sliD at e
  split at e
  · cases e
    obtain ⟨a, xs, rfl, ha, hxs⟩ := hx.list
    exact sl_list pins s σ H _ v vl vu lo hi sl Q I rx hs pl pu ⟨_, _, rfl, .inl ha, fun p hp => q _ _ (.inr ⟨p, _, hp, rfl⟩) (is_new_lst hd hp (cutL_is hxs))⟩
  · cases e
    obtain ⟨a, xs, rfl, na, ha, hxs⟩ := hx.tup
    refine sl_tupA pins s σ H _ v vl vu lo hi sl Q I rx hs pl pu ⟨_, _, rfl, .inl ha, fun z => ?_, fun _ p hp => q _ _ (.inr ⟨p, _, hp, rfl⟩) (is_new_tup hd hp (cutL_is hxs))⟩
    refine q _ _ (.refl H) ?_
    have : cutL ‹List PyData› lo hi = ‹List PyData› := by
      unfold cutL
      rw [← hxs.length, z.1, z.2, List.drop_zero, Nat.sub_zero]
      exact List.take_of_length_le (by rw [hxs.length]; exact Nat.le_refl _)
    rw [this]
    exact .tup na ha hxs
  · split at e
    · rename_i hl
      cases e
      have ex := hx.str; subst ex
      exact sl_str pins s σ H _ v vl vu lo hi sl Q I rx hs pl pu ⟨_, rfl, hl, q _ _ (.refl H) (.str _)⟩
    · cases e
  · cases e

/-! ### isinstance -/
def tyN : Ty → String
  | .bool => "bool" | .int => "int" | .str => "str" | .tuple => "tuple" | .list => "list"
def tyOfD : PyData → String
  | .none => "NoneType" | .bool _ => "bool" | .int _ => "int" | .str _ => "str" | .list _ => "list" | .tuple _ => "tuple" | .dict _ => "dict"
theorem tyX_of {M : Addr → Prop} {H : Hp} {x : V} {d : PyData} {K : PySem.W.Frag} (h : IsB M H x d) : TyX K H x (.type (tyOfD d)) := by
  cases d with
  | none => rw [h.none]; exact .base .non
  | bool b => rw [h.bool]; exact .base (.bl _)
  | int b => rw [h.int]; exact .base (.int _)
  | str b => rw [h.str]; exact .base (.str _)
  | list b =>
    obtain ⟨a, xs, rfl, ha, _⟩ := h.list
    rcases ha with ha | ⟨o, ha⟩
    · exact .base (.lst ha)
    · exact .base (.frz ha)
  | tuple b =>
    obtain ⟨a, xs, rfl, _, ha, _⟩ := h.tup
    rcases ha with ha | ⟨o, ha⟩
    · exact .base (.tup ha)
    · exact .fTuple ha
  | dict b =>
    obtain ⟨a, xs, rfl, ha, _⟩ := h.dict
    rcases ha with ha | ⟨o, ha⟩
    · exact .base (.dK ha)
    · exact .fDict ha
theorem kit1 (d : PyData) (t : Ty) : kitB (tyOfD d) (tyN t) = some (isiT t d) := by
  cases d <;> cases t <;> (simp only [tyOfD, tyN, isiT]; decide +kernel)
def rIsi1 (t : Ty) : List V → Hp → VK → Prop := fun xs H Q => ∃ (M : Addr → Prop) (x : V) (d : PyData), xs = [x, .ty (tyN t)] ∧ IsB M H x d ∧ Q (.bl (isiT t d)) H
theorem call_isi1 (t : Ty) : CallR X (.builtin "isinstance") (rIsi1 t) := by
  intro pins s σ H xs us Q I r h
  obtain ⟨M, x, d, rfl, hx, q⟩ := h
  exact call_isi pins s σ H _ us Q I r ⟨x, .ty (tyN t), _, _, _, rfl, .ty _, tyX_of hx, kit_ty (kit1 d t), q⟩
theorem kitAll {K : PySem.W.Frag} (d : PyData) : ∀ ts : List Ty, PySem.W.kitAny K (.type (tyOfD d)) (ts.map fun t => Value.type (tyN t)) = some (isiD ts d)
  | [] => rfl
  | t :: ts => by
    have ih := kitAll (K := K) d ts
    rw [List.map_cons]
    refine kitAny_cons (kit_ty (kit1 d t)) (fun e => ?_) (fun e => ?_)
    · rw [ih]
      unfold isiD
      rw [List.any_cons, e, Bool.false_or]
    · unfold isiD
      rw [List.any_cons, e, Bool.true_or]
theorem pair_ty : ∀ ts : List Ty, Paired ClsV (ts.map fun t => V.ty (tyN t)) (ts.map fun t => Value.type (tyN t))
  | [] => .nil
  | t :: ts => .cons (.ty _) (pair_ty ts)
def rIsiN (ts : List Ty) : List V → Hp → VK → Prop := fun xs H Q => ∃ (M : Addr → Prop) (x : V) (tp : Addr) (d : PyData), xs = [x, .ref tp] ∧ H tp = some (.tup (ts.map fun t => V.ty (tyN t))) ∧ IsB M H x d ∧ Q (.bl (isiD ts d)) H
theorem call_isiN (ts : List Ty) : CallR X (.builtin "isinstance") (rIsiN ts) := by
  intro pins s σ H xs us Q I r h
  obtain ⟨M, x, tp, d, rfl, ht, hx, q⟩ := h
  exact call_isiT pins s σ H _ us Q I r ⟨x, tp, _, _, _, _, rfl, ht, pair_ty ts, tyX_of hx, kitAll d ts, q⟩

/-! ### built-ins of one datum -/
def rD1 (g : PyData → Option PyData) : List V → Hp → VK → Prop := fun xs H Q => ∃ (M : Addr → Prop) (x : V) (dx d : PyData), xs = [x] ∧ (∀ a, M a → H a ≠ none) ∧ IsB M H x dx ∧ g dx = some d ∧ ∀ v H', Grow H H' → Is M H' v d → Q v H'
theorem call_lenD : CallR X (.builtin "len") (rD1 lenD) := by
  intro pins s σ H xs us Q I r h
  obtain ⟨M, x, dx, d, rfl, hd, hx, e, q⟩ := h
  unfold lenD at e
  split at e
  · cases e
    obtain ⟨a, ys, rfl, ha, hys⟩ := hx.list
    refine call_len_seq pins s σ H _ us Q I r ⟨a, ys, rfl, .inl (.inl ha), ?_⟩
    rw [hys.length]; exact q _ _ (.refl H) (.int _)
  · cases e
    obtain ⟨a, ys, rfl, _, ha, hys⟩ := hx.tup
    refine call_len_seq pins s σ H _ us Q I r ⟨a, ys, rfl, .inr (.inl ha), ?_⟩
    rw [hys.length]; exact q _ _ (.refl H) (.int _)
  · split at e
    · rename_i hl
      cases e
      have ex := hx.str; subst ex
      exact call_len_str pins s σ H _ us Q I r ⟨_, rfl, hl, q _ _ (.refl H) (.int _)⟩
    · cases e
  · cases e
theorem call_listD1 : CallR X (.type "list") (rD1 listD) := by
  intro pins s σ H xs us Q I r h
  obtain ⟨M, x, dx, d, rfl, hd, hx, e, q⟩ := h
  cases dx with
  | list ds =>
    cases e
    obtain ⟨a, ys, rfl, ha, hys⟩ := hx.list
    exact call_list_of pins s σ H _ us Q I r ⟨a, ys, rfl, .inl (.inl ha), fun p hp => q _ _ (.inr ⟨p, _, hp, rfl⟩) (is_new_lst hd hp hys)⟩
  | tuple ds =>
    cases e
    obtain ⟨a, ys, rfl, _, ha, hys⟩ := hx.tup
    exact call_list_of pins s σ H _ us Q I r ⟨a, ys, rfl, .inr (.inl ha), fun p hp => q _ _ (.inr ⟨p, _, hp, rfl⟩) (is_new_lst hd hp hys)⟩
  | _ => cases e
theorem vals_chars {x : Str} {acc : Array Value} (h : ItemsOf (SignAt x) acc x.cps.size) : Vals (x.cps.toList.map fun c => V.str ⟨#[c]⟩) acc.toList := by
  obtain ⟨h1, h2⟩ := h
  have key : ∀ (cs : List Nat) (vs : List Value), vs.length = cs.length → (∀ (j : Nat) (v : Value), vs[j]? = some v → ∃ c u, cs[j]? = some c ∧ v = Value.str ⟨#[c]⟩ u) → Vals (cs.map fun c => V.str ⟨#[c]⟩) vs := by
    intro cs
    induction cs with
    | nil => intro vs hl _; cases vs with
      | nil => exact .nil
      | cons _ _ => cases hl
    | cons c cs ih =>
      intro vs hl hv
      cases vs with
      | nil => cases hl
      | cons v vs =>
        obtain ⟨c', u, e1, e2⟩ := hv 0 v rfl
        cases e1
        exact .cons ⟨u, e2⟩ (ih vs (by simpa using hl) fun j w hw => hv (j + 1) w hw)
  refine key x.cps.toList acc.toList (by rw [Array.length_toList, Array.length_toList, h1]) fun j v hv => ?_
  obtain ⟨c, u, e1, e2⟩ := h2 j v (by rw [← Array.getElem?_toList]; exact hv)
  exact ⟨c, u, by rw [Array.getElem?_toList]; exact e1, e2⟩
theorem is_chars {M : Addr → Prop} {H : Hp} (x : Str) : IsAll M H (x.cps.toList.map fun c => V.str ⟨#[c]⟩) (chars x) := by
  unfold chars
  induction x.cps.toList with
  | nil => exact .nil
  | cons c cs ih => exact .cons (.str _) ih
theorem call_tupleD1 (hc : X.calm = true) : CallR X (.type "tuple") (rD1 tupD) := by
  intro pins s σ H xs us Q I r h
  obtain ⟨M, x, dx, d, rfl, hd, hx, e, q⟩ := h
  unfold tupD at e
  split at e
  · cases e
    obtain ⟨a, ys, rfl, ha, hys⟩ := hx.list
    exact call_tuple_of pins s σ H _ us Q I r ⟨a, ys, rfl, .inl ⟨.inl ha, fun p hp => q _ _ (.inr ⟨p, _, hp, rfl⟩) (is_new_tup hd hp hys)⟩⟩
  · cases e
    obtain ⟨a, ys, rfl, na, ha, hys⟩ := hx.tup
    exact call_tuple_of pins s σ H _ us Q I r ⟨a, ys, rfl, .inr ⟨.inl ha, q _ _ (.refl H) (.tup na ha hys)⟩⟩
  · split at e
    · rename_i z hz
      cases e
      have ex := hx.str; subst ex
      obtain ⟨u, rfl, t, rfl⟩ := vals1 r
      refine call_tuple_str (I.ok.hd hc) z t (fun h' tk acc hk hacc => ?_) hz
      have I1 : Inv X pins σ H { s with heap := h' } := I.kept (t' := s.toks) hk
      have hp : H h'.objs.size = none := I1.hok.fresh (Nat.le_refl _)
      have hv := vals_chars hacc
      refine ⟨.ref h'.objs.size, upd H h'.objs.size (.tup _), I1.laid (t' := tk) (fun b u e => Heap.get?_push_of_some _ e) (Nat.le_refl _) ⟨?_, acc.toList, hv, ?_⟩, rfl, q _ _ (.inr ⟨_, _, hp, rfl⟩) (is_new_tup hd hp (is_chars z))⟩
      · rw [List.length_map, Array.length_toList]; exact hz
      · exact ⟨_, Heap.get?_push_size _ rfl, rfl, 0, by simp⟩
    · cases e
  · cases e
theorem str_of_none {s : Shared} {A : Around} {prog : Program} {w : World} {E : Value → Shared → Prop} {Q : Value → Shared → Prop} (h : Q (.str "None" s.toks) { s with toks := s.toks + 1 }) : wpAny (model prog w) A (call (.type "str") [.none]) Q E s :=
  callType_new F.called_str (by decide) (F.typeCall_str_1 _) (F.newCall_str_1 _) (fun obj => F.args_object_init_2 obj _) F.entry_str_new
    (meets_str_new (S := fun _ R s => R (.ok (.ret (.str "None" s.toks))) { s with toks := s.toks + 1 }) fun _ _ _ _ s hq =>
      wpAny_strOf_gives rfl (typeIs_none s) F.slot_NoneType_str F.slot_NoneType_repr F.entry_NoneType_repr (F.args_NoneType_repr_1 _) gives_none_repr hq (hsz := by decide)) ⟨typeIs_str _ _ _, h⟩
theorem call_strD : CallR X (.type "str") (rD1 strD) := by
  intro pins s σ H xs us Q I r h
  obtain ⟨M, x, dx, d, rfl, hd, hx, e, q⟩ := h
  cases dx with
  | int i =>
    simp only [strD] at e
    split at e
    · rename_i hi
      cases e
      have ex := hx.int; subst ex
      exact call_str_int pins s σ H _ us Q I r ⟨i, rfl, hi, q _ _ (.refl H) (.str _)⟩
    · cases e
  | none =>
    cases e
    have ex := hx.none; subst ex
    obtain ⟨u, rfl, hu⟩ := vals1 r
    cases hu
    exact str_of_none ⟨.str _, H, I.tok _, ⟨_, rfl⟩, q _ _ (.refl H) (.str _)⟩
  | str i =>
    cases e
    have ex := hx.str; subst ex
    obtain ⟨u, rfl, t, rfl⟩ := vals1 r
    exact PySem.P.str_of_str ⟨.str i, H, I, ⟨t, rfl⟩, q _ _ (.refl H) (.str _)⟩
  | bool b =>
    cases e
    have ex := hx.bool; subst ex
    obtain ⟨u, rfl, hu⟩ := vals1 r
    cases hu
    refine PySem.P.str_of_bool ⟨.str _, H, I.tok _, ⟨_, rfl⟩, ?_⟩
    have := q (.str (if b then ("True" : Str) else ("False" : Str))) H (.refl H) (.str _)
    cases b <;> exact this
  | _ => cases e
theorem call_intD1 : CallR X (.type "int") (rD1 intD) := by
  intro pins s σ H xs us Q I r h
  obtain ⟨M, x, dx, d, rfl, hd, hx, e, q⟩ := h
  cases dx with
  | int i =>
    cases e
    have ex := hx.int; subst ex
    exact call_int1 pins s σ H _ us Q I r (.inl ⟨i, rfl, q _ _ (.refl H) (.int _)⟩)
  | bool i =>
    cases e
    have ex := hx.bool; subst ex
    exact call_int1 pins s σ H _ us Q I r (.inr ⟨i, rfl, q _ _ (.refl H) (.int _)⟩)
  | _ => cases e
theorem intsOf_is {M : Addr → Prop} {H : Hp} : ∀ {vs : List V} {ds : List PyData} {ns : List Int}, IsAll M H vs ds → intsOf ds = some ns → vs = ns.map V.int
  | _, _, _, .nil, e => by cases e; rfl
  | _, _, _, .cons (d := d) h t, e => by
    cases d with
    | int i =>
      simp only [intsOf] at e
      cases q : intsOf _ with
      | none => rw [q] at e; cases e
      | some ms =>
        rw [q] at e
        cases e
        rw [List.map_cons, intsOf_is t q, (IsB.of h).int]
    | _ => cases e
theorem call_sumD (hc : X.calm = true) : CallR X (.builtin "sum") (rD1 sumD) := by
  intro pins s σ H xs us Q I r h
  obtain ⟨M, x, dx, d, rfl, hd, hx, e, q⟩ := h
  unfold sumD at e
  split at e
  · rename_i ds
    obtain ⟨a, ys, rfl, ha, hys⟩ := hx.list
    cases w : intsOf ds with
    | none => rw [w] at e; cases e
    | some ns =>
      rw [w] at e
      cases e
      have ey := intsOf_is hys w
      subst ey
      exact cr_sum hc pins s σ H _ us Q I r ⟨a, ns, rfl, .inl ha, q _ _ (.refl H) (.int _)⟩
  · rename_i ds
    obtain ⟨a, ys, rfl, na, ha, hys⟩ := hx.tup
    cases w : intsOf ds with
    | none => rw [w] at e; cases e
    | some ns =>
      rw [w] at e
      cases e
      have ey := intsOf_is hys w
      subst ey
      obtain ⟨its, rv, hl, hz⟩ := I.tuple (.inl ha)
      rw [Vals.ref1 r]
      have hi := rv.ints
      obtain ⟨xs, hx⟩ := hi.allInts.items
      have hn : numsOf its.toArray.toList = ns := by rw [show its.toArray.toList = its from rfl, hi.numsOf]
      rw [hx] at hl hn
      rw [nums_intItems] at hn
      refine PySem.W.ktm_sumG (I.ok.hd hc) hl fun h' tk t' hk => ?_
      have z : preSum (numAt xs) xs.size = ns.sum := by rw [preSum_eq, List.take_of_length_le (by simp), hn]
      rw [z]
      exact ⟨.int _, H, I.kept hk, ⟨_, rfl⟩, q _ _ (.refl H) (.int _)⟩
  · cases e
theorem call_absD : CallR X (.builtin "abs") (rD1 absD) := by
  intro pins s σ H xs us Q I r h
  obtain ⟨M, x, dx, d, rfl, hd, hx, e, q⟩ := h
  cases dx with
  | int i =>
    cases e
    have ex := hx.int; subst ex
    exact call_abs pins s σ H _ us Q I r ⟨i, rfl, q _ _ (.refl H) (.int _)⟩
  | _ => cases e
end
end L2.DL

set_option maxHeartbeats 1000000
/-! The data layer, fifth part: expressions. -/
namespace L2.DL
open PySem PySem.Spec PyProof.Rows L2

section
variable {X : Cx} {W : WN} {a b c : Expr} {fa fb fc : Env → Mn PyData} {pos : Pos}
/-- an expression of the meaning f; its value is data -/
abbrev SE (X : Cx) (W : WN) (e : Expr) (f : Env → Mn PyData) : Prop := PE X e (tD W IsF f)
/-- .. data, or an own one -/
abbrev SO (X : Cx) (W : WN) (e : Expr) (f : Env → Mn PyData) : Prop := PE X e (tD W IsO f)
abbrev ST (X : Cx) (W : WN) (e : Expr) (f : Env → Mn Bool) : Prop := PT X e (tDT W f)
abbrev SA (X : Cx) (W : WN) (es : List Expr) (f : Env → Mn (List PyData)) : Prop := PA X es (tDA W IsF f)
theorem tD_weak {R R' : IsR} {f : Env → Mn PyData} (w : ∀ La M H v d, R La M H v d → R' La M H v d) {σ : St} {H : Hp} {Q : VK} (h : tD W R' f σ H Q) : tD W R f σ H Q := by
  obtain ⟨La, M0, M, ρ, S, hR, h⟩ := tD_iff.mp h
  exact tD_iff.mpr ⟨La, M0, M, ρ, S, hR, h.mono fun d La' M' H' S' _ _ q v r => q v (w _ _ _ _ _ r)⟩
theorem SE.o (h : SE X W a fa) : SO X W a fa := PE.imp h fun _ _ _ q => tD_weak (fun _ _ _ _ _ r => .inl r) q

theorem se_var {i : Nat} {x : Str} (hN : X.N[i]? = some x) (hv : Vis X.env.scope x) (hd : (x == ("__debug__" : Str)) = false) (hcd : (x == ("__classdict__" : Str)) = false) : SE X W (.Name x pos) fun ρ => getVal ρ i := by
  refine PE.imp (pe_var hN hv hd hcd) fun σ H Q h => ?_
  obtain ⟨La, M0, M, ρ, S, hR, h⟩ := tD_iff.mp h
  simp only [getVal] at h
  cases e : ρ[i]? with
  | none => rw [e] at h; exact False.elim h
  | some sl =>
    rw [e] at h
    cases sl with
    | val d =>
      obtain ⟨v, h1, h2⟩ := hR.val i d e
      exact ⟨v, h1, After.here h hR v h2⟩
    | _ => exact False.elim h
theorem so_own {i : Nat} {x : Str} (hN : X.N[i]? = some x) (hv : Vis X.env.scope x) (hd : (x == ("__debug__" : Str)) = false) (hcd : (x == ("__classdict__" : Str)) = false) : SO X W (.Name x pos) fun ρ => getOwn ρ i := by
  refine PE.imp (pe_var hN hv hd hcd) fun σ H Q h => ?_
  obtain ⟨La, M0, M, ρ, S, hR, h⟩ := tD_iff.mp h
  simp only [getOwn] at h
  cases e : ρ[i]? with
  | none => rw [e] at h; exact False.elim h
  | some sl =>
    rw [e] at h
    cases sl with
    | val d =>
      obtain ⟨v, h1, h2⟩ := hR.val i d e
      exact ⟨v, h1, After.here h hR v (.inl h2)⟩
    | own d =>
      obtain ⟨a, h1, h2, h3, h4⟩ := hR.own i d e
      exact ⟨_, h1, After.here h hR _ (.inr ⟨a, rfl, h4, h2⟩)⟩
    | _ => exact False.elim h
theorem tD_pure {d : PyData} {σ : St} {H : Hp} {Q : VK} (h : tD W IsF (fun _ => Mn.pure d) σ H Q) : ∀ v, (∀ M H, Is M H v d) → Q v H := by
  obtain ⟨La, M0, M, ρ, S, hR, h⟩ := tD_iff.mp h
  exact fun v hv => After.here h hR v (hv _ _)
theorem se_int {i j} : SE X W (.Constant (.int i) j pos) fun _ => Mn.pure (.int i) := PE.imp pe_int fun _ _ _ h => tD_pure h _ fun _ _ => .int i
theorem se_bl {i j} : SE X W (.Constant (.bool i) j pos) fun _ => Mn.pure (.bool i) := PE.imp pe_bl fun _ _ _ h => tD_pure h _ fun _ _ => .bl i
theorem se_non {j} : SE X W (.Constant .none j pos) fun _ => Mn.pure .none := PE.imp pe_non fun _ _ _ h => tD_pure h _ fun _ _ => .non
theorem se_str {i j} : SE X W (.Constant (.str i) j pos) fun _ => Mn.pure (.str i) := PE.imp pe_str fun _ _ _ h => tD_pure h _ fun _ _ => .str i

theorem tD_two {g : PyData → PyData → Option PyData} {σ : St} {H : Hp} {Q : VK} (h : tD W IsF (fun ρ => Mn.bind (fa ρ) fun x => Mn.bind (fb ρ) fun y => ofOpt (g x y)) σ H Q) : tOp (rD2 g) (tD W IsO fa) (tD W IsO fb) σ H Q := by
  obtain ⟨La, M0, M, ρ, S, R, h⟩ := tD_iff.mp h
  refine tD_iff.mpr ⟨La, M0, M, ρ, S, R, h.bind.mono fun dx La1 M1 H1 S1 s1 R1 q x hx => ?_⟩
  refine tD_iff.mpr ⟨La1, M0, M1, ρ, S1, R1, q.bind.mono fun dy La2 M2 H2 S2 s2 R2 q2 y hy => ?_⟩
  cases e : g dx dy with
  | none => rw [e] at q2; exact q2.elim
  | some d =>
    rw [e] at q2
    exact ⟨M2, dx, dy, d, R2.dom, (hx.mono s2 R1.dom).b, hy.b, e, fun v H' gr hv => let ⟨s3, R3⟩ := gr.stepE R2; q2 La2 M2 H' s3 R3 v hv⟩
theorem se_bin (o : Bop) (ha : SO X W a fa) (hb : SO X W b fb) : SE X W (.BinOp a (bopP o) b pos) fun ρ => Mn.bind (fa ρ) fun x => Mn.bind (fb ρ) fun y => ofOpt (binD o x y) :=
  PE.imp (pe_op (op_binD o) ha hb) fun _ _ _ h => tD_two h
theorem tD_twob {g : PyData → PyData → Option Bool} {σ : St} {H : Hp} {Q : VK} (h : tD W IsF (fun ρ => Mn.bind (fa ρ) fun x => Mn.bind (fb ρ) fun y => Mn.bind (ofOpt (g x y)) fun k => Mn.pure (.bool k)) σ H Q) : tOp (rD2b g) (tD W IsO fa) (tD W IsO fb) σ H Q := by
  obtain ⟨La, M0, M, ρ, S, R, h⟩ := tD_iff.mp h
  refine tD_iff.mpr ⟨La, M0, M, ρ, S, R, h.bind.mono fun dx La1 M1 H1 S1 s1 R1 q x hx => ?_⟩
  refine tD_iff.mpr ⟨La1, M0, M1, ρ, S1, R1, q.bind.mono fun dy La2 M2 H2 S2 s2 R2 q2 y hy => ?_⟩
  cases e : g dx dy with
  | none => rw [e] at q2; exact q2.elim
  | some d =>
    rw [e] at q2
    exact ⟨M2, dx, dy, d, (hx.mono s2 R1.dom).b, hy.b, e, After.here (a := PyData.bool d) q2 R2 _ (.bl d)⟩
theorem se_cmp (o : Cop) (hu : X.A.units + 65 < cLine) (ha : SO X W a fa) (hb : SO X W b fb) (hm : behindInMarks (copP o) b = false) :
    SE X W (.Compare a [copP o] [b] pos) fun ρ => Mn.bind (fa ρ) fun x => Mn.bind (fb ρ) fun y => Mn.bind (ofOpt (cmpD o x y)) fun k => Mn.pure (.bool k) :=
  PE.imp (pe_cmpR (op_cmpD hu o) ha hb hm) fun _ _ _ h => tD_twob h

theorem truV_of {K : PySem.W.Frag} {M : Addr → Prop} {H : Hp} {x : V} {d : PyData} {k : Bool} (h : IsB M H x d) (e : truD d = some k) : TruV K x H k := by
  cases d with
  | none => rw [h.none]; cases e; rfl
  | bool b => rw [h.bool]; cases e; rfl
  | int b => rw [h.int]; cases e; rfl
  | str b =>
    rw [h.str]
    simp only [truD] at e
    split at e
    · rename_i hl; cases e; exact ⟨hl, rfl⟩
    · cases e
  | list b =>
    obtain ⟨a, xs, rfl, ha, hxs⟩ := h.list
    cases e
    exact .inl ⟨xs, .inl ha, by cases hxs <;> rfl⟩
  | tuple b =>
    obtain ⟨a, xs, rfl, _, ha, hxs⟩ := h.tup
    cases e
    exact .inr (.inl ⟨xs, .inl ha, by cases hxs <;> rfl⟩)
  | dict b => cases e

theorem se_not (ha : SO X W a fa) : SE X W (.UnaryOp .Not a pos) fun ρ => Mn.bind (fa ρ) fun x => Mn.bind (ofOpt (truD x)) fun k => Mn.pure (.bool (!k)) := by
  refine PE.imp (pe_notT ha) fun σ H Q h => ?_
  obtain ⟨La, M0, M, ρ, S, R, h⟩ := tD_iff.mp h
  refine tD_iff.mpr ⟨La, M0, M, ρ, S, R, h.bind.mono fun dx La1 M1 H1 S1 s1 R1 q x hx => ?_⟩
  cases e : truD dx with
  | none => rw [e] at q; exact q.elim
  | some k =>
    rw [e] at q
    exact ⟨k, truV_of hx.b e, After.here (a := PyData.bool (!k)) q R1 _ (.bl _)⟩
theorem se_neg (ha : SO X W a fa) : SE X W (.UnaryOp .USub a pos) fun ρ => Mn.bind (fa ρ) fun d => match d with | .int i => Mn.pure (.int (-i)) | _ => Mn.stuck := by
  refine PE.imp (pe_un un_neg ha) fun σ H Q h => ?_
  obtain ⟨La, M0, M, ρ, S, R, h⟩ := tD_iff.mp h
  refine tD_iff.mpr ⟨La, M0, M, ρ, S, R, h.bind.mono fun dx La1 M1 H1 S1 s1 R1 q x hx => ?_⟩
  cases dx with
  | int i => exact ⟨i, hx.b.int, After.here (a := PyData.int (-i)) q R1 _ (.int _)⟩
  | _ => exact q.elim
theorem se_and {rest : List Expr} (ha : SE X W a fa) (hb : SE X W (.BoolOp .And (b :: rest) pos) fb) :
    SE X W (.BoolOp .And (a :: b :: rest) pos) fun ρ => Mn.bind (fa ρ) fun x => match x with | .bool true => fb ρ | .bool false => Mn.pure (.bool false) | _ => Mn.stuck := by
  refine PE.imp (pe_and ha hb) fun σ H Q h => ?_
  obtain ⟨La, M0, M, ρ, S, R, h⟩ := tD_iff.mp h
  refine tD_iff.mpr ⟨La, M0, M, ρ, S, R, h.bind.mono fun dx La1 M1 H1 S1 s1 R1 q x hx => ?_⟩
  cases dx with
  | bool i =>
    refine ⟨i, (IsB.of hx).bool, ?_⟩
    cases i with
    | true => exact tD_iff.mpr ⟨La1, M0, M1, ρ, S1, R1, q⟩
    | false => exact After.here (a := PyData.bool false) q R1 _ (.bl _)
  | _ => exact q.elim
theorem se_or {rest : List Expr} (ha : SE X W a fa) (hb : SE X W (.BoolOp .Or (b :: rest) pos) fb) :
    SE X W (.BoolOp .Or (a :: b :: rest) pos) fun ρ => Mn.bind (fa ρ) fun x => match x with | .bool true => Mn.pure (.bool true) | .bool false => fb ρ | _ => Mn.stuck := by
  refine PE.imp (pe_or ha hb) fun σ H Q h => ?_
  obtain ⟨La, M0, M, ρ, S, R, h⟩ := tD_iff.mp h
  refine tD_iff.mpr ⟨La, M0, M, ρ, S, R, h.bind.mono fun dx La1 M1 H1 S1 s1 R1 q x hx => ?_⟩
  cases dx with
  | bool i =>
    refine ⟨i, (IsB.of hx).bool, ?_⟩
    cases i with
    | false => exact tD_iff.mpr ⟨La1, M0, M1, ρ, S1, R1, q⟩
    | true => exact After.here (a := PyData.bool true) q R1 _ (.bl _)
  | _ => exact q.elim
theorem se_orv {rest : List Expr} (ha : SE X W a fa) (hb : SE X W (.BoolOp .Or (b :: rest) pos) fb) :
    SE X W (.BoolOp .Or (a :: b :: rest) pos) fun ρ => Mn.bind (fa ρ) fun x => Mn.bind (ofOpt (truD x)) fun k => if k then Mn.pure x else fb ρ := by
  refine PE.imp (pe_orT ha hb) fun σ H Q h => ?_
  obtain ⟨La, M0, M, ρ, S, R, h⟩ := tD_iff.mp h
  refine tD_iff.mpr ⟨La, M0, M, ρ, S, R, h.bind.mono fun dx La1 M1 H1 S1 s1 R1 q x hx => ?_⟩
  cases e : truD dx with
  | none => rw [e] at q; exact q.elim
  | some k =>
    rw [e] at q
    refine ⟨k, truV_of (.of hx) e, ?_⟩
    cases k with
    | true => exact After.here (a := dx) q R1 _ hx
    | false => exact tD_iff.mpr ⟨La1, M0, M1, ρ, S1, R1, q⟩
theorem se_one {op : BoolOp} (ha : SE X W a fa) : SE X W (.BoolOp op [a] pos) fa := pe_one ha

/-! ### tests -/
variable {ta tb : Env → Mn Bool}
theorem st_truth (ha : SO X W a fa) (he : ∀ whole, isTrue a X.env whole = (do let v ← whole; standAt a.pos; holding [v] (truthy v))) : ST X W a fun ρ => Mn.bind (fa ρ) fun x => ofOpt (truD x) := by
  refine PT.imp (pt_truth ha he) fun σ H Q h => ?_
  obtain ⟨La, M0, M, ρ, S, R, h⟩ := tDT_iff.mp h
  refine tD_iff.mpr ⟨La, M0, M, ρ, S, R, h.bind.mono fun dx La1 M1 H1 S1 s1 R1 q x hx => ?_⟩
  cases e : truD dx with
  | none => rw [e] at q; exact q.elim
  | some k =>
    rw [e] at q
    exact ⟨k, truV_of hx.b e, After.here (a := k) q R1⟩
/-- a bool that was compared -/
theorem st_of_bool {g : Env → Mn Bool} {t : TE} (hp : PT X a (tTest t)) (ht : ∀ σ H Q, tD W IsF (fun ρ => Mn.bind (g ρ) fun k => Mn.pure (.bool k)) σ H Q → t σ H Q) :
    ST X W a fun ρ => Mn.bind (Mn.bind (g ρ) fun k => Mn.pure (PyData.bool k)) fun x => ofOpt (truD x) := by
  refine PT.imp hp fun σ H Q h => ht _ _ _ ?_
  obtain ⟨La, M0, M, ρ, S, R, h⟩ := tDT_iff.mp h
  refine tD_iff.mpr ⟨La, M0, M, ρ, S, R, ?_⟩
  have h2 := h.bind
  simp only [Mn.bind] at h2 ⊢
  cases e : g ρ S with
  | ok k S1 =>
    rw [e] at h2
    exact fun La' M' H' s R' v hv => ⟨k, (IsB.of hv).bool, After.here (a := k) (h2 La' M' H' s R') R'⟩
  | exc c S1 => rw [e] at h2; exact h2
  | stuck => rw [e] at h2; exact h2
theorem st_and {rest : List Expr} (ha : ST X W a ta) (hb : PW X (.BoolOp .And (b :: rest) pos) (tDT W tb)) : PW X (.BoolOp .And (a :: b :: rest) pos) (tDT W fun ρ => Mn.bind (ta ρ) fun k => if k then tb ρ else Mn.pure false) := by
  refine ⟨fun wh pins s σ H Q I h => (pw_and ha hb).run wh pins s σ H Q I ?_⟩
  obtain ⟨La, M0, M, ρ, S, R, h⟩ := tDT_iff.mp h
  refine tDT_iff.mpr ⟨La, M0, M, ρ, S, R, h.bind.mono fun k La1 M1 H1 S1 s1 R1 q => ?_⟩
  cases k with
  | true => exact tDT_iff.mpr ⟨La1, M0, M1, ρ, S1, R1, q⟩
  | false => exact After.here (a := false) q R1
theorem st_or {rest : List Expr} (ha : ST X W a ta) (hb : PW X (.BoolOp .Or (b :: rest) pos) (tDT W tb)) : PW X (.BoolOp .Or (a :: b :: rest) pos) (tDT W fun ρ => Mn.bind (ta ρ) fun k => if k then Mn.pure true else tb ρ) := by
  refine ⟨fun wh pins s σ H Q I h => (pw_or ha hb).run wh pins s σ H Q I ?_⟩
  obtain ⟨La, M0, M, ρ, S, R, h⟩ := tDT_iff.mp h
  refine tDT_iff.mpr ⟨La, M0, M, ρ, S, R, h.bind.mono fun k La1 M1 H1 S1 s1 R1 q => ?_⟩
  cases k with
  | false => exact tDT_iff.mpr ⟨La1, M0, M1, ρ, S1, R1, q⟩
  | true => exact After.here (a := true) q R1
theorem st_and1 (ha : ST X W a ta) : PW X (.BoolOp .And [a] pos) (tDT W ta) := pw_and1 ha
theorem st_or1 (ha : ST X W a ta) : PW X (.BoolOp .Or [a] pos) (tDT W ta) := pw_or1 ha
theorem st_not (ha : ST X W a ta) : ST X W (.UnaryOp .Not a pos) fun ρ => Mn.bind (ta ρ) fun k => Mn.pure (!k) := by
  refine PT.imp (pt_not ha) fun σ H Q h => ?_
  obtain ⟨La, M0, M, ρ, S, R, h⟩ := tDT_iff.mp h
  exact tDT_iff.mpr ⟨La, M0, M, ρ, S, R, h.bind.mono fun k La1 M1 H1 S1 s1 R1 q => After.here (a := !k) q R1⟩
theorem se_ite (hc : ST X W c ta) (ha : SE X W a fa) (hb : SE X W b fb) : SE X W (.IfExp c a b pos) fun ρ => Mn.bind (ta ρ) fun k => if k then fa ρ else fb ρ := by
  refine PE.imp (pe_ifExp hc ha hb) fun σ H Q h => ?_
  obtain ⟨La, M0, M, ρ, S, R, h⟩ := tD_iff.mp h
  refine tDT_iff.mpr ⟨La, M0, M, ρ, S, R, h.bind.mono fun k La1 M1 H1 S1 s1 R1 q => ?_⟩
  cases k with
  | true => exact tD_iff.mpr ⟨La1, M0, M1, ρ, S1, R1, q⟩
  | false => exact tD_iff.mpr ⟨La1, M0, M1, ρ, S1, R1, q⟩
/-- a chain as a value -/
theorem tD_chain {g g' : PyData → PyData → Option Bool} {σ : St} {H : Hp} {Q : VK} (h : tD W IsF (fun ρ => Mn.bind (fa ρ) fun x => Mn.bind (fb ρ) fun y => Mn.bind (ofOpt (g x y)) fun k =>
      if k then Mn.bind (fc ρ) fun z => Mn.bind (ofOpt (g' y z)) fun l => Mn.pure (.bool l) else Mn.pure (.bool false)) σ H Q) : tChain (rD2b g) (rD2b g') (tD W IsO fa) (tD W IsO fb) (tD W IsO fc) σ H Q := by
  obtain ⟨La, M0, M, ρ, S, R, h⟩ := tD_iff.mp h
  refine tD_iff.mpr ⟨La, M0, M, ρ, S, R, h.bind.mono fun dx La1 M1 H1 S1 s1 R1 q x hx => ?_⟩
  refine tD_iff.mpr ⟨La1, M0, M1, ρ, S1, R1, q.bind.mono fun dy La2 M2 H2 S2 s2 R2 q2 y hy => ?_⟩
  cases e : g dx dy with
  | none => rw [e] at q2; exact q2.elim
  | some k =>
    rw [e] at q2
    refine ⟨M2, dx, dy, k, (hx.mono s2 R1.dom).b, hy.b, e, k, rfl, ?_⟩
    cases k with
    | false => exact After.here (a := PyData.bool false) q2 R2 _ (.bl _)
    | true =>
      refine tD_iff.mpr ⟨La2, M0, M2, ρ, S2, R2, (After.bind (m := fc ρ) q2).mono fun dz La3 M3 H3 S3 s3 R3 q3 z hz => ?_⟩
      cases e' : g' dy dz with
      | none => rw [e'] at q3; exact q3.elim
      | some l =>
        rw [e'] at q3
        exact ⟨M3, dy, dz, l, (hy.mono s3 R2.dom).b, hz.b, e', After.here (a := PyData.bool l) q3 R3 _ (.bl l)⟩
theorem se_chain (o p : Cop) (hu : X.A.units + 65 < cLine) (ha : SO X W a fa) (hb : SO X W b fb) (hc : SO X W c fc) (hm : lastMarks [copP o, copP p] [b, c] = false) :
    SE X W (.Compare a [copP o, copP p] [b, c] pos) fun ρ => Mn.bind (fa ρ) fun x => Mn.bind (fb ρ) fun y => Mn.bind (ofOpt (cmpD o x y)) fun k =>
      if k then Mn.bind (fc ρ) fun z => Mn.bind (ofOpt (cmpD p y z)) fun l => Mn.pure (.bool l) else Mn.pure (.bool false) :=
  PE.imp (pe_chain (op_cmpD hu o) (op_cmpD hu p) ha hb hc hm) fun _ _ _ h => tD_chain h
theorem mn_assoc {α β γ : Type} (m : Mn α) (f : α → Mn β) (g : β → Mn γ) : Mn.bind (Mn.bind m f) g = Mn.bind m fun x => Mn.bind (f x) g := by
  funext S
  unfold Mn.bind
  cases m S <;> rfl
theorem mn_pure_bind {α β : Type} (x : α) (f : α → Mn β) : Mn.bind (Mn.pure x) f = f x := rfl
theorem st_cmp (o : Cop) (hu : X.A.units + 65 < cLine) (ha : SO X W a fa) (hb : SO X W b fb) (hm : behindInMarks (copP o) b = false) :
    ST X W (.Compare a [copP o] [b] pos) fun ρ => Mn.bind (Mn.bind (fa ρ) fun x => Mn.bind (fb ρ) fun y => Mn.bind (ofOpt (cmpD o x y)) fun k => Mn.pure (.bool k)) fun x => ofOpt (truD x) := by
  have h := st_of_bool (W := W) (g := fun ρ => Mn.bind (fa ρ) fun x => Mn.bind (fb ρ) fun y => ofOpt (cmpD o x y)) (pt_cmpR (op_cmpD hu o) ha hb hm (pos := pos)) fun σ H Q q => tD_twob (by simpa only [mn_assoc] using q)
  simpa only [mn_assoc] using h
theorem st_chain (o p : Cop) (hu : X.A.units + 65 < cLine) (ha : SO X W a fa) (hb : SO X W b fb) (hc : SO X W c fc) (hm : lastMarks [copP o, copP p] [b, c] = false) :
    ST X W (.Compare a [copP o, copP p] [b, c] pos) fun ρ => Mn.bind (Mn.bind (fa ρ) fun x => Mn.bind (fb ρ) fun y => Mn.bind (ofOpt (cmpD o x y)) fun k =>
      if k then Mn.bind (fc ρ) fun z => Mn.bind (ofOpt (cmpD p y z)) fun l => Mn.pure (PyData.bool l) else Mn.pure (PyData.bool false)) fun x => ofOpt (truD x) := by
  have key : ∀ ρ, (Mn.bind (fa ρ) fun x => Mn.bind (fb ρ) fun y => Mn.bind (ofOpt (cmpD o x y)) fun k =>
      if k then Mn.bind (fc ρ) fun z => Mn.bind (ofOpt (cmpD p y z)) fun l => Mn.pure (PyData.bool l) else Mn.pure (PyData.bool false)) =
      Mn.bind (Mn.bind (fa ρ) fun x => Mn.bind (fb ρ) fun y => Mn.bind (ofOpt (cmpD o x y)) fun k => if k then Mn.bind (fc ρ) fun z => ofOpt (cmpD p y z) else Mn.pure false) fun k => Mn.pure (PyData.bool k) := fun ρ => by
    simp only [mn_assoc]
    congr 1; funext x; congr 1; funext y; congr 1; funext k
    cases k
    · rfl
    · simp only [if_true, mn_assoc]
  have h := st_of_bool (W := W) (g := fun ρ => Mn.bind (fa ρ) fun x => Mn.bind (fb ρ) fun y => Mn.bind (ofOpt (cmpD o x y)) fun k => if k then Mn.bind (fc ρ) fun z => ofOpt (cmpD p y z) else Mn.pure false)
    (pt_chain (op_cmpD hu o) (op_cmpD hu p) ha hb hc hm (pos := pos)) fun σ H Q q => tD_chain (by simp only [key]; exact q)
  simp only [key]
  exact h
end
end L2.DL

set_option maxHeartbeats 1000000
/-! The data layer, sixth part: displays, subscripts, calls. -/
namespace L2.DL
open PySem PySem.Spec PyProof.Rows L2

/-- the nodes that are read here -/
def pln : Expr → Bool
  | .Name .. => true
  | .Constant .. => true
  | .BinOp .. => true
  | .UnaryOp .. => true
  | .BoolOp .. => true
  | .Compare .. => true
  | .Call .. => true
  | .Subscript .. => true
  | .IfExp .. => true
  | .Tuple .. => true
  | .List .. => true
  | .ListComp .. => true
  | .Dict .. => true
  | _ => false
theorem pln_star {e : Expr} {es : List Expr} {env : PySem.Env} (h : pln e = true) : starEach (e :: es) env = (false, eval e env) :: starEach es env := by
  cases e <;> first | rfl | cases h
theorem pln_ix {b : Expr} (h : pln b = true) : PlainIx b := by
  intro o i
  cases b <;> first | rfl | cases h
theorem pln_back {pos : Pos} {env : PySem.Env} : ∀ {es : List Expr}, es.all pln = true → (backTo pos (starEach es env)).any (·.1) = false
  | [], _ => rfl
  | e :: es, h => by
    simp only [List.all_cons, Bool.and_eq_true] at h
    rw [pln_star h.1]
    show (false || (backTo pos (starEach es env)).any (·.1)) = false
    rw [pln_back h.2]
    rfl
theorem pln_all {pos : Pos} {env : PySem.Env} : ∀ {es : List Expr}, es.all pln = true → (backTo pos (starEach es env)).all (fun x => !x.1) = true
  | [], _ => rfl
  | e :: es, h => by
    simp only [List.all_cons, Bool.and_eq_true] at h
    rw [pln_star h.1]
    show (!false && (backTo pos (starEach es env)).all (fun x => !x.1)) = true
    rw [pln_all h.2]
    rfl

section
variable {X : Cx} {W : WN} {e a b c : Expr} {es : List Expr} {fa fb fc : Env → Mn PyData} {fs : Env → Mn (List PyData)} {pos : Pos}
theorem sa_nil : SA X W [] fun _ => Mn.pure [] := by
  refine PA.imp pa_nil fun σ H Q h => ?_
  obtain ⟨La, M0, M, ρ, S, R, h⟩ := tDA_iff.mp h
  exact After.here (a := ([] : List PyData)) h R _ .nil
theorem Paired.mono2 {α β : Type} {F G : α → β → Prop} : ∀ {l : List α} {m : List β}, Paired F l m → (∀ a b, F a b → G a b) → Paired G l m
  | _, _, .nil, _ => .nil
  | _, _, .cons r t, f => .cons (f _ _ r) (mono2 t f)
theorem sa_cons (ha : SE X W e fa) (hs : SA X W es fs) (hp : pln e = true) : SA X W (e :: es) fun ρ => Mn.bind (fa ρ) fun d => Mn.bind (fs ρ) fun ds => Mn.pure (d :: ds) := by
  refine PA.imp (pa_cons ha hs (pln_star hp)) fun σ H Q h => ?_
  obtain ⟨La, M0, M, ρ, S, R, h⟩ := tDA_iff.mp h
  refine tD_iff.mpr ⟨La, M0, M, ρ, S, R, h.bind.mono fun d La1 M1 H1 S1 s1 R1 q x hx => ?_⟩
  refine tDA_iff.mpr ⟨La1, M0, M1, ρ, S1, R1, q.bind.mono fun ds La2 M2 H2 S2 s2 R2 q2 xs hxs => ?_⟩
  exact After.here (a := d :: ds) q2 R2 _ (.cons (hx.mono s2.toStep) hxs)
/-- one argument, perhaps an own one -/
theorem so_one {r : List V → Hp → VK → Prop} {g : PyData → Option PyData} (ha : SO X W a fa) (hp : pln a = true) (hr : ∀ xs H Q, rD1 g xs H Q → r xs H Q) {e' : Expr} (he : ∀ t : TA, PA X [a] t → PE X e' (tCB r t)) :
    SE X W e' fun ρ => Mn.bind (fa ρ) fun x => ofOpt (g x) := by
  refine PE.imp (he _ (pa_cons ha pa_nil (pln_star hp))) fun σ H Q h => ?_
  obtain ⟨La, M0, M, ρ, S, R, h⟩ := tD_iff.mp h
  refine tD_iff.mpr ⟨La, M0, M, ρ, S, R, h.bind.mono fun dx La1 M1 H1 S1 s1 R1 q x hx => ?_⟩
  refine hr _ _ _ ?_
  cases w : g dx with
  | none => rw [w] at q; exact q.elim
  | some d =>
    rw [w] at q
    exact ⟨M1, x, dx, d, rfl, R1.dom, hx.b, w, fun v H' gr hv => let ⟨s3, R3⟩ := gr.stepE R1; q La1 M1 H' s3 R3 v hv⟩
theorem se_callB1 {id : String} {g : PyData → Option PyData} {x : Str} {p : Pos} (hc : CallR X (.builtin id) (rD1 g)) (hg : Gl X x) (hm : X.mg x = none) (hv : bootBuiltins x = some (.builtin id)) (ha : SO X W a fa) (hp : pln a = true) (hn : x ≠ "__name__") (hdb : (x == ("__debug__" : Str)) = false) :
    SE X W (.Call (.Name x p) [a] [] pos) fun ρ => Mn.bind (fa ρ) fun x => ofOpt (g x) :=
  so_one ha hp (fun _ _ _ h => h) fun t ht => pe_callB hc hg hm hv ht hn hdb (pln_star hp) (pln_back (es := []) rfl)
theorem se_callT1 {T : String} {g : PyData → Option PyData} {x : Str} {p : Pos} (hc : CallR X (.type T) (rD1 g)) (hg : Gl X x) (hm : X.mg x = none) (hv : bootBuiltins x = some (.type T)) (ha : SO X W a fa) (hp : pln a = true) (hn : x ≠ "__name__") (hdb : (x == ("__debug__" : Str)) = false) :
    SE X W (.Call (.Name x p) [a] [] pos) fun ρ => Mn.bind (fa ρ) fun x => ofOpt (g x) :=
  so_one ha hp (fun _ _ _ h => h) fun t ht => pe_callTy hc hg hm hv ht hn hdb (pln_star hp) (pln_back (es := []) rfl)
/-- two arguments -/
theorem se_callB2 {id : String} {g : PyData → PyData → Option PyData} {x : Str} {p : Pos} (hc : CallR X (.builtin id) (fun xs H Q => ∃ x y, xs = [x, y] ∧ rD2 g x y H Q)) (hg : Gl X x) (hm : X.mg x = none) (hv : bootBuiltins x = some (.builtin id))
    (ha : SO X W a fa) (hb : SO X W b fb) (hp : pln a = true) (hp2 : pln b = true) (hn : x ≠ "__name__") (hdb : (x == ("__debug__" : Str)) = false) :
    SE X W (.Call (.Name x p) [a, b] [] pos) fun ρ => Mn.bind (fa ρ) fun x => Mn.bind (fb ρ) fun y => ofOpt (g x y) := by
  refine PE.imp (pe_callB hc hg hm hv (pa_cons ha (pa_cons hb pa_nil (pln_star hp2)) (pln_star hp)) hn hdb (pln_star hp) (pln_back (es := [b]) (by simp [hp2]))) fun σ H Q h => ?_
  obtain ⟨La, M0, M, ρ, S, R, h⟩ := tD_iff.mp h
  refine tD_iff.mpr ⟨La, M0, M, ρ, S, R, h.bind.mono fun dx La1 M1 H1 S1 s1 R1 q x hx => ?_⟩
  refine tD_iff.mpr ⟨La1, M0, M1, ρ, S1, R1, q.bind.mono fun dy La2 M2 H2 S2 s2 R2 q2 y hy => ?_⟩
  refine ⟨x, y, rfl, ?_⟩
  cases e : g dx dy with
  | none => rw [e] at q2; exact q2.elim
  | some d =>
    rw [e] at q2
    exact ⟨M2, dx, dy, d, R2.dom, (hx.mono s2 R1.dom).b, hy.b, e, fun v H' gr hv => let ⟨s3, R3⟩ := gr.stepE R2; q2 La2 M2 H' s3 R3 v hv⟩

/-! ### displays -/
theorem se_tup {k : Nat} (hs : SA X W es fs) (hl : es.length ≤ 1000) (hlen : ∀ ρ S ds S', fs ρ S = .ok ds S' → ds.length = es.length) : SE X W (.Tuple es k pos) fun ρ => Mn.bind (fs ρ) fun ds => Mn.pure (.tuple ds) := by
  refine PE.imp (pe_tup hs) fun σ H Q h => ?_
  obtain ⟨La, M0, M, ρ, S, R, h⟩ := tD_iff.mp h
  have hb := h.bind
  refine tDA_iff.mpr ⟨La, M0, M, ρ, S, R, ?_⟩
  cases w : fs ρ S with
  | ok ds S1 =>
    rw [w] at hb
    intro La' M' H' s R' xs hxs
    have hal := IsAll.of_paired hxs
    refine ⟨?_, fun p hp => ?_⟩
    · rw [hal.length, hlen _ _ _ _ w]
      exact Nat.le_trans hl (by rw [sizeLine_eq]; decide)
    · exact hb La' M' H' s R' La' M' _ (StepE.new R'.laM hp) (R'.new hp) _ (is_new_tup R'.dom hp hal)
  | exc c S1 => rw [w] at hb; exact hb
  | stuck => rw [w] at hb; exact hb
end
/-! ### new lists -/
section
variable {M M' : Addr → Prop} {H : Hp}
mutual
theorem Is.anti (s : ∀ a, M' a → M a) : ∀ {v : V} {d : PyData}, Is M H v d → Is M' H v d
  | _, _, .non => .non
  | _, _, .bl b => .bl b
  | _, _, .int i => .int i
  | _, _, .str x => .str x
  | _, _, .lst hm hr ha => .lst (fun z => hm (s _ z)) hr (IsAll.anti s ha)
  | _, _, .tup hm hr ha => .tup (fun z => hm (s _ z)) hr (IsAll.anti s ha)
  | _, _, .dic hm hr ha => .dic (fun z => hm (s _ z)) hr (IsKv.anti s ha)
theorem IsAll.anti (s : ∀ a, M' a → M a) : ∀ {v : List V} {d : List PyData}, IsAll M H v d → IsAll M' H v d
  | _, _, .nil => .nil
  | _, _, .cons h t => .cons (Is.anti s h) (IsAll.anti s t)
theorem IsKv.anti (s : ∀ a, M' a → M a) : ∀ {v : List (L2.Key × V)} {d : List (PyData × PyData)}, IsKv M H v d → IsKv M' H v d
  | _, _, .nil => .nil
  | _, _, .cons h t => .cons (Is.anti s h) (IsKv.anti s t)
end
/-- an own one becomes data -/
theorem OwnAt.freeze {a : Addr} {d : PyData} (h : OwnAt M H a d) (s : ∀ b, M' b → M b) (hn : ¬ M' a) : Is M' H (.ref a) d := by
  obtain ⟨_, ⟨xs, ds, rfl, h1, h2⟩ | ⟨xs, ds, rfl, h1, h2⟩⟩ := h
  · exact .lst hn (.inl h1) (h2.anti s)
  · exact .dic hn (.inl h1) (h2.anti s)
theorem OwnAt.anti {a : Addr} {d : PyData} (h : OwnAt M H a d) (s : ∀ b, M' b → M b) (hn : M' a) : OwnAt M' H a d := by
  obtain ⟨_, ⟨xs, ds, rfl, h1, h2⟩ | ⟨xs, ds, rfl, h1, h2⟩⟩ := h
  · exact ⟨hn, .inl ⟨xs, ds, rfl, h1, h2.anti s⟩⟩
  · exact ⟨hn, .inr ⟨xs, ds, rfl, h1, h2.anti s⟩⟩
end
/-- one address less that may change -/
abbrev less (M : Addr → Prop) (a : Addr) : Addr → Prop := fun b => M b ∧ b ≠ a
theorem RelF.drop {La : List Addr} {M0 M : Addr → Prop} {H : Hp} {σ : St} {ρ : Env} {S : Store} (R : RelF La M0 M H σ ρ S) {a : Addr} (hL : a ∉ La) (h0 : ¬ M0 a)
    (ho : ∀ (i : Nat) (e : PyData), ρ[i]? = some (.own e) → σ[i]? ≠ some (some (.ref a))) : RelF La M0 (less M a) H σ ρ S where
  len := R.len
  val := fun i d e => let ⟨v, h1, h2⟩ := R.val i d e; ⟨v, h1, h2.anti fun _ h => h.1⟩
  own := fun i d e => by
    obtain ⟨b, h1, h2, h3, h4⟩ := R.own i d e
    refine ⟨b, h1, h2.anti (fun _ h => h.1) ⟨h2.1, fun z => ho i d e (by rw [h1, z])⟩, h3, h4⟩
  ref := R.ref
  dist := R.dist
  sub := fun b h => ⟨R.sub b h, fun z => h0 (z ▸ h)⟩
  dom := fun b h => R.dom b h.1
  laM := fun b h => ⟨R.laM b h, fun z => hL (z ▸ h)⟩
  nd := R.nd
  szs := R.szs
  cells := fun n b ds h1 h2 => let ⟨xs, h3, h4⟩ := R.cells n b ds h1 h2; ⟨xs, h3, h4.anti fun _ h => h.1⟩
/-- a reading of an expression that makes a new list or dict: it stands at an address that was free ahead of it -/
def tDN (W : WN) (f : Env → Mn PyData) : TE := fun σ H Q => ∃ La M0 M ρ S, RelF La M0 M H σ ρ S ∧
  After W La M0 M H σ ρ (f ρ S) fun d La' M' H' S' => ∀ a, H a = none → a ∉ La' → OwnAt M' H' a d → Q (.ref a) H'
abbrev SN (X : Cx) (W : WN) (e : Expr) (f : Env → Mn PyData) : Prop := PE X e (tDN W f)
section
variable {X : Cx} {W : WN} {e a b c : Expr} {es : List Expr} {fa fb fc : Env → Mn PyData} {fs : Env → Mn (List PyData)} {pos : Pos}
theorem sn_e (h : SN X W a fa) : SE X W a fa := by
  refine PE.imp h fun σ H Q h => ?_
  obtain ⟨La, M0, M, ρ, S, R, h⟩ := tD_iff.mp h
  refine ⟨La, M0, M, ρ, S, R, ?_⟩
  cases w : fa ρ S with
  | exc c S' => rw [w] at h; exact h
  | stuck => rw [w] at h; exact h
  | ok d S' =>
    rw [w] at h
    intro La' M' H' s R' p hp hL ho
    have nM : ¬ M p := fun z => R.dom p z hp
    have nO : ∀ (i : Nat) (e : PyData), ρ[i]? = some (.own e) → σ[i]? ≠ some (some (.ref p)) := fun i e h1 h2 => by
      obtain ⟨b, h3, h4, _⟩ := R.own i e h1
      rw [h3] at h2; cases h2
      exact nM h4.1
    have s' : StepE La La' M (less M' p) H H' :=
      { s with
        mon := fun b z => s.mon b z.1
        up := fun b z => ⟨s.up b z, fun q => nM (q ▸ z)⟩ }
    exact h La' (less M' p) H' s' (R'.drop hL (fun z => nM (R.sub p z)) nO) _ (ho.freeze (fun _ h => h.1) fun z => z.2 rfl)
theorem sn_lst (hs : SA X W es fs) (hl : es.length ≤ 1000) (hlen : ∀ ρ S ds S', fs ρ S = .ok ds S' → ds.length = es.length) : SN X W (.List es pos) fun ρ => Mn.bind (fs ρ) fun ds => Mn.pure (.list ds) := by
  refine PE.imp (pe_lst hs) fun σ H Q h => ?_
  obtain ⟨La, M0, M, ρ, S, R, h⟩ := h
  have hb := h.bind
  refine tDA_iff.mpr ⟨La, M0, M, ρ, S, R, ?_⟩
  cases w : fs ρ S with
  | ok ds S1 =>
    rw [w] at hb
    intro La' M' H' s R' xs hxs
    have hal := IsAll.of_paired hxs
    refine ⟨?_, fun p hp => ?_⟩
    · rw [hal.length, hlen _ _ _ _ w]
      exact Nat.le_trans hl (by rw [sizeLine_eq]; decide)
    · refine hb La' M' H' s R' La' _ _ (StepE.newM R'.laM hp) (R'.newM hp) p ?_ (fun z => R'.dom p (R'.laM p z) hp) ⟨.inr rfl, .inl ⟨xs, ds, rfl, upd_same, hal.mono (StepE.newM R'.laM hp).toStep⟩⟩
      cases z : H p with
      | none => rfl
      | some o => exact absurd hp (s.there p (by rw [z]; exact nofun))
  | exc c S1 => rw [w] at hb; exact hb
  | stuck => rw [w] at hb; exact hb
/-- list(x) as a new list -/
theorem sn_list {x : Str} {p : Pos} (hx : x = "list") (hg : Gl X x) (hm : X.mg x = none) (hv : bootBuiltins x = some (.type "list")) (ha : SO X W a fa) (hp : pln a = true) (hn : x ≠ "__name__") (hdb : (x == ("__debug__" : Str)) = false) :
    SN X W (.Call (.Name x p) [a] [] pos) fun ρ => Mn.bind (fa ρ) fun x => ofOpt (listD x) := by
  refine PE.imp (pe_callTy call_list_of hg hm hv (pa_cons ha pa_nil (pln_star hp)) hn hdb (pln_star hp) (pln_back (es := []) rfl)) fun σ H Q h => ?_
  obtain ⟨La, M0, M, ρ, S, R, h⟩ := h
  have hb := h.bind
  refine tD_iff.mpr ⟨La, M0, M, ρ, S, R, ?_⟩
  cases w : fa ρ S with
  | ok d S1 =>
    rw [w] at hb
    intro La' M' H' s R' x hx
    have fin : ∀ {xs : List V} {ds : List PyData} {q : Addr}, listD d = some (.list ds) → IsAll M' H' xs ds → H' q = none → Q (.ref q) (upd H' q (.lst xs)) := fun {xs ds q} e hal hq => by
      have hb2 : After W La' M0 M' H' σ ρ (ofOpt (listD d) S1) fun d La' M' H' S' => ∀ (a : Addr), H a = none → ¬a ∈ La' → OwnAt M' H' a d → Q (V.ref a) H' := hb La' M' H' s R'
      rw [e] at hb2
      refine hb2 La' _ _ (StepE.newM R'.laM hq) (R'.newM hq) q ?_ (fun z => R'.dom q (R'.laM q z) hq) ⟨.inr rfl, .inl ⟨xs, ds, rfl, upd_same, hal.mono (StepE.newM R'.laM hq).toStep⟩⟩
      cases z : H q with
      | none => rfl
      | some o => exact absurd hq (s.there q (by rw [z]; exact nofun))
    cases d with
    | list ds =>
      obtain ⟨q, ys, rfl, ha, hys⟩ := hx.b.list
      exact ⟨q, ys, rfl, .inl (.inl ha), fun l hl => fin rfl hys hl⟩
    | tuple ds =>
      obtain ⟨q, ys, rfl, _, ha, hys⟩ := hx.b.tup
      exact ⟨q, ys, rfl, .inr (.inl ha), fun l hl => fin rfl hys hl⟩
    | _ => exact (hb La' M' H' s R').elim
  | exc c S1 => rw [w] at hb; exact hb
  | stuck => rw [w] at hb; exact hb

/-! ### subscripts -/
theorem se_idx (ha : SO X W a fa) (hb : SO X W b fb) (hp : pln b = true) : SE X W (.Subscript a b pos) fun ρ => Mn.bind (fa ρ) fun x => Mn.bind (fb ρ) fun y => ofOpt (idxD x y) := by
  refine PE.imp (pe_ix ix_D ha hb (pln_ix hp)) fun σ H Q h => ?_
  obtain ⟨La, M0, M, ρ, S, R, h⟩ := tD_iff.mp h
  refine tD_iff.mpr ⟨La, M0, M, ρ, S, R, h.bind.mono fun dx La1 M1 H1 S1 s1 R1 q x hx => ?_⟩
  refine tD_iff.mpr ⟨La1, M0, M1, ρ, S1, R1, q.bind.mono fun dy La2 M2 H2 S2 s2 R2 q2 y hy => ?_⟩
  cases e : idxD dx dy with
  | none => rw [e] at q2; exact q2.elim
  | some d =>
    rw [e] at q2
    exact ⟨M2, dx, dy, d, (hx.mono s2 R1.dom).b, hy.b, e, fun v hv => After.here (a := d) q2 R2 v hv⟩
/-- a part of a slice -/
def tDO (W : WN) (f : Env → Mn (Option Int)) : TO := fun σ H Q => ∃ La M0 M ρ S, RelF La M0 M H σ ρ S ∧
  After W La M0 M H σ ρ (f ρ S) fun d La' M' H' S' => Q d H'
abbrev SP' (X : Cx) (W : WN) (e : Option Expr) (f : Env → Mn (Option Int)) : Prop := PO X e (tDO W f)
theorem so_no : SP' X W none fun _ => Mn.pure none := ⟨fun pins s σ H Q I h => po_none.run pins s σ H Q I (by
  obtain ⟨La, M0, M, ρ, S, R, h⟩ := h
  exact After.here (a := (none : Option Int)) h R)⟩
theorem so_some (ha : SO X W a fa) : SP' X W (some a) fun ρ => Mn.bind (fa ρ) fun x => match x with | .int i => Mn.pure (some i) | _ => Mn.stuck := ⟨fun pins s σ H Q I h => (po_some ha).run pins s σ H Q I (by
  obtain ⟨La, M0, M, ρ, S, R, h⟩ := h
  refine tD_iff.mpr ⟨La, M0, M, ρ, S, R, h.bind.mono fun dx La1 M1 H1 S1 s1 R1 q x hx => ?_⟩
  cases dx with
  | int i => exact ⟨i, hx.b.int, After.here (a := some i) q R1⟩
  | _ => exact q.elim)⟩
theorem se_sli {lo hi : Option Expr} {p2 : Pos} {fl fh : Env → Mn (Option Int)} (ha : SO X W a fa) (hl : SP' X W lo fl) (hh : SP' X W hi fh) :
    SE X W (.Subscript a (.Slice lo hi none p2) pos) fun ρ => Mn.bind (fa ρ) fun x => Mn.bind (fl ρ) fun l => Mn.bind (fh ρ) fun h => ofOpt (sliD l h x) := by
  refine PE.imp (pe_slice sl_D ha hl hh) fun σ H Q h => ?_
  obtain ⟨La, M0, M, ρ, S, R, h⟩ := tD_iff.mp h
  refine tD_iff.mpr ⟨La, M0, M, ρ, S, R, h.bind.mono fun dx La1 M1 H1 S1 s1 R1 q x hx => ?_⟩
  refine ⟨La1, M0, M1, ρ, S1, R1, q.bind.mono fun l La2 M2 H2 S2 s2 R2 q2 => ?_⟩
  refine ⟨La2, M0, M2, ρ, S2, R2, q2.bind.mono fun u La3 M3 H3 S3 s3 R3 q3 => ?_⟩
  cases e : sliD l u dx with
  | none => rw [e] at q3; exact q3.elim
  | some d =>
    rw [e] at q3
    exact ⟨M3, dx, d, R3.dom, ((hx.mono s2 R1.dom).mono s3 R2.dom).b, e, fun v H' gr hv => let ⟨s4, R4⟩ := gr.stepE R3; q3 La3 M3 H' s4 R4 v hv⟩
/-- state[k] -/
theorem se_cell {i : Nat} {x : Str} {p : Pos} (hN : X.N[i]? = some x) (hv : Vis X.env.scope x) (hd : (x == ("__debug__" : Str)) = false) (hcd : (x == ("__classdict__" : Str)) = false) (hb : SO X W b fb) (hp : pln b = true) :
    SE X W (.Subscript (.Name x p) b pos) fun ρ => Mn.bind (getRef ρ i) fun n => Mn.bind (fb ρ) fun y => Mn.bind (getCell n) fun xs => ofOpt (idxD (.list xs) y) := by
  refine PE.imp (pe_ix ix_D (pe_var hN hv hd hcd) hb (pln_ix hp)) fun σ H Q h => ?_
  obtain ⟨La, M0, M, ρ, S, R, h⟩ := tD_iff.mp h
  have h := h.bind
  simp only [getRef] at h
  cases e : ρ[i]? with
  | none => rw [e] at h; exact False.elim h
  | some sl =>
    rw [e] at h
    cases sl with
    | ref n =>
      obtain ⟨a, h1, h2⟩ := R.ref i n e
      have h := After.here (a := n) h R
      refine ⟨_, h1, tD_iff.mpr ⟨La, M0, M, ρ, S, R, h.bind.mono fun dy La2 M2 H2 S2 s2 R2 q2 y hy => ?_⟩⟩
      have q2 := q2.bind
      obtain ⟨a', h1', h2'⟩ := R2.ref i n e
      rw [h1] at h1'; cases h1'
      simp only [getCell] at q2
      cases w : S2[n]? with
      | none => rw [w] at q2; exact False.elim q2
      | some xs =>
        rw [w] at q2
        have q2 := After.here (a := xs) q2 R2
        obtain ⟨ys, h3, h4⟩ := R2.cells n a xs h2' w
        cases e' : idxD (.list xs) dy with
        | none => rw [e'] at q2; exact q2.elim
        | some d =>
          rw [e'] at q2
          exact ⟨M2, .list xs, dy, d, .inr ⟨a, rfl, R2.laM a (List.mem_of_getElem? h2'), .inl ⟨ys, xs, rfl, h3, h4⟩⟩, hy.b, e', fun v hv => After.here (a := d) q2 R2 v hv⟩
    | _ => exact False.elim h

/-! ### isinstance -/
theorem se_isi1 (t : Ty) {x y : Str} {p p2 : Pos} (hg : Gl X x) (hm : X.mg x = none) (hv : bootBuiltins x = some (.builtin "isinstance")) (hg2 : Gl X y) (hm2 : X.mg y = none) (hv2 : bootBuiltins y = some (.type (tyN t)))
    (ha : SO X W a fa) (hp : pln a = true) (hn : x ≠ "__name__") (hdb : (x == ("__debug__" : Str)) = false) (hn2 : y ≠ "__name__") (hdb2 : (y == ("__debug__" : Str)) = false) :
    SE X W (.Call (.Name x p) [a, .Name y p2] [] pos) fun ρ => Mn.bind (fa ρ) fun d => Mn.pure (.bool (isiD [t] d)) := by
  refine PE.imp (pe_callB (call_isi1 t) hg hm hv (pa_cons ha (pa_cons (pe_bltn hg2 hm2 hv2 (v := .ty (tyN t)) rfl hn2 hdb2) pa_nil rfl) (pln_star hp)) hn hdb (pln_star hp) rfl) fun σ H Q h => ?_
  obtain ⟨La, M0, M, ρ, S, R, h⟩ := tD_iff.mp h
  refine tD_iff.mpr ⟨La, M0, M, ρ, S, R, h.bind.mono fun dx La1 M1 H1 S1 s1 R1 q x hx => ?_⟩
  refine ⟨M1, x, dx, rfl, hx.b, ?_⟩
  have e : isiD [t] dx = isiT t dx := by unfold isiD; simp
  rw [← e]
  exact After.here (a := PyData.bool (isiD [t] dx)) q R1 _ (.bl _)
theorem se_isi2 (t u : Ty) {x y z : Str} {p p2 p3 p4 : Pos} {k : Nat} (hg : Gl X x) (hm : X.mg x = none) (hv : bootBuiltins x = some (.builtin "isinstance")) (hg2 : Gl X y) (hm2 : X.mg y = none) (hv2 : bootBuiltins y = some (.type (tyN t)))
    (hg3 : Gl X z) (hm3 : X.mg z = none) (hv3 : bootBuiltins z = some (.type (tyN u)))
    (ha : SO X W a fa) (hp : pln a = true) (hn : x ≠ "__name__") (hdb : (x == ("__debug__" : Str)) = false) (hn2 : y ≠ "__name__") (hdb2 : (y == ("__debug__" : Str)) = false) (hn3 : z ≠ "__name__") (hdb3 : (z == ("__debug__" : Str)) = false) :
    SE X W (.Call (.Name x p) [a, .Tuple [.Name y p2, .Name z p3] k p4] [] pos) fun ρ => Mn.bind (fa ρ) fun d => Mn.pure (.bool (isiD [t, u] d)) := by
  refine PE.imp (pe_callB (call_isiN [t, u]) hg hm hv (pa_cons ha (pa_cons (pe_tup (pa_cons (pe_bltn hg2 hm2 hv2 (v := .ty (tyN t)) rfl hn2 hdb2) (pa_cons (pe_bltn hg3 hm3 hv3 (v := .ty (tyN u)) rfl hn3 hdb3) pa_nil rfl) rfl)) pa_nil rfl) (pln_star hp)) hn hdb (pln_star hp) rfl) fun σ H Q h => ?_
  obtain ⟨La, M0, M, ρ, S, R, h⟩ := tD_iff.mp h
  refine tD_iff.mpr ⟨La, M0, M, ρ, S, R, h.bind.mono fun dx La1 M1 H1 S1 s1 R1 q x hx => ?_⟩
  refine ⟨by rw [sizeLine_eq]; show 2 ≤ 16777216; decide, fun tp htp => ?_⟩
  refine ⟨M1, x, tp, dx, rfl, upd_same, (hx.mono (StepE.new R1.laM htp) R1.dom).b, ?_⟩
  exact q La1 M1 _ (StepE.new R1.laM htp) (R1.new htp) _ (.bl _)
end
end L2.DL

set_option maxHeartbeats 1000000
/-! The data layer, seventh part: calls of defs. -/
namespace L2.DL
open PySem PySem.Spec PyProof.Rows L2

/-- what is known of the cells -/
structure Cells (La : List Addr) (M : Addr → Prop) (H : Hp) (S : Store) : Prop where
  dom : ∀ a, M a → H a ≠ none
  laM : ∀ a ∈ La, M a
  nd : La.Nodup
  szs : La.length = S.length
  cells : ∀ (n : Nat) (a : Addr) (ds : List PyData), La[n]? = some a → S[n]? = some ds → ∃ xs, H a = some (.lst xs) ∧ IsAll M H xs ds
section
variable {La La' : List Addr} {M0 M M' : Addr → Prop} {H H' : Hp} {σ : St} {ρ : Env} {S S' : Store}
theorem RelF.cs (R : RelF La M0 M H σ ρ S) : Cells La M H S := ⟨R.dom, R.laM, R.nd, R.szs, R.cells⟩
theorem RelF.back (R : RelF La M0 M H σ ρ S) (s : StepE La La' M M' H H') (C : Cells La' M' H' S') : RelF La' M0 M' H' σ ρ S' := R.step s C.dom C.laM C.nd C.szs C.cells
end
/-- an argument -/
def ArgR (La : List Addr) (M : Addr → Prop) (H : Hp) (v : V) (s : Slot) : Prop :=
  match s with
  | .val d => Is M H v d
  | .ref n => ∃ a, v = .ref a ∧ La[n]? = some a
  | _ => False
theorem get_pre {La La' : List Addr} {n : Nat} {a : Addr} (h : La <+: La') (e : La[n]? = some a) : La'[n]? = some a := by
  obtain ⟨t, rfl⟩ := h
  rw [List.getElem?_append_left (List.getElem?_eq_some_iff.mp e).1]
  exact e
theorem ArgR.mono {La La' : List Addr} {M M' : Addr → Prop} {H H' : Hp} {v : V} {s : Slot} (st : StepE La La' M M' H H') (h : ArgR La M H v s) : ArgR La' M' H' v s := by
  cases s with
  | val d => exact Is.mono st.toStep h
  | ref n => obtain ⟨a, e, h⟩ := h; exact ⟨a, e, get_pre st.la h⟩
  | no => exact h
  | own d => exact h
def tDS (W : WN) (f : Env → Mn (List Slot)) : TA := fun σ H Q => ∃ La M0 M ρ S, RelF La M0 M H σ ρ S ∧
  After W La M0 M H σ ρ (f ρ S) fun as La' M' H' S' => ∀ vs, Paired (ArgR La' M' H') vs as → Q vs H'
abbrev SS (X : Cx) (W : WN) (es : List Expr) (f : Env → Mn (List Slot)) : Prop := PA X es (tDS W f)
section
variable {X : Cx} {W : WN} {e : Expr} {es : List Expr} {fa : Env → Mn PyData} {fs : Env → Mn (List Slot)} {pos : Pos}
theorem ss_nil : SS X W [] fun _ => Mn.pure [] := by
  refine PA.imp pa_nil fun σ H Q h => ?_
  obtain ⟨La, M0, M, ρ, S, R, h⟩ := h
  exact After.here (a := ([] : List Slot)) h R _ .nil
theorem ss_cons (ha : SE X W e fa) (hs : SS X W es fs) (hp : pln e = true) : SS X W (e :: es) fun ρ => Mn.bind (fa ρ) fun d => Mn.bind (fs ρ) fun ds => Mn.pure (.val d :: ds) := by
  refine PA.imp (pa_cons ha hs (pln_star hp)) fun σ H Q h => ?_
  obtain ⟨La, M0, M, ρ, S, R, h⟩ := h
  refine tD_iff.mpr ⟨La, M0, M, ρ, S, R, h.bind.mono fun d La1 M1 H1 S1 s1 R1 q x hx => ?_⟩
  refine ⟨La1, M0, M1, ρ, S1, R1, q.bind.mono fun ds La2 M2 H2 S2 s2 R2 q2 xs hxs => ?_⟩
  exact After.here (a := Slot.val d :: ds) q2 R2 _ (.cons (Is.mono s2.toStep hx) hxs)
theorem ss_ref {i : Nat} {x : Str} {p : Pos} (hN : X.N[i]? = some x) (hv : Vis X.env.scope x) (hd : (x == ("__debug__" : Str)) = false) (hcd : (x == ("__classdict__" : Str)) = false) (hs : SS X W es fs) :
    SS X W (.Name x p :: es) fun ρ => Mn.bind (getRef ρ i) fun n => Mn.bind (fs ρ) fun ds => Mn.pure (.ref n :: ds) := by
  refine PA.imp (pa_cons (pe_var hN hv hd hcd) hs (pln_star rfl)) fun σ H Q h => ?_
  obtain ⟨La, M0, M, ρ, S, R, h⟩ := h
  have h := h.bind
  simp only [getRef] at h
  cases e : ρ[i]? with
  | none => rw [e] at h; exact False.elim h
  | some sl =>
    rw [e] at h
    cases sl with
    | ref n =>
      obtain ⟨a, h1, h2⟩ := R.ref i n e
      have h := After.here (a := n) h R
      refine ⟨_, h1, La, M0, M, ρ, S, R, h.bind.mono fun ds La2 M2 H2 S2 s2 R2 q2 xs hxs => ?_⟩
      exact After.here (a := Slot.ref n :: ds) q2 R2 _ (.cons ⟨a, rfl, get_pre s2.la h2⟩ hxs)
    | _ => exact False.elim h
end
/-- what a def promises -/
def spD (ec : Nat → Value) (np : Nat) (g : List Slot → Mn PyData) : Sp := fun vs H Q E => vs.length = np ∧ ∃ La M S as, Cells La M H S ∧ Paired (ArgR La M H) vs as ∧
  match g as S with
  | .ok d S' => ∀ v La' M' H', StepE La La' M M' H H' → Cells La' M' H' S' → Is M' H' v d → Q v H'
  | .exc c S' => ∀ La' M' H', StepE La La' M M' H H' → Cells La' M' H' S' → E (ec c) none H'
  | .stuck => False
/-- what is wished of an exception -/
def wx (ec : Nat → Value) (W : WN) : WX := fun cls d σ H => ∃ c, cls = ec c ∧ d = none ∧ W c σ H
section
variable {X : Cx} {W : WN} {ec : Nat → Value} {e : Expr} {es : List Expr} {fs : Env → Mn (List Slot)} {pos p : Pos} {k : Nat} {f : Addr} {fd : FuncData} {ps : List Str} {g : List Slot → Mn PyData} {x : Str}
theorem se_call (F : FnOk X.prog X.w X.K X.mg X.base (L2.CX X.prog X.w) k f fd ps (spD ec ps.length g)) (hr : Room k X.A) (hg : Gl X x) (hm : X.mg x = some (.ref f)) (hk : PySem.W.keepIn X.K (.ref f) = true) (hb : Binds X.K fd ps [])
    (tk : Takes X (wx ec W)) (ha : SS X W (e :: es) fs) (hdb : (x == ("__debug__" : Str)) = false) (hp : pln e = true) (hps : es.all pln = true) (hl : ∀ as S, g as S ≠ .stuck → as.length = ps.length) :
    SE X W (.Call (.Name x p) (e :: es) [] pos) fun ρ => Mn.bind (fs ρ) g := by
  refine PE.imp (pe_callS F hr hg hm hk hb (fun σ => passAt tk σ) ha hdb (pln_star hp) (pln_back hps)) fun σ H Q h => ?_
  obtain ⟨La, M0, M, ρ, S, R, h⟩ := tD_iff.mp h
  refine ⟨La, M0, M, ρ, S, R, h.bind.mono fun as La1 M1 H1 S1 s1 R1 q vs hvs => ?_⟩
  have hns : g as S1 ≠ .stuck := fun z => by rw [z] at q; exact q
  refine ⟨?_, La1, M1, S1, as, R1.cs, hvs, ?_⟩
  · rw [← hl as S1 hns]
    exact hvs.length
  · cases w : g as S1 with
    | ok d S2 => rw [w] at q; exact fun v La2 M2 H2 s2 C2 hv => q La2 M2 H2 s2 (R1.back s2 C2) v hv
    | exc c S2 => rw [w] at q; exact fun La2 M2 H2 s2 C2 => ⟨c, rfl, rfl, q La2 M2 H2 s2 (R1.back s2 C2)⟩
    | stuck => exact hns w
end
end L2.DL

set_option maxHeartbeats 1000000
/-! The data layer, eighth part: targets, what is walked. -/
namespace L2.DL
open PySem PySem.Spec PyProof.Rows L2

/-! ### data in a later heap -/
structure KeepD (M M' : Addr → Prop) (H H' : Hp) : Prop where
  keep : ∀ a o, H a = some o → ¬ M a → H' a = some o
  mon : ∀ a, M' a → M a ∨ H a = none
section
variable {M M' M'' : Addr → Prop} {H H' H'' : Hp}
theorem KeepD.rd (s : KeepD M M' H H') {a : Addr} {u : HO} (hm : ¬ M a) (h : Rd H a u) : ¬ M' a ∧ Rd H' a u := by
  rcases h with h | ⟨o, h⟩
  · refine ⟨fun z => ?_, .inl (s.keep a _ h hm)⟩
    rcases s.mon a z with z | z
    · exact hm z
    · rw [h] at z; cases z
  · refine ⟨fun z => ?_, .inr ⟨o, s.keep a _ h hm⟩⟩
    rcases s.mon a z with z | z
    · exact hm z
    · rw [h] at z; cases z
mutual
theorem Is.keep (s : KeepD M M' H H') : ∀ {v : V} {d : PyData}, Is M H v d → Is M' H' v d
  | _, _, .non => .non
  | _, _, .bl b => .bl b
  | _, _, .int i => .int i
  | _, _, .str x => .str x
  | _, _, .lst hm hr ha => .lst (s.rd hm hr).1 (s.rd hm hr).2 (IsAll.keep s ha)
  | _, _, .tup hm hr ha => .tup (s.rd hm hr).1 (s.rd hm hr).2 (IsAll.keep s ha)
  | _, _, .dic hm hr ha => .dic (s.rd hm hr).1 (s.rd hm hr).2 (IsKv.keep s ha)
theorem IsAll.keep (s : KeepD M M' H H') : ∀ {v : List V} {d : List PyData}, IsAll M H v d → IsAll M' H' v d
  | _, _, .nil => .nil
  | _, _, .cons h t => .cons (Is.keep s h) (IsAll.keep s t)
theorem IsKv.keep (s : KeepD M M' H H') : ∀ {v : List (L2.Key × V)} {d : List (PyData × PyData)}, IsKv M H v d → IsKv M' H' v d
  | _, _, .nil => .nil
  | _, _, .cons h t => .cons (Is.keep s h) (IsKv.keep s t)
end
theorem KeepD.refl : KeepD M M H H := ⟨fun _ _ h _ => h, fun _ h => .inl h⟩
theorem KeepD.trans (s : KeepD M M' H H') (t : KeepD M' M'' H' H'') : KeepD M M'' H H'' where
  keep := fun a o h hm => t.keep a o (s.keep a o h hm) fun z => (s.mon a z).elim hm fun q => by rw [h] at q; cases q
  mon := fun a z => by
    rcases t.mon a z with z | z
    · exact s.mon a z
    · by_cases hm : M a
      · exact .inl hm
      · cases e : H a with
        | none => exact .inr rfl
        | some o => rw [s.keep a o e hm] at z; cases z
theorem Step.keepD {La La' : List Addr} (s : Step La La' M M' H H') : KeepD M M' H H' := ⟨fun a o h hm => s.keep a o h fun z => hm (s.inM a z), s.mon⟩
end

/-! ### slots -/
section
variable {La : List Addr} {M0 M : Addr → Prop} {H : Hp} {σ σ' : St} {ρ ρ' : Env} {S : Store}
theorem RelF.slots (R : RelF La M0 M H σ ρ S) (hl : ρ'.length = σ'.length)
    (h : ∀ j : Nat, (ρ'[j]? = ρ[j]? ∧ σ'[j]? = σ[j]?) ∨ (∃ d v, ρ'[j]? = some (.val d) ∧ σ'[j]? = some (some v) ∧ Is M H v d) ∨ ρ'[j]? = some .no) : RelF La M0 M H σ' ρ' S where
  len := hl
  val := fun i d e => by
    rcases h i with ⟨h1, h2⟩ | ⟨d', v, h1, h2, h3⟩ | h1
    · rw [h1] at e; rw [h2]; exact R.val i d e
    · rw [h1] at e; cases e; exact ⟨v, h2, h3⟩
    · rw [h1] at e; cases e
  own := fun i d e => by
    rcases h i with ⟨h1, h2⟩ | ⟨d', v, h1, h2, h3⟩ | h1
    · rw [h1] at e; rw [h2]; exact R.own i d e
    · rw [h1] at e; cases e
    · rw [h1] at e; cases e
  ref := fun i n e => by
    rcases h i with ⟨h1, h2⟩ | ⟨d', v, h1, h2, h3⟩ | h1
    · rw [h1] at e; rw [h2]; exact R.ref i n e
    · rw [h1] at e; cases e
    · rw [h1] at e; cases e
  dist := fun i j d e a q1 q2 q3 q4 => by
    have own : ∀ {k : Nat} {d : PyData}, ρ'[k]? = some (.own d) → ρ[k]? = some (.own d) ∧ σ'[k]? = σ[k]? := fun {k d} q => by
      rcases h k with ⟨h1, h2⟩ | ⟨d', v, h1, h2, h3⟩ | h1
      · rw [h1] at q; exact ⟨q, h2⟩
      · rw [h1] at q; cases q
      · rw [h1] at q; cases q
    obtain ⟨p1, p2⟩ := own q1
    obtain ⟨p3, p4⟩ := own q2
    exact R.dist i j d e a p1 p3 (by rw [← p2]; exact q3) (by rw [← p4]; exact q4)
  sub := R.sub
  dom := R.dom
  laM := R.laM
  nd := R.nd
  szs := R.szs
  cells := R.cells
theorem RelF.setVal (R : RelF La M0 M H σ ρ S) (i : Nat) {v : V} {d : PyData} (hv : Is M H v d) : RelF La M0 M H (σ.set i (some v)) (ρ.set i (.val d)) S := by
  refine R.slots (by rw [List.length_set, List.length_set]; exact R.len) fun j => ?_
  by_cases hj : i = j
  · subst hj
    by_cases hlt : i < ρ.length
    · exact .inr (.inl ⟨d, v, List.getElem?_set_self hlt, List.getElem?_set_self (by rw [← R.len]; exact hlt), hv⟩)
    · left
      have h2 : ¬ i < σ.length := by rw [← R.len]; exact hlt
      rw [List.set_eq_of_length_le (by omega), List.set_eq_of_length_le (by omega)]
      exact ⟨rfl, rfl⟩
  · exact .inl ⟨List.getElem?_set_ne hj, List.getElem?_set_ne hj⟩
/-- values into slots -/
def setSt (σ : St) : List Nat → List V → St
  | i :: is, v :: vs => setSt (σ.set i (some v)) is vs
  | _, _ => σ
theorem RelF.setAll : ∀ {is : List Nat} {vs : List V} {ds : List PyData} {σ : St} {ρ : Env}, RelF La M0 M H σ ρ S → IsAll M H vs ds → RelF La M0 M H (setSt σ is vs) (setAll ρ is ds) S
  | [], _, _, _, _, R, _ => by cases ‹List V› <;> exact R
  | i :: is, _, _, _, _, R, .nil => R
  | i :: is, _, _, _, _, R, .cons h t => RelF.setAll (is := is) (R.setVal i h) t
theorem setSt_length : ∀ {is : List Nat} {vs : List V} {σ : St}, (setSt σ is vs).length = σ.length
  | [], vs, σ => by cases vs <;> rfl
  | i :: is, [], σ => rfl
  | i :: is, v :: vs, σ => by
    show (setSt (σ.set i (some v)) is vs).length = _
    rw [setSt_length, List.length_set]
theorem setSt_out : ∀ {is : List Nat} {vs : List V} {σ : St} {j : Nat}, j ∉ is → (setSt σ is vs)[j]? = σ[j]?
  | [], vs, σ, j, _ => by cases vs <;> rfl
  | i :: is, [], σ, j, _ => rfl
  | i :: is, v :: vs, σ, j, h => by
    show (setSt (σ.set i (some v)) is vs)[j]? = _
    rw [setSt_out fun z => h (List.mem_cons_of_mem _ z), List.getElem?_set_ne fun z => h (by rw [z]; exact List.mem_cons_self)]
theorem wipe_same {σ σ' : St} {vs : List Nat} (hl : σ'.length = σ.length) (h : ∀ i : Nat, i ∉ vs → σ'[i]? = σ[i]?) : wipe σ' vs = wipe σ vs := by
  induction vs generalizing σ σ' with
  | nil => exact List.ext_getElem? fun i => h i (by simp)
  | cons v vs ih =>
    have key : ∀ (τ : St) (i : Nat), i ∉ vs → (wipe τ vs)[i]? = τ[i]? := fun τ i hi => wipe_out hi
    have inn : ∀ (τ : St) (ws : List Nat) (i : Nat), i ∈ ws → i < τ.length → (wipe τ ws)[i]? = some none := fun τ ws => by
      induction ws with
      | nil => intro i hi; cases hi
      | cons w ws ih2 =>
        intro i hi hlt
        unfold wipe
        by_cases hw : w = i
        · subst hw
          exact List.getElem?_set_self (by rw [wipe_length]; exact hlt)
        · rw [List.getElem?_set_ne hw]
          rcases List.mem_cons.mp hi with e | hi
          · exact absurd e.symm hw
          · exact ih2 i hi hlt
    refine List.ext_getElem? fun i => ?_
    by_cases hi : i ∈ v :: vs
    · by_cases hlt : i < σ.length
      · rw [inn σ _ i hi hlt, inn σ' _ i hi (by rw [hl]; exact hlt)]
      · rw [List.getElem?_eq_none (by rw [wipe_length, hl]; omega), List.getElem?_eq_none (by rw [wipe_length]; omega)]
    · rw [wipe_out hi, wipe_out hi]
      exact h i hi
theorem wipeE_length (ρ : Env) : ∀ vs : List Nat, (wipeE ρ vs).length = ρ.length
  | [] => rfl
  | v :: vs => by unfold wipeE; rw [List.length_set, wipeE_length ρ vs]
theorem RelF.wipe (R : RelF La M0 M H σ ρ S) : ∀ vs : List Nat, RelF La M0 M H (L2.wipe σ vs) (wipeE ρ vs) S
  | [] => R
  | v :: vs => by
    have ih := RelF.wipe R vs
    unfold L2.wipe wipeE
    refine ih.slots (by rw [List.length_set, List.length_set]; exact ih.len) fun j => ?_
    by_cases hj : v = j
    · subst hj
      by_cases hlt : v < (wipeE ρ vs).length
      · exact .inr (.inr (List.getElem?_set_self hlt))
      · left
        have h2 : ¬ v < (L2.wipe σ vs).length := by rw [← ih.len]; exact hlt
        rw [List.set_eq_of_length_le (by omega), List.set_eq_of_length_le (by omega)]
        exact ⟨rfl, rfl⟩
    · exact .inl ⟨List.getElem?_set_ne hj, List.getElem?_set_ne hj⟩
end

/-! ### targets -/
def gD (tg : List Nat) : TG := fun v σ H Q => ∃ La M0 M ρ S d ρ', RelF La M0 M H σ ρ S ∧ Is M H v d ∧ bindTg tg d ρ = some ρ' ∧
  ∀ σ' : St, σ'.length = σ.length → (∀ i : Nat, i ∉ tg → σ'[i]? = σ[i]?) → RelF La M0 M H σ' ρ' S → Q σ' H
theorem PG.imp {X : Cx} {e : Expr} {t t' : TG} (h : PG X e t) (w : ∀ v σ H Q, t' v σ H Q → t v σ H Q) : PG X e t' := ⟨fun pins s σ H v u Q I r q => h.run pins s σ H v u Q I r (w v σ H Q q)⟩
theorem PGs.imp {X : Cx} {e : List Expr} {t t' : TGs} (h : PGs X e t) (w : ∀ v σ H Q, t' v σ H Q → t v σ H Q) : PGs X e t' := ⟨fun pins s σ H v u Q I r q => h.run pins s σ H v u Q I r (w v σ H Q q)⟩
/-- a name that may be stored -/
structure NmOk (X : Cx) (i : Nat) (x : Str) : Prop where
  ix : X.N[i]? = some x
  loc : Loc X.env.scope x
  fn : X.fn x = true ∨ X.env.scope.names.lookup x = some .local
inductive NmsOk (X : Cx) : List Nat → List Expr → Prop
  | nil : NmsOk X [] []
  | cons {i : Nat} {x : Str} {p : Pos} {is : List Nat} {es : List Expr} : NmOk X i x → NmsOk X is es → NmsOk X (i :: is) (.Name x p :: es)
section
variable {X : Cx}
theorem pg_D1 {i : Nat} {x : Str} {pos : Pos} (hN : X.N.Nodup) (h : NmOk X i x) : PG X (.Name x pos) (gD [i]) := by
  refine PG.imp (pg_name hN h.ix h.loc h.fn) fun v σ H Q q => ?_
  obtain ⟨La, M0, M, ρ, S, d, ρ', R, hv, e, q⟩ := q
  cases e
  exact q _ (List.length_set ..) (fun j hj => List.getElem?_set_ne fun z => hj (by rw [z]; exact List.mem_singleton.mpr rfl)) (R.setVal i hv)
def gAll (is : List Nat) : TGs := fun vs σ H Q => vs.length = is.length ∧ Q (setSt σ is vs) H
theorem pgs_D (hN : X.N.Nodup) : ∀ {is : List Nat} {es : List Expr}, NmsOk X is es → PGs X es (gAll is)
  | _, _, .nil => PGs.imp pgs_nil fun vs σ H Q q => by
    obtain ⟨h, q⟩ := q
    obtain rfl := List.length_eq_zero_iff.mp h
    exact ⟨rfl, q⟩
  | _, _, .cons h t => PGs.imp (pgs_cons (pg_name hN h.ix h.loc h.fn) (pgs_D hN t)) fun vs σ H Q q => by
    obtain ⟨hl, q⟩ := q
    cases vs with
    | nil => simp at hl
    | cons v vs => exact ⟨v, vs, rfl, by simpa using hl, q⟩
theorem nms_len {env : PySem.Env} : ∀ {is : List Nat} {es : List Expr}, NmsOk X is es → (assignEach es env).length = is.length
  | _, _, .nil => rfl
  | _, _, .cons (is := is) (es := es) _ t => by
    show (assignEach es env).length + 1 = is.length + 1
    rw [nms_len t]
theorem nms_star {env : PySem.Env} : ∀ {is : List Nat} {es : List Expr}, NmsOk X is es → (assignEach es env).findIdx? (·.1) = none
  | _, _, .nil => rfl
  | _, _, .cons (x := x) (p := p) (es := es) _ t => by
    show ((false, assign (.Name x p) env) :: assignEach es env).findIdx? (·.1) = none
    rw [List.findIdx?_cons, nms_star t]
    rfl
theorem bindTg_tup {is : List Nat} {d : PyData} {ρ ρ' : Env} (h1 : is.length ≠ 1) (e : bindTg is d ρ = some ρ') : ∃ ds, (d = .tuple ds ∨ d = .list ds) ∧ is.length = ds.length ∧ ρ' = setAll ρ is ds := by
  unfold bindTg at e
  split at e
  · exact absurd rfl h1
  · split at e
    · split at e
      · rename_i hl
        cases e
        exact ⟨_, .inl rfl, hl, rfl⟩
      · cases e
    · split at e
      · rename_i hl
        cases e
        exact ⟨_, .inr rfl, hl, rfl⟩
      · cases e
    · cases e
section
variable {prog : Program} {w : World} {A : Around} {E : Value → Shared → Prop} {s : Shared}
theorem draw_listD {it t : Addr} {items : Array Value} (hne : t ≠ it) : ∀ (n i : Nat) (s : Shared) (Q : List Value → Shared → Prop), s.heap.IsListIter it t i → s.heap.IsList t items → i + n ≤ items.size →
    (∀ h', h'.IsListIter it t (i + n) → Heap.SameBut it s.heap h' → Q ((items.toList.drop i).take n) { s with heap := h' }) → wpAny (model prog w) A (draw (.ref it) n) Q E s
  | 0, i, s, Q, hit, _, _, hQ => by
    show wpAny _ _ (pure []) Q E s
    exact wpAny_pure (by simpa using hQ s.heap hit (Heap.SameBut.refl ..))
  | n + 1, i, s, Q, hit, ht, hle, hQ => by
    have hlt : i < items.size := by omega
    show wpAny _ _ (pyNext (.ref it) >>= _) Q E s
    refine wpAny_bind (wpAny_pyNext_list_item hit ht (x := items[i]) (by simp [hlt]) fun h₁ hit₁ hs₁ => ?_)
    refine wpAny_bind (wpAny_holding (draw_listD hne n (i + 1) _ _ hit₁ (ht.extBut hs₁.extBut hne) (by omega) fun h₂ hit₂ hs₂ => wpAny_pure ?_))
    have hd : items.toList.drop i = items[i] :: items.toList.drop (i + 1) := by simp [List.drop_eq_getElem_cons, hlt]
    have := hQ h₂ (by rw [show i + (n + 1) = i + 1 + n by omega]; exact hit₂) (hs₁.trans hs₂)
    rw [hd, List.take_succ_cons] at this
    exact this
theorem unpackItems_listD {t : Addr} {items : Array Value} {Q : List Value → Shared → Prop} (hh : A.handled = none) (ht : s.heap.IsList t items)
    (hQ : ∀ h', Heap.ExtBut s.heap.objs.size s.heap h' → Q items.toList { s with heap := h' }) : wpAny (model prog w) A (unpackItems (.ref t) items.size none) Q E s := by
  have hlt : t ≠ s.heap.objs.size := by obtain ⟨o, ho, _⟩ := ht; exact Nat.ne_of_lt (Heap.lt_size ho)
  unfold unpackItems
  refine wpAny_bind ?_
  · unfold notIterableAtAll
    refine wpAny_bind (wpAny_specialOf ht.typeIs F.slot_list_iter.lookup ?_)
    refine wpAny_pure ?_
    simp only [Bool.false_eq_true, if_false]
    refine wpAny_bind (wpAny_holding (wpAny_pyIter_list ht ?_))
    refine wpAny_bind (wpAny_holding (draw_listD hlt items.size 0 _ _ ⟨_, Heap.get?_push_size _ rfl, rfl, rfl⟩ (ht.push _) (by omega) fun h₁ hit₁ hs₁ => ?_))
    have hall : List.take items.size (List.drop 0 items.toList) = items.toList := by
      rw [List.drop_zero]; exact List.take_of_length_le (by simp)
    rw [hall]
    rw [if_neg (by simp)]
    have ht₁ : h₁.IsList t items := (ht.push _).extBut hs₁.extBut hlt
    refine wpAny_bind (wpAny_holding (wpAny_pyNext_list_end hh hit₁ ht₁ (by simp) fun h₂ he₂ => ?_))
    simp only [Option.isSome_none, Bool.false_eq_true, if_false]
    refine wpAny_pure (hQ h₂ fun b o hb e => he₂ b o hb (hs₁.extBut b o hb (Heap.get?_push_of_some _ e)))
theorem assign_Tuple_listD {env : PySem.Env} {elts : List Expr} {x1} {pos : Pos} {t : Addr} {items : Array Value} {Q : Unit → Shared → Prop} (hh : A.handled = none) (ht : s.heap.IsList t items)
    (hn : (assignEach elts env).length = items.size) (hstar : (assignEach elts env).findIdx? (·.1) = none)
    (h : ∀ h', Heap.ExtBut s.heap.objs.size s.heap h' → wpAny (model prog w) A (assignInOrder ((assignEach elts env).map (·.2)) items.toList) Q E { s with heap := h' }) :
    wpAny (model prog w) A (assign (.Tuple elts x1 pos) env (.ref t)) Q E s := by
  rw [arm_assign_Tuple]
  refine wpAny_bind (wpAny_standAt ?_)
  unfold unpack
  rw [hn, hstar]
  exact wpAny_bind (wpAny_holding (unpackItems_listD hh ht h))
end
theorem pg_DT {is : List Nat} {es : List Expr} {k : Nat} {pos : Pos} (hc : X.calm = true) (hN : X.N.Nodup) (h : NmsOk X is es) (h1 : is.length ≠ 1) : PG X (.Tuple es k pos) (gD is) := by
  refine ⟨fun pins s σ H v u Q I r q => ?_⟩
  obtain ⟨La, M0, M, ρ, S, d, ρ', R, hv, e, q⟩ := q
  obtain ⟨ds, hd, hl, rfl⟩ := bindTg_tup h1 e
  rcases hd with rfl | rfl
  · obtain ⟨a, xs, rfl, _, hr, hxs⟩ := (IsB.of hv).tup
    exact (pg_tup hc (pgs_D hN h) (nms_len h) (nms_star h)).run pins s σ H _ u Q I r ⟨a, xs, rfl, .inl hr, by rw [hxs.length, hl], by rw [hxs.length, hl], q _ setSt_length (fun j hj => setSt_out hj) (R.setAll hxs)⟩
  · obtain ⟨a, xs, rfl, hr, hxs⟩ := (IsB.of hv).list
    cases r
    obtain ⟨its, rv, ht, hz⟩ := I.list (.inl hr)
    refine assign_Tuple_listD (I.ok.hd hc) ht.isList (by rw [nms_len h, hl, ← hxs.length, rv.length]; simp) (nms_star h) fun h' hx => ?_
    have I1 : Inv X pins σ H { s with heap := h' } := I.kept (t' := s.toks) fun b o e => hx b o (Nat.ne_of_lt (Heap.lt_size e)) e
    exact (pgs_D hN h).run pins _ σ H xs _ Q I1 (by simpa using rv) ⟨by rw [hxs.length, hl], q _ setSt_length (fun j hj => setSt_out hj) (R.setAll hxs)⟩
end
end L2.DL

set_option maxHeartbeats 1000000
/-! The data layer, ninth part: what is walked. -/
namespace L2.DL
open PySem PySem.Spec PyProof.Rows L2

/-- enumerate of a tuple -/
def IteT (K : PySem.W.Frag) (a : Addr) : L2.It :=
  ⟨fun i H => ∃ (xs : List V) (x : V), SqT K H a xs ∧ xs[i]? = some x, fun i H v H' => ∃ T x, v = .ref T ∧ H T = none ∧ H' = upd H T (.tup [.int (i : Nat), x]) ∧ ∀ xs, SqT K H a xs → xs[i]? = some x, fun i H => ∃ xs : List V, SqT K H a xs ∧ xs.length ≤ i⟩
theorem isTupleIter_ne {h : Heap} {it t : Addr} {i : Nat} {items : Array Value} (st : h.IsTupleIter it t i) (p : h.IsTuple t items) : t ≠ it := by
  rintro rfl
  obtain ⟨o, ho, hc, _⟩ := st
  obtain ⟨o', ho', hc', _⟩ := p
  rw [ho] at ho'; cases ho'
  have hc' : o.cls = Value.type "tuple" := hc'
  rw [hc] at hc'
  injection hc' with z
  exact absurd z (by decide)
theorem turn_enumT {P : Program} {w : World} {K : PySem.W.Frag} {elts : List Expr} {kk : Nat} {tpos : Pos} (a e it : Addr) :
    Turn P w K (.Tuple elts kk tpos) (IteT K a) [e, it] e (fun i h => (∃ old, IsEnum h e it ((i : Nat) : Int) old) ∧ h.IsTupleIter it a i ∧ e ≠ it) where
  mem := by simp
  obj := fun i h st b hb => by
    obtain ⟨⟨old, he⟩, ⟨o, ho, hc, hd⟩, _⟩ := st
    have e' : b = e ∨ b = it := by simpa using hb
    rcases e' with z | z
    · rw [z]; exact ⟨_, he, fun v q => nomatch q⟩
    · rw [z]; exact ⟨o, ho, fun v q => by rw [hd] at q; cases q⟩
  keep := fun i h h' st k => let ⟨⟨old, he⟩, hi, hne⟩ := st; ⟨⟨old, k e (by simp) _ he⟩, hi.at fun o q => k it (by simp) o q, hne⟩
  item := by
    intro X hP hw hK hc i pins s σ H E I hf st hg
    subst hP hw hK
    obtain ⟨⟨old, he⟩, hit, hne⟩ := st
    obtain ⟨xs, x, hq, hx⟩ := hg
    obtain ⟨its, rv, p, hz⟩ := I.tuple hq
    have p : s.heap.IsTuple a its.toArray := p
    obtain ⟨u, hu, ru⟩ := rv.get hx
    have hel : e < s.heap.objs.size := Heap.lt_size he
    have hil : it < s.heap.objs.size := by obtain ⟨_, q, _⟩ := hit; exact Heap.lt_size q
    have hai : a ≠ it := isTupleIter_ne hit p
    have hea : e ≠ a := by
      rintro rfl
      obtain ⟨o', ho', hc', _⟩ := p
      rw [he] at ho'; cases ho'
      have hc' : Value.type "enumerate" = Value.type "tuple" := hc'
      injection hc' with z
      exact absurd z (by decide)
    have hh : X.A.in1.handled = none := I.ok.hd hc
    refine wpAny_pyNext_enum_itemD (Draws.tuple hh it a hai its.toArray) he ⟨hit, p⟩ (by
      have h1 : i < its.length := (List.getElem?_eq_some_iff.mp hu).1
      simpa using h1) hne (by simp [hne, hea]) fun x' h' tk hx' ho hit' hT hsz hk => ?_
    have ex : x' = u := by
      have h1 : its.toArray[i]? = some x' := hx'
      rw [List.getElem?_toArray, hu] at h1
      exact (Option.some.inj h1).symm
    subst ex
    refine ⟨_, rfl, wpAny_letOwnedTupleGo_enum (s := { s with heap := h', toks := tk + 1 }) ho fun h'' he' sb => ?_⟩
    have hT2 : h''.get? s.heap.objs.size = some { cls := .type "tuple", data := .seq #[.int i tk, x'] } := (sb.2 _ (Nat.ne_of_gt hel)).trans hT
    have new : ObjOk X.prog X.w (upd H s.heap.objs.size (.tup [.int (i : Nat), x])) h'' s.heap.objs.size (.tup [.int (i : Nat), x]) :=
      ⟨by show 2 ≤ sizeLine; decide, [.int i tk, x'], .cons ⟨_, rfl⟩ (.cons ru .nil), ⟨_, hT2, rfl, _, rfl⟩⟩
    have I1 : Inv X pins σ (upd H s.heap.objs.size (.tup [.int (i : Nat), x])) { s with heap := h'', toks := tk + 1 } :=
      I.turnedNew (ch := [e, it]) (fun b ob hb q => (sb.2 b (fun z => hb (by simp [z]))).trans (hk b ob (fun z => hb (by simp [z])) (fun z => hb (by simp [z])) q)) hf (Nat.le_refl _) new
    refine ⟨.ref s.heap.objs.size, _, I1, rfl, ⟨_, x, rfl, I.hok.fresh (Nat.le_refl _), rfl, fun ys hy => by rw [I.tuple_inj hy hq]; exact hx⟩, ⟨⟨x', ?_⟩, hit'.1.at fun o q => (sb.2 it (Ne.symm hne)).trans q, hne⟩, fun b hb => ?_⟩
    · have e1 : ((i + 1 : Nat) : Int) = (i : Int) + 1 := by omega
      rw [e1]; exact he'
    · have hb' : b < s.heap.objs.size := by
        have e' : b = e ∨ b = it := by simpa using hb
        rcases e' with z | z
        · rw [z]; exact hel
        · rw [z]; exact hil
      rw [upd_ne (Nat.ne_of_lt hb')]
      exact (hf b hb).1
  done := by
    intro X hP hw hK hc i pins s σ H E I hf st hg
    subst hP hw hK
    obtain ⟨⟨old, he⟩, hit, hne⟩ := st
    obtain ⟨xs, hq, hx⟩ := hg
    obtain ⟨its, rv, p, hz⟩ := I.tuple hq
    have p : s.heap.IsTuple a its.toArray := p
    obtain ⟨f0, f1, f2, f3, f4, f5⟩ := hf it (by simp)
    have hl := rv.length
    have hh : X.A.in1.handled = none := I.ok.hd hc
    have hT : s.TypeIs (.ref e) "enumerate" := ⟨_, he, rfl⟩
    unfold pyNext
    refine wpAny_bind (wpAny_attempt (wpAny_callSpecial?_slot (name := Str.ofString "__next__") hT F.slot_enumerate_next
      (wpAny_call_entry F.slot_enumerate_next hT F.entry_enumerate_next ?_ (F.args_enumerate_next_1 _))))
    show wpAny _ _ (field (.ref e) 2 >>= _) _ _ _
    refine wpAny_bind (wpAny_field he rfl (x := .ref it) rfl ?_)
    refine wpAny_bind (wpAny_nextOf_tuple_end hh hit p (by simp; omega) fun h' x he' hx' => ?_)
    obtain ⟨o, ho, hc⟩ := hx'
    refine wpAny_bind (wpAny_isInstance (T := "StopIteration") (b := true) ⟨o, ho, hc⟩ isSubtype_stop ?_)
    exact wpAny_pure ⟨rfl, I.turned (t' := s.toks) (fun b o hb q => he' b o hb q) f0 f1 f3 f4 f5⟩
  self := fun A i s Q E st h => let ⟨⟨_, he⟩, _⟩ := st; wpAny_pyIter_enum he h

set_option maxHeartbeats 1000000 in
theorem meets_enumerate_newT (t : Addr) (items : Array Value) :
    Meets (Builtin.«enumerate.__new__» ⟨[.type "enumerate", .ref t], []⟩) (fun _ R s => s.heap.IsTuple t items ∧
      R (.ok (.ret (.ref (s.heap.push { cls := .type "tuple_iterator", data := .fields #[.ref t, .int 0 0] }).objs.size)))
        { s with heap := (s.heap.push { cls := .type "tuple_iterator", data := .fields #[.ref t, .int 0 0] }).push { cls := .type "enumerate", data := .fields #[.none, .bool false, .ref s.heap.objs.size, rawInt 0, .none, .none] } }) :=
  .of_wp fun prog w A R s h => by
    obtain ⟨hp, g, d, tk, os⟩ := s; obtain ⟨h1, h⟩ := h
    have hsub := sub_enumerate
    have q1 : ∀ {A' : Around} {E : Value → Shared → Prop} {Q : Value → Shared → Prop}, Q (.ref hp.objs.size) ⟨hp.push { cls := .type "tuple_iterator", data := .fields #[.ref t, .int 0 0] }, g, d, tk, os⟩ → wpAny (model prog w) A' (pyIter (.ref t)) Q E ⟨hp, g, d, tk, os⟩ :=
      fun q => wpAny_pyIter_tuple h1 q
    wp_walk using q1
    refine wpAny_stack_any fun st => wpAny_pure ?_
    split
    · rename_i c _ _ _ _ _
      cases (c == Value.type "enumerate")
      · wp_walk using q1
        exact ⟨_, rfl, h⟩
      · wp_walk using q1
        exact ⟨_, rfl, h⟩
    · wp_walk using q1
      exact ⟨_, rfl, h⟩
theorem call_enumerate_tuple {prog : Program} {w : World} {A : Around} {E : Value → Shared → Prop} {s : Shared} {t : Addr} {items : Array Value} {Q : Value → Shared → Prop} (hL : s.heap.IsTuple t items)
    (h : ∀ h', IsEnum h' (s.heap.objs.size + 1) s.heap.objs.size 0 .none → h'.IsTupleIter s.heap.objs.size t 0 → h'.objs.size = s.heap.objs.size + 2 →
      (∀ b o, s.heap.get? b = some o → h'.get? b = some o) → Q (.ref (s.heap.objs.size + 1)) { s with heap := h' }) :
    wpAny (model prog w) A (call (.type "enumerate") [.ref t]) Q E s := by
  refine callType_new F.called_enumerate (by decide) (F.typeCall_enumerate_1 _) (F.newCall_enumerate_1 _) (fun obj => F.args_object_init_2 obj _) F.entry_enumerate_new
    (meets_enumerate_newT t items) ⟨hL, ?_⟩
  have hz : (s.heap.push { cls := .type "tuple_iterator", data := .fields #[.ref t, .int 0 0] }).objs.size = s.heap.objs.size + 1 := Heap.size_push ..
  show _ ∧ _
  rw [hz]
  have he : IsEnum ((s.heap.push { cls := .type "tuple_iterator", data := .fields #[.ref t, .int 0 0] }).push
      { cls := .type "enumerate", data := .fields #[.none, .bool false, .ref s.heap.objs.size, rawInt 0, .none, .none] }) (s.heap.objs.size + 1) s.heap.objs.size 0 .none := by
    have := Heap.get?_push_size (s.heap.push { cls := .type "tuple_iterator", data := .fields #[.ref t, .int 0 0] })
      (o := { cls := .type "enumerate", data := .fields #[.none, .bool false, .ref s.heap.objs.size, rawInt 0, .none, .none] }) rfl
    rw [hz] at this; exact this
  refine ⟨⟨_, he, rfl⟩, h _ he ⟨_, Heap.get?_push_of_some _ (Heap.get?_push_size _ rfl), rfl, rfl⟩ (by rw [Heap.size_push, hz]) fun b o x => Heap.get?_push_of_some _ (Heap.get?_push_of_some _ x)⟩
def iEnumA (K : PySem.W.Frag) (ta : TA) : TI := fun σ H R => ta σ H fun vs H1 => ∃ a xs, vs = [.ref a] ∧ ((SqL K H1 a xs ∧ R (Ite K a) H1) ∨ (SqT K H1 a xs ∧ R (IteT K a) H1))
theorem pi_enumA {X : Cx} {e : Expr} {ta : TA} {p pos tpos : Pos} {elts : List Expr} {kk : Nat} (hg : Gl X "enumerate") (hm : X.mg "enumerate" = none) (ha : PA X [e] ta) (hs : starEach [e] X.env = (false, eval e X.env) :: starEach [] X.env := by rfl) :
    PI X (.Tuple elts kk tpos) (.Call (.Name "enumerate" p) [e] [] pos) (iEnumA X.K ta) := by
  refine ⟨fun pins s σ H R I h => ?_⟩
  refine Call_ (ld_blt I hg hm boot_enumerate (PyProof.Rows.callWith_type1 (thn (ha.run pos pins s σ H _ I h) fun us s1 ⟨vs, H1, I1, r1, q1⟩ => ?_) hs rfl))
  obtain ⟨a, xs, ex, q1⟩ := q1
  subst ex
  cases r1 with
  | cons r rr =>
    cases rr
    cases r
    have fr : ∀ {b : Addr}, b ∈ [s1.heap.objs.size + 1, s1.heap.objs.size] → FpOk X pins H1 b := fun {b} hb => by
      have e' : b = s1.heap.objs.size + 1 ∨ b = s1.heap.objs.size := by simpa using hb
      have hle : s1.heap.objs.size ≤ b := by
        rcases e' with z | z
        · rw [z]; exact Nat.le_add_right _ _
        · rw [z]; exact Nat.le_refl _
      exact I1.fpOk hle (I1.hok.fresh hle)
    rcases q1 with ⟨hq, q⟩ | ⟨hq, q⟩
    · obtain ⟨its, rv, p', hz⟩ := I1.list hq
      refine call_enumerate_list p'.isList fun h' he hit hsz hk => wpAny_pyIter_enum he ?_
      have I2 : Inv X pins σ H1 { s1 with heap := h' } := I1.kept (t' := s1.toks) hk
      exact ⟨s1.heap.objs.size + 1, [s1.heap.objs.size + 1, s1.heap.objs.size], _, _, H1, rfl, I2, turn_enum a (s1.heap.objs.size + 1) s1.heap.objs.size, ⟨⟨.none, he⟩, hit, Nat.succ_ne_self _⟩, fun b hb => fr hb, q⟩
    · obtain ⟨its, rv, p', hz⟩ := I1.tuple hq
      refine call_enumerate_tuple (show s1.heap.IsTuple a its.toArray from p') fun h' he hit hsz hk => wpAny_pyIter_enum he ?_
      have I2 : Inv X pins σ H1 { s1 with heap := h' } := I1.kept (t' := s1.toks) hk
      exact ⟨s1.heap.objs.size + 1, [s1.heap.objs.size + 1, s1.heap.objs.size], _, _, H1, rfl, I2, turn_enumT a (s1.heap.objs.size + 1) s1.heap.objs.size, ⟨⟨.none, he⟩, hit, Nat.succ_ne_self _⟩, fun b hb => fr hb, q⟩
end L2.DL

set_option maxHeartbeats 1000000
/-! The data layer, tenth part: readings of what is walked. -/
namespace L2.DL
open PySem PySem.Spec PyProof.Rows L2

/-- J walks ds, while all that is not in P stays -/
def DWalk (P : Addr → Prop) (J : L2.It) (ds : List PyData) (M : Addr → Prop) (H : Hp) : Prop := ∃ G Y, Walk J ds.length G Y ∧ (∀ Hb : Hp, (∀ a o, H a = some o → ¬ P a → Hb a = some o) → G Hb) ∧
  ∀ (i : Nat) (Hb : Hp) (x : V) (Hc : Hp) (d : PyData), ds[i]? = some d → (∀ a o, H a = some o → ¬ P a → Hb a = some o) → Y i Hb x Hc → (Hc = Hb ∨ ∃ T o, Hb T = none ∧ Hc = upd Hb T o) ∧ ∀ Mb : Addr → Prop, (∀ a, Mb a → M a ∨ H a = none) → (∀ a, Mb a → Hb a ≠ none) → Is Mb Hc x d
/-- what may change while it is walked -/
def Pc (own : Bool) (La : List Addr) (M : Addr → Prop) (H : Hp) (P : Addr → Prop) : Prop := ∀ a, P a → (if own then a ∈ La else M a) ∨ H a = none
def tDI (W : WN) (own : Bool) (f : Env → Mn (List PyData)) : TI := fun σ H R => ∃ La M0 M ρ S, RelF La M0 M H σ ρ S ∧
  After W La M0 M H σ ρ (f ρ S) fun xs La' M' H' S' => ∀ J, (∀ P, Pc own La' M' H' P → DWalk P J xs M' H') → R J H'
abbrev SI (X : Cx) (W : WN) (tg e : Expr) (own : Bool) (f : Env → Mn (List PyData)) : Prop := PI X tg e (tDI W own f)
theorem PI.imp {X : Cx} {tg e : Expr} {t t' : TI} (h : PI X tg e t) (w : ∀ σ H R, t' σ H R → t σ H R) : PI X tg e t' := ⟨fun pins s σ H R I q => h.run pins s σ H R I (w σ H R q)⟩

section
variable {M : Addr → Prop} {H : Hp} {La : List Addr} {own : Bool} {P : Addr → Prop}
theorem Pc.m (h : Pc own La M H P) (hl : ∀ a ∈ La, M a) : ∀ a, P a → M a ∨ H a = none := fun a z => by
  rcases h a z with h | h
  · cases own with
    | true => exact .inl (hl a h)
    | false => exact .inl h
  · exact .inr h
/-- what a container is, so that it stays -/
def Apart (own : Bool) (La : List Addr) (M : Addr → Prop) (H : Hp) (v : V) : Prop := ∀ P, Pc own La M H P → ∀ a, v = .ref a → ¬ P a
theorem rd_some {a : Addr} {u : HO} (h : Rd H a u) : H a ≠ none := by
  rcases h with h | ⟨o, h⟩ <;> rw [h] <;> exact nofun
theorem Is.at_ref {a : Addr} {d : PyData} (h : Is M H (.ref a) d) : ¬ M a ∧ H a ≠ none := by
  cases h with
  | lst h1 h2 h3 => exact ⟨h1, rd_some h2⟩
  | tup h1 h2 h3 => exact ⟨h1, rd_some h2⟩
  | dic h1 h2 h3 => exact ⟨h1, rd_some h2⟩
theorem OwnAt.some {a : Addr} {d : PyData} (h : OwnAt M H a d) : H a ≠ none := by
  obtain ⟨_, ⟨xs, ds, rfl, h1, h2⟩ | ⟨xs, ds, rfl, h1, h2⟩⟩ := h <;> rw [h1] <;> exact nofun
theorem apart_F {v : V} {d : PyData} (h : Is M H v d) : Apart false La M H v := by
  rintro P hP a rfl z
  obtain ⟨h1, h2⟩ := h.at_ref
  rcases hP a z with q | q
  · exact h1 q
  · exact h2 q
theorem apart_O {v : V} {d : PyData} (hl : ∀ a ∈ La, M a) (h : IsO La M H v d) : Apart true La M H v := by
  rintro P hP a rfl z
  rcases h with h | ⟨b, e, hb, h⟩
  · obtain ⟨h1, h2⟩ := h.at_ref
    rcases hP a z with q | q
    · exact h1 (hl a q)
    · exact h2 q
  · cases e
    rcases hP a z with q | q
    · exact hb q
    · exact h.some q
theorem rd_keep {a : Addr} {u : HO} {Hb : Hp} (k : ∀ a o, H a = some o → ¬ P a → Hb a = some o) (n : ¬ P a) (h : Rd H a u) : Rd Hb a u := by
  rcases h with h | ⟨o, h⟩
  · exact .inl (k a _ h n)
  · exact .inr ⟨o, k a _ h n⟩
theorem keepD_of {Hb : Hp} {Mb : Addr → Prop} (hP : ∀ a, P a → M a ∨ H a = none) (k : ∀ a o, H a = some o → ¬ P a → Hb a = some o) (m : ∀ a, Mb a → M a ∨ H a = none) : KeepD M Mb H Hb :=
  ⟨fun a o h hm => k a o h fun z => (hP a z).elim hm fun q => by (rw [h] at q; cases q), m⟩
section
variable {K : PySem.W.Frag} {a b : Addr} {vs ws : List V} {ds es : List PyData}
theorem dw_list (hP : ∀ a, P a → M a ∨ H a = none) (n : ¬ P a) (ha : Rd H a (.lst vs)) (hx : IsAll M H vs ds) : DWalk P (Itl K a) ds M H := by
  refine ⟨fun H => SqL K H a vs, YAt vs, by rw [← hx.length]; exact walk_list, fun Hb k => .inl (rd_keep k n ha), fun i Hb x Hc d hd k y => ?_⟩
  obtain ⟨rfl, y⟩ := y
  refine ⟨.inl rfl, fun Mb m1 m2 => ?_⟩
  obtain ⟨d', h1, h2⟩ := hx.get2 y
  rw [hd] at h1; cases h1
  exact h2.keep (keepD_of hP k m1)
theorem dw_tup (hP : ∀ a, P a → M a ∨ H a = none) (n : ¬ P a) (ha : Rd H a (.tup vs)) (hx : IsAll M H vs ds) : DWalk P (Itt K a) ds M H := by
  refine ⟨fun H => SqT K H a vs, YAt vs, by rw [← hx.length]; exact walk_tup, fun Hb k => .inl (rd_keep k n ha), fun i Hb x Hc d hd k y => ?_⟩
  obtain ⟨rfl, y⟩ := y
  refine ⟨.inl rfl, fun Mb m1 m2 => ?_⟩
  obtain ⟨d', h1, h2⟩ := hx.get2 y
  rw [hd] at h1; cases h1
  exact h2.keep (keepD_of hP k m1)
theorem dw_str {x : Str} : DWalk P (Its x) (chars x) M H := by
  refine ⟨fun _ => True, _, by have := walk_str (z := x); unfold chars; rw [List.length_map, Array.length_toList]; exact this, fun _ _ => trivial, fun i Hb v Hc d hd k y => ?_⟩
  obtain ⟨rfl, c, hc, rfl⟩ := y
  refine ⟨.inl rfl, fun Mb m1 m2 => ?_⟩
  unfold chars at hd
  rw [List.getElem?_map, Array.getElem?_toList, hc] at hd
  cases hd
  exact .str _
theorem dw_fn {J : L2.It} {n : Nat} {f : Nat → Int} {ds : List PyData} (w : Walk J n (fun _ => True) (YFn fun i => V.int (f i))) (hl : ds.length = n) (h : ∀ (i : Nat) (d : PyData), ds[i]? = some d → d = PyData.int (f i)) : DWalk P J ds M H := by
  refine ⟨fun _ => True, _, by rw [hl]; exact w, fun _ _ => trivial, fun i Hb v Hc d hd k y => ?_⟩
  obtain ⟨rfl, rfl⟩ := y
  refine ⟨.inl rfl, fun Mb m1 m2 => ?_⟩
  rw [h i d hd]
  exact .int _
theorem dw_pair {J : L2.It} {n : Nat} {G : Hp → Prop} {fx fy : Nat → Option V} {ds : List PyData} (hP : ∀ a, P a → M a ∨ H a = none) (w : Walk J n G (YPair fx fy)) (hl : ds.length = n) (hG : ∀ Hb : Hp, (∀ a o, H a = some o → ¬ P a → Hb a = some o) → G Hb)
    (h : ∀ (i : Nat) (d : PyData) (x y : V), ds[i]? = some d → fx i = some x → fy i = some y → ∃ dx dy, d = .tuple [dx, dy] ∧ Is M H x dx ∧ Is M H y dy) : DWalk P J ds M H := by
  refine ⟨G, _, by rw [hl]; exact w, hG, fun i Hb v Hc d hd k y => ?_⟩
  obtain ⟨T, x, y, rfl, hT, rfl, h1, h2⟩ := y
  refine ⟨.inr ⟨T, _, hT, rfl⟩, fun Mb m1 m2 => ?_⟩
  obtain ⟨dx, dy, rfl, h3, h4⟩ := h i d x y hd h1 h2
  have s := keepD_of hP k m1
  have st : Step [] [] Mb Mb Hb (upd Hb T (.tup [x, y])) := (StepE.new (La := []) (fun _ h => by cases h) hT).toStep
  exact .tup (fun z => m2 T z hT) (.inl upd_same) (.cons ((h3.keep s).mono st) (.cons ((h4.keep s).mono st) .nil))
theorem zipIdx_get {α : Type} {xs : List α} {i : Nat} {p : α × Nat} (h : xs.zipIdx[i]? = some p) : xs[i]? = some p.1 ∧ p.2 = i := by
  rw [List.getElem?_zipIdx] at h
  cases e : xs[i]? with
  | none => rw [e] at h; cases h
  | some x => rw [e] at h; cases h; exact ⟨rfl, by simp⟩
theorem enum_get (hx : IsAll M H vs ds) {i : Nat} {d : PyData} {x y : V} (h : (ds.zipIdx.map fun p => PyData.tuple [.int p.2, p.1])[i]? = some d) (h1 : (some (V.int (i : Nat)) : Option V) = some x) (h2 : vs[i]? = some y) : ∃ dx dy, d = .tuple [dx, dy] ∧ Is M H x dx ∧ Is M H y dy := by
  rw [List.getElem?_map] at h
  cases e : ds.zipIdx[i]? with
  | none => rw [e] at h; cases h
  | some p =>
    rw [e] at h
    cases h
    obtain ⟨q1, q2⟩ := zipIdx_get e
    cases h1
    obtain ⟨d', h3, h4⟩ := hx.get2 h2
    rw [q1] at h3; cases h3
    refine ⟨_, _, rfl, ?_, h4⟩
    rw [q2]
    exact .int _
theorem dw_enumL (hP : ∀ a, P a → M a ∨ H a = none) (n : ¬ P a) (ha : Rd H a (.lst vs)) (hx : IsAll M H vs ds) : DWalk P (Ite K a) (ds.zipIdx.map fun p => .tuple [.int p.2, p.1]) M H :=
  dw_pair (n := vs.length) hP walk_enum (by rw [List.length_map, List.length_zipIdx, hx.length]) (fun Hb k => .inl (rd_keep k n ha)) fun i d x y h h1 h2 => enum_get hx h h1 h2
theorem walk_enumT : Walk (IteT K a) vs.length (fun H => SqT K H a vs) (YPair (fun i => some (.int (i : Nat))) (fun i => vs[i]?)) := by
  refine ⟨fun i _ hi q => ⟨vs, vs[i], q, by simp [hi]⟩, fun _ q => ⟨vs, q, Nat.le_refl _⟩, fun i H v H' _ q y => ?_⟩
  obtain ⟨T, x, h1, h2, h3, h4⟩ := y
  exact ⟨T, .int (i : Nat), x, h1, h2, h3, rfl, h4 vs q⟩
theorem dw_enumT (hP : ∀ a, P a → M a ∨ H a = none) (n : ¬ P a) (ha : Rd H a (.tup vs)) (hx : IsAll M H vs ds) : DWalk P (IteT K a) (ds.zipIdx.map fun p => .tuple [.int p.2, p.1]) M H :=
  dw_pair (n := vs.length) hP walk_enumT (by rw [List.length_map, List.length_zipIdx, hx.length]) (fun Hb k => .inl (rd_keep k n ha)) fun i d x y h h1 h2 => enum_get hx h h1 h2
theorem zip_get (hx : IsAll M H vs ds) (hy : IsAll M H ws es) {i : Nat} {d : PyData} {x y : V} (h : ((ds.zip es).map fun p => PyData.tuple [p.1, p.2])[i]? = some d) (h1 : vs[i]? = some x) (h2 : ws[i]? = some y) : ∃ dx dy, d = .tuple [dx, dy] ∧ Is M H x dx ∧ Is M H y dy := by
  obtain ⟨dx, h3, h4⟩ := hx.get2 h1
  obtain ⟨dy, h5, h6⟩ := hy.get2 h2
  have hz : (ds.zip es)[i]? = some (dx, dy) := by rw [List.getElem?_zip_eq_some]; exact ⟨h3, h5⟩
  rw [List.getElem?_map, hz] at h
  cases h
  exact ⟨dx, dy, rfl, h4, h6⟩
theorem dw_zipL (hP : ∀ a, P a → M a ∨ H a = none) (n : ¬ P a) (n2 : ¬ P b) (ha : Rd H a (.lst vs)) (hb : Rd H b (.lst ws)) (hx : IsAll M H vs ds) (hy : IsAll M H ws es) : DWalk P (Itz K a b) ((ds.zip es).map fun p => .tuple [p.1, p.2]) M H :=
  dw_pair hP (walk_zip rfl) (by rw [List.length_map, List.length_zip, hx.length, hy.length]) (fun Hb k => ⟨.inl (rd_keep k n ha), .inl (rd_keep k n2 hb)⟩) fun i d x y h h1 h2 => zip_get hx hy h h1 h2
theorem walk_zipT : Walk (RZ.ItzT K a b) (min vs.length ws.length) (fun H => SqT K H a vs ∧ SqT K H b ws) (YPair (fun i => vs[i]?) (fun i => ws[i]?)) := by
  refine ⟨fun i _ hi q => ?_, fun _ q => ⟨vs, ws, q.1, q.2, by omega⟩, fun i H v H' _ q y => ?_⟩
  · have h1 : i < vs.length := by omega
    have h2 : i < ws.length := by omega
    exact ⟨vs, ws, vs[i], ws[i], q.1, q.2, by simp [h1], by simp [h2]⟩
  · obtain ⟨T, x, z, h1, h2, h3, h4, h5⟩ := y
    exact ⟨T, x, z, h1, h2, h3, h4 vs q.1, h5 ws q.2⟩
theorem dw_zipT (hP : ∀ a, P a → M a ∨ H a = none) (n : ¬ P a) (n2 : ¬ P b) (ha : Rd H a (.tup vs)) (hb : Rd H b (.tup ws)) (hx : IsAll M H vs ds) (hy : IsAll M H ws es) : DWalk P (RZ.ItzT K a b) ((ds.zip es).map fun p => .tuple [p.1, p.2]) M H :=
  dw_pair hP walk_zipT (by rw [List.length_map, List.length_zip, hx.length, hy.length]) (fun Hb k => ⟨.inl (rd_keep k n ha), .inl (rd_keep k n2 hb)⟩) fun i d x y h h1 h2 => zip_get hx hy h h1 h2
end
end

/-- data, and if own is true an own one as well -/
def RO : Bool → IsR
  | true => IsO
  | false => IsF
theorem RO.b {own : Bool} {La : List Addr} {M : Addr → Prop} {H : Hp} {v : V} {d : PyData} (h : RO own La M H v d) : IsB M H v d := by
  cases own with
  | true => exact IsO.b h
  | false => exact .inl h
theorem RO.apart {own : Bool} {La : List Addr} {M : Addr → Prop} {H : Hp} {v : V} {d : PyData} (hl : ∀ a ∈ La, M a) (h : RO own La M H v d) : Apart own La M H v := by
  cases own with
  | true => exact apart_O hl h
  | false => exact apart_F h
theorem RO.mono {own : Bool} {La La' : List Addr} {M M' : Addr → Prop} {H H' : Hp} {v : V} {d : PyData} (s : StepE La La' M M' H H') (h : RO own La M H v d) (hd : ∀ a, M a → H a ≠ none) : RO own La' M' H' v d := by
  cases own with
  | true => exact IsO.mono s h hd
  | false => exact Is.mono s.toStep h
section
variable {X : Cx} {W : WN} {own : Bool} {tg a b c : Expr} {fa fb fc : Env → Mn PyData} {pos p : Pos}
theorem si_seq (ha : PE X a (tD W (RO own) fa)) : SI X W tg a own fun ρ => Mn.bind (fa ρ) fun d => ofOpt (iterOf d) := by
  refine ⟨fun pins s σ H R I h => ?_⟩
  obtain ⟨La, M0, M, ρ, S, R0, h⟩ := h
  have key : tD W (RO own) fa σ H fun x H1 => ∃ La1 M1 d xs, (∀ a ∈ La1, M1 a) ∧ RO own La1 M1 H1 x d ∧ iterOf d = some xs ∧ ∀ J, (∀ P, Pc own La1 M1 H1 P → DWalk P J xs M1 H1) → R J H1 :=
    tD_iff.mpr ⟨La, M0, M, ρ, S, R0, h.bind.mono fun d La1 M1 H1 S1 s1 R1 q v hv => by
      cases e : iterOf d with
      | none => rw [e] at q; exact q.elim
      | some xs =>
        rw [e] at q
        exact ⟨La1, M1, d, xs, R1.laM, hv, e, After.here (a := xs) q R1⟩⟩
  refine thn (ha.run pins s σ H _ I key) fun v s1 ⟨x, H1, I1, r1, La1, M1, d, xs, hl, hv, e, q⟩ => ?_
  have hap := hv.apart hl
  cases d with
  | list ds =>
    cases e
    obtain ⟨l, vs, rfl, hr, hx⟩ := hv.b.list
    cases r1
    obtain ⟨its, rv, p, hz⟩ := I1.list (.inl hr)
    refine wpAny_pyIter_list p.isList ?_
    exact pi_one (tk := s1.toks) I1 _ (turn_list l _) ⟨_, Heap.get?_push_size _ rfl, rfl, rfl⟩ (q _ fun P hP => dw_list (hP.m hl) (hap P hP l rfl) hr hx)
  | tuple ds =>
    cases e
    obtain ⟨l, vs, rfl, _, hr, hx⟩ := hv.b.tup
    cases r1
    obtain ⟨its, rv, p, hz⟩ := I1.tuple (.inl hr)
    refine wpAny_pyIter_tuple (show s1.heap.IsTuple l its.toArray from p) ?_
    exact pi_one (tk := s1.toks) I1 _ (turn_tuple l _) ⟨_, Heap.get?_push_size _ rfl, rfl, rfl⟩ (q _ fun P hP => dw_tup (hP.m hl) (hap P hP l rfl) hr hx)
  | str y =>
    cases e
    have ex := hv.b.str
    subst ex
    obtain ⟨t, rfl⟩ := r1
    cases ha : y.cps.all (· < 128)
    · exact wpAny_pyIter_wide ha (pi_one (tk := s1.toks) I1 _ (turn_str _ y t "str_iterator" (.inr rfl)) ⟨_, Heap.get?_push_size _ rfl, rfl, rfl⟩ (q _ fun P hP => dw_str))
    · exact wpAny_pyIter_ascii ha (pi_one (tk := s1.toks) I1 _ (turn_str _ y t "str_ascii_iterator" (.inl rfl)) ⟨_, Heap.get?_push_size _ rfl, rfl, rfl⟩ (q _ fun P hP => dw_str))
  | _ => cases e
theorem rangeN_get {lo : Int} {n : Nat} {c : Int} {i : Nat} {d : PyData} (h : (rangeN lo n c)[i]? = some d) : d = .int (lo + (i : Nat) * c) := by
  unfold rangeN at h
  rw [List.getElem?_map] at h
  by_cases hi : i < n
  · rw [List.getElem?_range hi] at h
    exact (Option.some.inj h).symm
  · rw [List.getElem?_eq_none (by rw [List.length_range]; omega)] at h; cases h
theorem rangeN_length {lo : Int} {n : Nat} {c : Int} : (rangeN lo n c).length = n := by
  unfold rangeN
  rw [List.length_map, List.length_range]
theorem range62_of {i : Int} (h : range62 i = true) : -(2 ^ 62) ≤ i ∧ i < 2 ^ 62 := by
  unfold range62 at h
  simp only [Bool.and_eq_true, decide_eq_true_eq] at h
  exact h
theorem si_range1 (hg : Gl X "range") (hm : X.mg "range" = none) (ha : SO X W a fa) (hp : pln a = true) : SI X W tg (.Call (.Name "range" p) [a] [] pos) own fun ρ => Mn.bind (fa ρ) fun d => ofOpt (rng1 d) := by
  refine PI.imp (pi_range1 hg hm (pa_cons ha pa_nil (pln_star hp)) (pln_star hp)) fun σ H R h => ?_
  obtain ⟨La, M0, M, ρ, S, R0, h⟩ := h
  refine tD_iff.mpr ⟨La, M0, M, ρ, S, R0, h.bind.mono fun d La1 M1 H1 S1 s1 R1 q v hv => ?_⟩
  cases d with
  | int j =>
    have q : After W La1 M0 M1 H1 σ ρ (ofOpt (if range62 j then some (rangeN 0 j.toNat 1) else none) S1) _ := q
    split at q
    · rename_i hj
      obtain ⟨h1, h2⟩ := range62_of hj
      refine ⟨j, by rw [hv.b.int], h1, h2, After.here (a := rangeN 0 j.toNat 1) q R1 _ fun P hP => ?_⟩
      exact dw_fn (f := fun i => 0 + (i : Nat)) walk_range rangeN_length fun i d hd => by rw [rangeN_get hd, Int.mul_one]
    · exact q.elim
  | _ => exact q.elim
theorem si_range2 (hg : Gl X "range") (hm : X.mg "range" = none) (ha : SO X W a fa) (hb : SO X W b fb) (hp : pln a = true) (hp2 : pln b = true) : SI X W tg (.Call (.Name "range" p) [a, b] [] pos) own fun ρ => Mn.bind (fa ρ) fun d => Mn.bind (fb ρ) fun e => ofOpt (rng2 d e) := by
  refine PI.imp (pi_range2 hg hm (pa_cons ha (pa_cons hb pa_nil (pln_star hp2)) (pln_star hp)) (by rw [pln_star hp, pln_star hp2]; rfl) (pln_star hp2)) fun σ H R h => ?_
  obtain ⟨La, M0, M, ρ, S, R0, h⟩ := h
  refine tD_iff.mpr ⟨La, M0, M, ρ, S, R0, h.bind.mono fun d La1 M1 H1 S1 s1 R1 q v hv => ?_⟩
  refine tD_iff.mpr ⟨La1, M0, M1, ρ, S1, R1, q.bind.mono fun d2 La2 M2 H2 S2 s2 R2 q2 v2 hv2 => ?_⟩
  cases d with
  | int i =>
    cases d2 with
    | int j =>
      have q : After W La2 M0 M2 H2 σ ρ (ofOpt (if range62 i && range62 j then some (rangeN i (j - i).toNat 1) else none) S2) _ := q2
      split at q
      · rename_i hj
        simp only [Bool.and_eq_true] at hj
        obtain ⟨h1, h2⟩ := range62_of hj.1
        obtain ⟨h3, h4⟩ := range62_of hj.2
        refine ⟨i, j, by rw [hv.b.int, hv2.b.int], ⟨h1, h2, h3, h4⟩, After.here (a := rangeN i (j - i).toNat 1) q R2 _ fun P hP => ?_⟩
        exact dw_fn (f := fun k => i + (k : Nat)) walk_range rangeN_length fun k d hd => by rw [rangeN_get hd, Int.mul_one]
      · exact q.elim
    | _ => exact q2.elim
  | _ => exact q2.elim
theorem rng3_eq {d e f : PyData} {xs : List PyData} (h : rng3 d e f = some xs) : ∃ i j, d = .int i ∧ e = .int j ∧ f = .int (-1) ∧ range62 i = true ∧ range62 j = true ∧ xs = rangeN i (i - j).toNat (-1) := by
  unfold rng3 at h
  split at h
  · split at h
    · rename_i hj
      simp only [Bool.and_eq_true] at hj
      cases h
      exact ⟨_, _, rfl, rfl, rfl, hj.1, hj.2, rfl⟩
    · cases h
  · cases h
theorem si_range3 (hg : Gl X "range") (hm : X.mg "range" = none) (ha : SO X W a fa) (hb : SO X W b fb) (hc : SO X W c fc) (hp : pln a = true) (hp2 : pln b = true) (hp3 : pln c = true) :
    SI X W tg (.Call (.Name "range" p) [a, b, c] [] pos) own fun ρ => Mn.bind (fa ρ) fun d => Mn.bind (fb ρ) fun e => Mn.bind (fc ρ) fun f => ofOpt (rng3 d e f) := by
  refine PI.imp (pi_range3 hg hm (pa_cons ha (pa_cons hb (pa_cons hc pa_nil (pln_star hp3)) (pln_star hp2)) (pln_star hp)) (pln_star hp) (pln_back (es := [b, c]) (by simp [hp2, hp3]))) fun σ H R h => ?_
  obtain ⟨La, M0, M, ρ, S, R0, h⟩ := h
  refine tD_iff.mpr ⟨La, M0, M, ρ, S, R0, h.bind.mono fun d La1 M1 H1 S1 s1 R1 q v hv => ?_⟩
  refine tD_iff.mpr ⟨La1, M0, M1, ρ, S1, R1, q.bind.mono fun d2 La2 M2 H2 S2 s2 R2 q2 v2 hv2 => ?_⟩
  refine tD_iff.mpr ⟨La2, M0, M2, ρ, S2, R2, q2.bind.mono fun d3 La3 M3 H3 S3 s3 R3 q3 v3 hv3 => ?_⟩
  cases e : rng3 d d2 d3 with
  | none => rw [e] at q3; exact q3.elim
  | some xs =>
    rw [e] at q3
    obtain ⟨i, j, rfl, rfl, rfl, hi, hj, rfl⟩ := rng3_eq e
    obtain ⟨h1, h2⟩ := range62_of hi
    obtain ⟨h3, h4⟩ := range62_of hj
    refine ⟨i, j, -1, (i - j).toNat, by rw [hv.b.int, hv2.b.int, hv3.b.int], RgC.neg h1 h2 h3 h4, After.here (a := rangeN i (i - j).toNat (-1)) q3 R3 _ fun P hP => ?_⟩
    exact dw_fn (f := fun k => i + (k : Nat) * (-1)) walk_rangeC rangeN_length fun k d hd => rangeN_get hd
theorem si_enum {elts : List Expr} {kk : Nat} {tpos : Pos} (hg : Gl X "enumerate") (hm : X.mg "enumerate" = none) (ha : PE X a (tD W (RO own) fa)) (hp : pln a = true) : SI X W (.Tuple elts kk tpos) (.Call (.Name "enumerate" p) [a] [] pos) own fun ρ => Mn.bind (fa ρ) fun d => ofOpt (enumD d) := by
  refine PI.imp (pi_enumA hg hm (pa_cons ha pa_nil (pln_star hp)) (pln_star hp)) fun σ H R h => ?_
  obtain ⟨La, M0, M, ρ, S, R0, h⟩ := h
  refine tD_iff.mpr ⟨La, M0, M, ρ, S, R0, h.bind.mono fun d La1 M1 H1 S1 s1 R1 q v hv => ?_⟩
  have hap := hv.apart R1.laM
  cases d with
  | list ds =>
    obtain ⟨l, vs, rfl, hr, hx⟩ := hv.b.list
    exact ⟨l, vs, rfl, .inl ⟨.inl hr, After.here (a := ds.zipIdx.map fun p => PyData.tuple [.int p.2, p.1]) q R1 _ fun P hP => dw_enumL (hP.m R1.laM) (hap P hP l rfl) hr hx⟩⟩
  | tuple ds =>
    obtain ⟨l, vs, rfl, _, hr, hx⟩ := hv.b.tup
    exact ⟨l, vs, rfl, .inr ⟨.inl hr, After.here (a := ds.zipIdx.map fun p => PyData.tuple [.int p.2, p.1]) q R1 _ fun P hP => dw_enumT (hP.m R1.laM) (hap P hP l rfl) hr hx⟩⟩
  | _ => exact q.elim
theorem si_zip {elts : List Expr} {kk : Nat} {tpos : Pos} (hg : Gl X "zip") (hm : X.mg "zip" = none) (ha : PE X a (tD W (RO own) fa)) (hb : PE X b (tD W (RO own) fb)) (hp : pln a = true) (hp2 : pln b = true) :
    SI X W (.Tuple elts kk tpos) (.Call (.Name "zip" p) [a, b] [] pos) own fun ρ => Mn.bind (fa ρ) fun d => Mn.bind (fb ρ) fun e => ofOpt (zipD d e) := by
  refine PI.imp (RZ.pi_zipA hg hm (pa_cons ha (pa_cons hb pa_nil (pln_star hp2)) (pln_star hp)) (pln_star hp) (pln_back (es := [b]) (by simp [hp2]))) fun σ H R h => ?_
  obtain ⟨La, M0, M, ρ, S, R0, h⟩ := h
  refine tD_iff.mpr ⟨La, M0, M, ρ, S, R0, h.bind.mono fun d La1 M1 H1 S1 s1 R1 q v hv => ?_⟩
  refine tD_iff.mpr ⟨La1, M0, M1, ρ, S1, R1, q.bind.mono fun d2 La2 M2 H2 S2 s2 R2 q2 v2 hv2 => ?_⟩
  have hv1 := hv.mono s2 R1.dom
  have hap := hv1.apart R2.laM
  have hap2 := hv2.apart R2.laM
  cases d with
  | list ds =>
    cases d2 with
    | list es =>
      obtain ⟨l, vs, rfl, hr, hx⟩ := hv1.b.list
      obtain ⟨l2, ws, rfl, hr2, hx2⟩ := hv2.b.list
      exact ⟨l, l2, vs, ws, rfl, .inl ⟨.inl hr, .inl hr2, After.here (a := (ds.zip es).map fun p => PyData.tuple [p.1, p.2]) q2 R2 _ fun P hP => dw_zipL (hP.m R2.laM) (hap P hP l rfl) (hap2 P hP l2 rfl) hr hr2 hx hx2⟩⟩
    | _ => exact q2.elim
  | tuple ds =>
    cases d2 with
    | tuple es =>
      obtain ⟨l, vs, rfl, _, hr, hx⟩ := hv1.b.tup
      obtain ⟨l2, ws, rfl, _, hr2, hx2⟩ := hv2.b.tup
      exact ⟨l, l2, vs, ws, rfl, .inr ⟨.inl hr, .inl hr2, After.here (a := (ds.zip es).map fun p => PyData.tuple [p.1, p.2]) q2 R2 _ fun P hP => dw_zipT (hP.m R2.laM) (hap P hP l rfl) (hap2 P hP l2 rfl) hr hr2 hx hx2⟩⟩
    | _ => exact q2.elim
  | _ => exact q2.elim
end
end L2.DL

set_option maxHeartbeats 1000000
/-! The data layer, eleventh part: comprehensions. -/
namespace L2.DL
open PySem PySem.Spec PyProof.Rows L2

/-- nothing is carried out -/
abbrev WF : WN := fun _ _ _ => False
/-! ### a list that grows -/
section
variable {La La' : List Addr} {M0 M M' : Addr → Prop} {H H' : Hp} {σ : St} {ρ : Env} {S S' : Store} {D : Addr} {o : HO}
theorem StepE.mut (s : StepE La La' M M' H H') (hD : H D = none) : StepE La La' M M' H (upd H' D o) :=
  { s with
    keep := fun a u e ha => by rw [upd_ne (ne_of_none e hD)]; exact s.keep a u e ha
    there := fun a h => by
      by_cases z : a = D
      · subst z; rw [upd_same]; exact nofun
      · rw [upd_ne z]; exact s.there a h }
theorem keepD_mut (hM : M D) : KeepD M M H (upd H D o) := ⟨fun a u e h => by rw [upd_ne fun z => h (by rw [z]; exact hM)]; exact e, fun a h => .inl h⟩
theorem RelF.mut (R : RelF La M0 M H σ ρ S) (hM : M D) (hL : D ∉ La) (ho : ∀ (i : Nat) (e : PyData), ρ[i]? = some (.own e) → σ[i]? ≠ some (some (.ref D))) : RelF La M0 M (upd H D o) σ ρ S where
  len := R.len
  val := fun i d e => let ⟨v, h1, h2⟩ := R.val i d e; ⟨v, h1, h2.keep (keepD_mut hM)⟩
  own := fun i d e => by
    obtain ⟨a, h1, ⟨h2, h5⟩, h3, h4⟩ := R.own i d e
    have ne : a ≠ D := fun z => ho i d e (by rw [h1, z])
    refine ⟨a, h1, ⟨h2, ?_⟩, h3, h4⟩
    rcases h5 with ⟨xs, ds, e1, e2, e3⟩ | ⟨xs, ds, e1, e2, e3⟩
    · exact .inl ⟨xs, ds, e1, by rw [upd_ne ne]; exact e2, e3.keep (keepD_mut hM)⟩
    · exact .inr ⟨xs, ds, e1, by rw [upd_ne ne]; exact e2, e3.keep (keepD_mut hM)⟩
  ref := R.ref
  dist := R.dist
  sub := R.sub
  dom := fun a h => by
    by_cases z : a = D
    · subst z; rw [upd_same]; exact nofun
    · rw [upd_ne z]; exact R.dom a h
  laM := R.laM
  nd := R.nd
  szs := R.szs
  cells := fun n a ds h1 h2 => by
    obtain ⟨xs, h3, h4⟩ := R.cells n a ds h1 h2
    exact ⟨xs, by rw [upd_ne fun z => hL (by rw [← z]; exact List.mem_of_getElem? h1)]; exact h3, h4.keep (keepD_mut hM)⟩
/-- slots without a value there, too -/
theorem RelF.wipeR (R : RelF La M0 M H σ ρ S) : ∀ vs : List Nat, RelF La M0 M H σ (wipeE ρ vs) S
  | [] => R
  | v :: vs => by
    have ih := RelF.wipeR R vs
    unfold wipeE
    refine ih.slots (by rw [List.length_set]; exact ih.len) fun j => ?_
    by_cases hj : v = j
    · subst hj
      by_cases hlt : v < (wipeE ρ vs).length
      · exact .inr (.inr (List.getElem?_set_self hlt))
      · left
        rw [List.set_eq_of_length_le (by omega)]
        exact ⟨rfl, rfl⟩
    · exact .inl ⟨List.getElem?_set_ne hj, rfl⟩
end
/-- while D grows: from La1, M1, H1, in which D was not there -/
structure AS (D : Addr) (La1 : List Addr) (M0 M1 : Addr → Prop) (H1 : Hp) (σ : St) (ρ : Env) (La : List Addr) (M : Addr → Prop) (H : Hp) (S : Store) (acc : List PyData) : Prop where
  st : StepE La1 La M1 M H1 H
  R : RelF La M0 M H σ ρ S
  mD : M D
  nD : D ∉ La
  it : ∃ vs, H D = some (.lst vs) ∧ IsAll M H vs acc
section
variable {D : Addr} {La1 La La' : List Addr} {M0 M1 M M' : Addr → Prop} {H1 H H' : Hp} {σ σ' : St} {ρ ρ' : Env} {S S' : Store} {acc : List PyData}
theorem AS.same (A : AS D La1 M0 M1 H1 σ ρ La M H S acc) (s : StepE La La' M M' H H') (C : Cells La' M' H' S') : AS D La1 M0 M1 H1 σ ρ La' M' H' S' acc := by
  obtain ⟨vs, h1, h2⟩ := A.it
  refine ⟨A.st.trans s, A.R.back s C, s.up D A.mD, fun z => ?_, vs, s.keep D _ h1 A.nD, h2.mono s.toStep⟩
  have := s.newLa D z A.nD
  rw [h1] at this; cases this
theorem AS.push (A : AS D La1 M0 M1 H1 σ ρ La M H S acc) (hD : H1 D = none) (ho : ∀ (i : Nat) (e : PyData), ρ[i]? = some (.own e) → σ[i]? ≠ some (some (.ref D))) {v : V} {d : PyData} (hv : Is M H v d) :
    ∃ vs, H D = some (.lst vs) ∧ vs.length = acc.length ∧ AS D La1 M0 M1 H1 σ ρ La M (upd H D (.lst (vs ++ [v]))) S (acc ++ [d]) := by
  obtain ⟨vs, h1, h2⟩ := A.it
  refine ⟨vs, h1, h2.length, A.st.mut hD, A.R.mut A.mD A.nD ho, A.mD, A.nD, _, upd_same, ?_⟩
  exact (h2.keep (keepD_mut A.mD)).append (.cons (hv.keep (keepD_mut A.mD)) .nil)
theorem AS.slots (A : AS D La1 M0 M1 H1 σ ρ La M H S acc) (R : RelF La M0 M H σ' ρ' S) : AS D La1 M0 M1 H1 σ' ρ' La M H S acc := ⟨A.st, R, A.mD, A.nD, A.it⟩
theorem AS.keep (A : AS D La1 M0 M1 H1 σ ρ La M H S acc) : KeepD M1 M H1 H := A.st.toStep.keepD
end
theorem catM_ok {α β : Type} {f : α → Mn (List β)} {x : α} {r : List α} {S S2 : Store} {l : List β} (h : catM f (x :: r) S = .ok l S2) : ∃ l1 Sa l2, f x S = .ok l1 Sa ∧ catM f r Sa = .ok l2 S2 ∧ l = l1 ++ l2 := by
  have h : Mn.bind (f x) (fun a => Mn.bind (catM f r) fun b => Mn.pure (a ++ b)) S = .ok l S2 := h
  unfold Mn.bind at h
  cases e : f x S with
  | ok l1 Sa =>
    rw [e] at h
    simp only at h
    cases e2 : catM f r Sa with
    | ok l2 Sb =>
      rw [e2] at h
      cases h
      exact ⟨l1, Sa, l2, rfl, e2, rfl⟩
    | exc c Sb => rw [e2] at h; cases h
    | stuck => rw [e2] at h; cases h
  | exc c Sb => rw [e] at h; cases h
  | stuck => rw [e] at h; cases h
theorem bind_ok {α β : Type} {m : Mn α} {k : α → Mn β} {S S2 : Store} {b : β} (h : Mn.bind m k S = .ok b S2) : ∃ a Sa, m S = .ok a Sa ∧ k a Sa = .ok b S2 := by
  unfold Mn.bind at h
  cases e : m S with
  | ok a Sa => rw [e] at h; exact ⟨a, Sa, rfl, h⟩
  | exc c Sa => rw [e] at h; cases h
  | stuck => rw [e] at h; cases h
theorem ofOpt_ok {α : Type} {o : Option α} {S S2 : Store} {b : α} (h : ofOpt o S = .ok b S2) : o = some b ∧ S2 = S := by
  cases o with
  | none => cases h
  | some a => cases h; exact ⟨rfl, rfl⟩
theorem calm_ok {α : Type} {m : Mn α} {S S2 : Store} {b : α} (h : Mn.calm m S = .ok b S2) : m S = .ok b S2 := by
  unfold Mn.calm at h
  cases e : m S with
  | ok a Sa => rw [e] at h; exact h
  | exc c Sa => rw [e] at h; cases h
  | stuck => rw [e] at h; cases h
theorem drop_get {α : Type} {xs : List α} {i : Nat} {x : α} (h : xs[i]? = some x) : xs.drop i = x :: xs.drop (i + 1) := by
  obtain ⟨hi, rfl⟩ := List.getElem?_eq_some_iff.mp h
  exact List.drop_eq_getElem_cons hi
/-- the meaning of a clause's turn -/
def turnM (tg : List Nat) (β : Env) (ft : Env → Mn Bool) (k : Env → Mn (List PyData)) (x : PyData) : Mn (List PyData) := Mn.bind (ofOpt (bindTg tg x (wipeE β tg))) fun β' => Mn.bind (ft β') fun b => if b then k β' else Mn.pure []
theorem turn_ok {tg : List Nat} {β : Env} {ft : Env → Mn Bool} {k : Env → Mn (List PyData)} {x : PyData} {S S2 : Store} {l : List PyData} (h : turnM tg β ft k x S = .ok l S2) :
    ∃ (β' : Env) (b : Bool) (Sb : Store), bindTg tg x (wipeE β tg) = some β' ∧ ft β' S = .ok b Sb ∧ ((b = true ∧ k β' Sb = .ok l S2) ∨ (b = false ∧ l = [] ∧ S2 = Sb)) := by
  have h : Mn.bind (ofOpt (bindTg tg x (wipeE β tg))) (fun β' => Mn.bind (ft β') fun b => if b then k β' else Mn.pure []) S = .ok l S2 := h
  obtain ⟨β', Sa, q1, q2⟩ := bind_ok h
  obtain ⟨q3, q4⟩ := ofOpt_ok q1
  subst q4
  have q5 : Mn.bind (ft β') (fun b => if b then k β' else Mn.pure []) Sa = .ok l S2 := q2
  obtain ⟨b, Sb, h2, h⟩ := bind_ok q5
  refine ⟨β', b, Sb, q3, h2, ?_⟩
  cases b with
  | true => exact .inl ⟨rfl, h⟩
  | false => cases h; exact .inr ⟨rfl, rfl, rfl⟩
/-- the end of a comprehension's meaning -/
theorem After.list {W : WN} {La : List Addr} {M0 M : Addr → Prop} {H : Hp} {σ : St} {ρ : Env} {S : Store} {m : Mn (List PyData)} {Q : PyData → List Addr → (Addr → Prop) → Hp → Store → Prop}
    (h : After W La M0 M H σ ρ (Mn.bind (Mn.bind (Mn.calm m) fun xs => if xs.length ≤ sizeLine then Mn.pure xs else Mn.stuck) (fun ds => Mn.pure (.list ds)) S) Q) :
    ∃ ds S2, m S = .ok ds S2 ∧ ds.length ≤ sizeLine ∧ ∀ La' M' H', StepE La La' M M' H H' → RelF La' M0 M' H' σ ρ S2 → Q (.list ds) La' M' H' S2 := by
  cases e : m S with
  | exc c S2 => unfold Mn.bind Mn.calm at h; simp only [e] at h; exact False.elim h
  | stuck => unfold Mn.bind Mn.calm at h; simp only [e] at h; exact False.elim h
  | ok ds S2 =>
    unfold Mn.bind Mn.calm at h
    simp only [e] at h
    by_cases hl : ds.length ≤ sizeLine
    · rw [if_pos hl] at h
      exact ⟨ds, S2, rfl, hl, h⟩
    · rw [if_neg hl] at h
      exact False.elim h
/-- the loop's word -/
def LW (D : Addr) (La1 : List Addr) (M0 M1 : Addr → Prop) (H1 : Hp) (σ : St) (ρ : Env) (F : PyData → Mn (List PyData)) (xs ds : List PyData) (S2 : Store) (i : Nat) (H : Hp) : Prop :=
  ∃ La M S acc rest, AS D La1 M0 M1 H1 σ ρ La M H S acc ∧ catM F (xs.drop i) S = .ok rest S2 ∧ acc ++ rest = ds
section
variable {X : Cx} {W : WN} {fi fi1 : Env → Mn (List PyData)} {ft ft1 : Env → Mn Bool} {fe : Env → Mn PyData} {tg tg1 vs : List Nat} {σ : St} {H : Hp} {Q : VK}
theorem own_fresh {La1 : List Addr} {M0 M1 : Addr → Prop} {H1 : Hp} {σ : St} {ρ : Env} {S : Store} {D : Addr} (R : RelF La1 M0 M1 H1 σ ρ S) (hD : H1 D = none) : ∀ (i : Nat) (e : PyData), ρ[i]? = some (.own e) → σ[i]? ≠ some (some (.ref D)) := fun i e h z => by
  obtain ⟨a, h1, h2, _⟩ := R.own i e h
  rw [z] at h1
  cases h1
  exact h2.some hD
theorem wipeE_own {ρ : Env} {i : Nat} {e : PyData} : ∀ {vs : List Nat}, (wipeE ρ vs)[i]? = some (.own e) → ρ[i]? = some (.own e) ∧ i ∉ vs
  | [], h => ⟨h, by simp⟩
  | v :: vs, h => by
    unfold wipeE at h
    by_cases hv : v = i
    · subst hv
      by_cases hlt : v < (wipeE ρ vs).length
      · rw [List.getElem?_set_self hlt] at h; cases h
      · rw [List.getElem?_eq_none (by rw [List.length_set]; omega)] at h; cases h
    · rw [List.getElem?_set_ne hv] at h
      obtain ⟨h1, h2⟩ := wipeE_own h
      exact ⟨h1, by simp only [List.mem_cons, not_or]; exact ⟨fun z => hv z.symm, h2⟩⟩
theorem own_wipe {σ : St} {ρ : Env} {D : Addr} {vs : List Nat} (h : ∀ (i : Nat) (e : PyData), ρ[i]? = some (.own e) → σ[i]? ≠ some (some (.ref D))) : ∀ (i : Nat) (e : PyData), (wipeE ρ vs)[i]? = some (.own e) → (wipe σ vs)[i]? ≠ some (some (.ref D)) := fun i e z q => by
  obtain ⟨h1, h2⟩ := wipeE_own z
  rw [wipe_out h2] at q
  exact h i e h1 q

theorem tLc_D (htg : ∀ i ∈ tg, i ∈ vs)
    (h : tDN W (fun ρ => Mn.bind (okList (Mn.bind (fi ρ) fun xs => Mn.calm (catM (turnM tg (wipeE ρ vs) ft fun β => Mn.bind (fe β) fun d => Mn.pure [d]) xs))) fun ds => Mn.pure (.list ds)) σ H Q) :
    tLc (tDI W true fi) (gD tg) (tDT WF ft) (tD WF IsF fe) vs σ H Q := by
  obtain ⟨La, M0, M, ρ, S, R, h⟩ := h
  unfold okList at h
  simp only [mn_assoc] at h
  refine ⟨La, M0, M, ρ, S, R, h.bind.mono fun xs La1 M1 H1 S1 s1 R1 q J hJ D hD => ?_⟩
  rw [← mn_assoc] at q
  obtain ⟨ds, S2, hcat, hsz, q⟩ := q.list
  obtain ⟨G, Y, wk, hG, hY⟩ := hJ (fun a => a ∈ La1 ∨ H1 a = none) fun a z => z.elim (fun z => .inl z) .inr
  have keepP : ∀ {La M Hb}, StepE La1 La M1 M H1 Hb → ∀ a o, H1 a = some o → ¬ (a ∈ La1 ∨ H1 a = none) → Hb a = some o := fun s a o e hn => s.keep a o e fun z => hn (.inl z)
  have noO := own_wipe (vs := vs) (own_fresh R1 hD)
  refine lc_it wk (LW D La1 M0 M1 H1 (wipe σ vs) (wipeE ρ vs) (turnM tg (wipeE ρ vs) ft fun β => Mn.bind (fe β) fun d => Mn.pure [d]) xs ds S2) ?_ (fun i Hb _ p => ?_) (fun i x Hb Hc hi p hy => ?_) fun Hb p => ?_
  · refine ⟨La1, fun a => M1 a ∨ a = D, S1, [], ds, ⟨StepE.newM R1.laM hD, (R1.newM hD).wipe vs, .inr rfl, fun z => R1.dom D (R1.laM D z) hD, [], upd_same, .nil⟩, hcat, rfl⟩
  · obtain ⟨La', M', S', acc, rest, A, _⟩ := p
    exact hG Hb (keepP A.st)
  · obtain ⟨La', M', S', acc, rest, A, hc, hds⟩ := p
    obtain ⟨d, hd⟩ : ∃ d, xs[i]? = some d := ⟨xs[i], List.getElem?_eq_getElem hi⟩
    obtain ⟨hgrow, hval⟩ := hY i Hb x Hc d hd (keepP A.st) hy
    have hv : Is M' Hc x d := hval M' A.st.mon A.R.dom
    have hgr : Grow Hb Hc := hgrow
    obtain ⟨sg, Rg⟩ := hgr.stepE A.R
    have Ag := A.same sg Rg.cs
    rw [drop_get hd] at hc
    obtain ⟨l1, Sa, l2, hF, hc2, rfl⟩ := catM_ok hc
    obtain ⟨β', b, Sb, hb, hft, hk⟩ := turn_ok hF
    refine ⟨La', M0, M', _, S', d, β', Ag.R.wipeR tg, hv, hb, fun σ2 hl hout R2 => ⟨wipe_same (by rw [hl, wipe_length]) fun j hj => ?_, ?_⟩⟩
    · rw [hout j fun z => hj (htg j z)]
      exact wipe_out hj
    · refine tDT_iff.mpr ⟨La', M0, M', β', S', R2, ?_⟩
      rw [hft]
      intro La3 M3 H3 s3 R3
      have A3 := Ag.same s3 R3.cs
      rcases hk with ⟨rfl, hk⟩ | ⟨rfl, rfl, rfl⟩
      · rw [if_pos rfl]
        obtain ⟨y, Sc, hfe, hk⟩ := bind_ok hk
        cases hk
        refine tD_iff.mpr ⟨La3, M0, M3, β', Sb, R3, ?_⟩
        rw [hfe]
        intro La4 M4 H4 s4 R4 v hv4
        have A4 := A3.same s4 R4.cs
        obtain ⟨ws, h1, h2, A5⟩ := A4.push hD noO hv4
        refine ⟨ws, h1, ?_, La4, M4, Sa, acc ++ [y], l2, A5, hc2, by rw [← hds]; simp⟩
        rw [h2]
        have : (acc ++ ([y] ++ l2)).length = ds.length := by rw [hds]
        simp at this
        omega
      · rw [if_neg Bool.false_ne_true]
        exact ⟨La3, M3, Sa, acc, l2, A3, hc2, by rw [← hds]; simp⟩
  · obtain ⟨La', M', S', acc, rest, A, hc, hds⟩ := p
    rw [List.drop_of_length_le (Nat.le_refl _)] at hc
    cases hc
    rw [List.append_nil] at hds
    subst hds
    refine q La' M' Hb A.st (R1.back A.st A.R.cs) D ?_ A.nD ?_
    · cases e : H D with
      | none => rfl
      | some o => exact absurd hD (s1.there D (by rw [e]; exact nofun))
    · obtain ⟨ws, h1, h2⟩ := A.it
      exact ⟨A.mD, .inl ⟨ws, acc, rfl, h1, h2⟩⟩
end
end L2.DL

set_option maxHeartbeats 1000000
/-! The data layer, twelfth part: comprehensions of two clauses. -/
namespace L2.DL
open PySem PySem.Spec PyProof.Rows L2
section
variable {X : Cx} {W : WN} {fi fi1 : Env → Mn (List PyData)} {ft ft1 : Env → Mn Bool} {fe : Env → Mn PyData} {tg tg1 vs : List Nat} {σ : St} {H : Hp} {Q : VK}
/-- the word of the inner loop -/
def LW1 (D : Addr) (La1 : List Addr) (M0 M1 : Addr → Prop) (H1 : Hp) (σ : St) (ρ : Env) (F : PyData → Mn (List PyData)) (ys all : List PyData) (Sa : Store) (La4 : List Addr) (M4 : Addr → Prop) (H4 : Hp) (j : Nat) (H : Hp) : Prop :=
  ∃ La M S acc rest, AS D La1 M0 M1 H1 σ ρ La M H S acc ∧ KeepD M4 M H4 H ∧ catM F (ys.drop j) S = .ok rest Sa ∧ acc ++ rest = all
theorem keepD_step {M M' M'' : Addr → Prop} {H H' H'' : Hp} {La La' : List Addr} (k : KeepD M M' H H') (s : StepE La La' M' M'' H' H'') : KeepD M M'' H H'' := k.trans s.toStep.keepD
theorem tLc2_D (htg : ∀ i ∈ tg, i ∈ vs) (htg1 : ∀ i ∈ tg1, i ∈ vs)
    (h : tDN W (fun ρ => Mn.bind (okList (Mn.bind (fi ρ) fun xs => Mn.calm (catM (turnM tg (wipeE ρ vs) ft fun β => Mn.bind (fi1 β) fun ys => Mn.calm (catM (turnM tg1 β ft1 fun β => Mn.bind (fe β) fun d => Mn.pure [d]) ys)) xs))) fun ds => Mn.pure (.list ds)) σ H Q) :
    tLc2 (tDI W true fi) (gD tg) (tDT WF ft) (tDI WF false fi1) (gD tg1) (tDT WF ft1) (tD WF IsF fe) vs tg1 σ H Q := by
  obtain ⟨La, M0, M, ρ, S, R, h⟩ := h
  unfold okList at h
  simp only [mn_assoc] at h
  refine ⟨La, M0, M, ρ, S, R, h.bind.mono fun xs La1 M1 H1 S1 s1 R1 q J hJ D hD => ?_⟩
  rw [← mn_assoc] at q
  obtain ⟨ds, S2, hcat, hsz, q⟩ := q.list
  obtain ⟨G, Y, wk, hG, hY⟩ := hJ (fun a => a ∈ La1 ∨ H1 a = none) fun a z => z.elim (fun z => .inl z) .inr
  have keepP : ∀ {La M Hb}, StepE La1 La M1 M H1 Hb → ∀ a o, H1 a = some o → ¬ (a ∈ La1 ∨ H1 a = none) → Hb a = some o := fun s a o e hn => s.keep a o e fun z => hn (.inl z)
  have noO := own_wipe (vs := vs) (own_fresh R1 hD)
  generalize hF : (turnM tg (wipeE ρ vs) ft fun β => Mn.bind (fi1 β) fun ys => Mn.calm (catM (turnM tg1 β ft1 fun β => Mn.bind (fe β) fun d => Mn.pure [d]) ys)) = F at hcat
  -- the walk, as lc_it has it
  refine ⟨fun i m H => m = xs.length - i ∧ i ≤ xs.length ∧ LW D La1 M0 M1 H1 (wipe σ vs) (wipeE ρ vs) F xs ds S2 i H, ⟨xs.length, by simp, Nat.zero_le _, ?_⟩, ?_⟩
  · exact ⟨La1, fun a => M1 a ∨ a = D, S1, [], ds, ⟨StepE.newM R1.laM hD, (R1.newM hD).wipe vs, .inr rfl, fun z => R1.dom D (R1.laM D z) hD, [], upd_same, .nil⟩, hcat, rfl⟩
  rintro i m Hb ⟨rfl, hi, p⟩
  obtain ⟨La', M', S', acc, rest, A, hc, hds⟩ := p
  by_cases hlt : i < xs.length
  · refine .inr ⟨wk.goes i Hb hlt (hG Hb (keepP A.st)), LW D La1 M0 M1 H1 (wipe σ vs) (wipeE ρ vs) F xs ds S2 (i + 1), fun H' p' => ⟨xs.length - (i + 1), by omega, rfl, hlt, p'⟩, fun x Hc hy => ?_⟩
    have hy := wk.yields i Hb x Hc hlt (hG Hb (keepP A.st)) hy
    obtain ⟨d, hd⟩ : ∃ d, xs[i]? = some d := ⟨xs[i], List.getElem?_eq_getElem hlt⟩
    obtain ⟨hgrow, hval⟩ := hY i Hb x Hc d hd (keepP A.st) hy
    have hv : Is M' Hc x d := hval M' A.st.mon A.R.dom
    have hgr : Grow Hb Hc := hgrow
    obtain ⟨sg, Rg⟩ := hgr.stepE A.R
    have Ag := A.same sg Rg.cs
    rw [drop_get hd] at hc
    obtain ⟨l1, Sa, l2, hFd, hc2, rfl⟩ := catM_ok hc
    rw [← hF] at hFd
    obtain ⟨β', b, Sb, hb, hft, hk⟩ := turn_ok hFd
    refine ⟨La', M0, M', _, S', d, β', Ag.R.wipeR tg, hv, hb, fun σ2 hl hout R2 => ⟨wipe_same (by rw [hl, wipe_length]) fun j hj => ?_, ?_⟩⟩
    · rw [hout j fun z => hj (htg j z)]
      exact wipe_out hj
    · refine tDT_iff.mpr ⟨La', M0, M', β', S', R2, ?_⟩
      rw [hft]
      intro La3 M3 H3 s3 R3
      have A3 := Ag.same s3 R3.cs
      rcases hk with ⟨rfl, hk⟩ | ⟨rfl, rfl, rfl⟩
      · rw [if_pos rfl]
        obtain ⟨ys, Sc, hys, hin⟩ := bind_ok hk
        have hin := calm_ok hin
        refine ⟨La3, M0, M3, β', Sb, R3, ?_⟩
        rw [hys]
        intro La4 M4 H4 s4 R4 J1 hJ1
        have A4 := A3.same s4 R4.cs
        obtain ⟨G1, Y1, wk1, hG1, hY1⟩ := hJ1 (fun a => M4 a ∨ H4 a = none) fun a z => z
        have keep1 : ∀ {M Hb}, KeepD M4 M H4 Hb → ∀ a o, H4 a = some o → ¬ (M4 a ∨ H4 a = none) → Hb a = some o := fun k a o e hn => k.keep a o e fun z => hn (.inl z)
        -- no own one is D
        have noO2 : ∀ (i : Nat) (e : PyData), β'[i]? = some (.own e) → σ2[i]? ≠ some (some (.ref D)) := fun k e hke => by
          obtain ⟨a, ha, hoa, hn0, _⟩ := R2.own k e hke
          intro z
          rw [z] at ha
          cases ha
          have hk1 : (wipeE (wipeE ρ vs) tg)[k]? = some (.own e) ∧ k ∉ tg := by
            by_cases hkt : k ∈ tg
            · exfalso
              have key : ∀ (is : List Nat) (es : List PyData) (τ : Env), is.length = es.length → k ∈ is → ∀ e, (setAll τ is es)[k]? ≠ some (.own e) := by
                intro is
                induction is with
                | nil => intro es τ _ h; cases h
                | cons i0 is ih =>
                  intro es τ hle h e hq
                  cases es with
                  | nil => simp at hle
                  | cons e0 es =>
                    have hq : (setAll (τ.set i0 (.val e0)) is es)[k]? = some (.own e) := hq
                    by_cases hm : k ∈ is
                    · exact ih es _ (by simpa using hle) hm e hq
                    · have hk0 : k = i0 := by
                        rcases List.mem_cons.mp h with h | h
                        · exact h
                        · exact absurd h hm
                      have out : ∀ (is : List Nat) (es : List PyData) (τ : Env), k ∉ is → (setAll τ is es)[k]? = τ[k]? := by
                        intro is
                        induction is with
                        | nil => intro es τ _; cases es <;> rfl
                        | cons j js ih2 =>
                          intro es τ hn
                          cases es with
                          | nil => rfl
                          | cons e1 es =>
                            show (setAll (τ.set j (.val e1)) js es)[k]? = _
                            rw [ih2 es _ fun z => hn (List.mem_cons_of_mem _ z), List.getElem?_set_ne fun z => hn (by rw [z]; exact List.mem_cons_self)]
                      rw [out is es _ hm] at hq
                      subst hk0
                      by_cases hlt2 : k < τ.length
                      · rw [List.getElem?_set_self hlt2] at hq; cases hq
                      · rw [List.getElem?_eq_none (by rw [List.length_set]; omega)] at hq; cases hq
              unfold bindTg at hb
              split at hb
              · rename_i i0
                cases hb
                have hk0 : k = i0 := by simpa using hkt
                subst hk0
                by_cases hlt2 : k < (wipeE (wipeE ρ vs) [k]).length
                · rw [List.getElem?_set_self hlt2] at hke; cases hke
                · rw [List.getElem?_eq_none (by rw [List.length_set]; omega)] at hke; cases hke
              · split at hb
                · split at hb
                  · rename_i hle
                    cases hb
                    exact key _ _ _ hle hkt e hke
                  · cases hb
                · split at hb
                  · rename_i hle
                    cases hb
                    exact key _ _ _ hle hkt e hke
                  · cases hb
                · cases hb
            · refine ⟨?_, hkt⟩
              have out : ∀ (is : List Nat) (es : List PyData) (τ : Env), k ∉ is → (setAll τ is es)[k]? = τ[k]? := by
                intro is
                induction is with
                | nil => intro es τ _; cases es <;> rfl
                | cons j js ih2 =>
                  intro es τ hn
                  cases es with
                  | nil => rfl
                  | cons e1 es =>
                    show (setAll (τ.set j (.val e1)) js es)[k]? = _
                    rw [ih2 es _ fun z => hn (List.mem_cons_of_mem _ z), List.getElem?_set_ne fun z => hn (by rw [z]; exact List.mem_cons_self)]
              unfold bindTg at hb
              split at hb
              · rename_i i0
                cases hb
                rw [List.getElem?_set_ne fun z => hkt (by rw [z]; exact List.mem_cons_self)] at hke
                exact hke
              · split at hb
                · split at hb
                  · cases hb
                    rw [out _ _ _ hkt] at hke
                    exact hke
                  · cases hb
                · split at hb
                  · cases hb
                    rw [out _ _ _ hkt] at hke
                    exact hke
                  · cases hb
                · cases hb
          obtain ⟨h1, h2⟩ := wipeE_own hk1.1
          have z2 := hout k h2
          rw [z2] at z
          exact noO k e h1 z
        have noO3 := own_wipe (vs := tg1) noO2
        refine ⟨fun j k H => k = ys.length - j ∧ j ≤ ys.length ∧ LW1 D La1 M0 M1 H1 (wipe σ2 tg1) (wipeE β' tg1) (turnM tg1 β' ft1 fun β => Mn.bind (fe β) fun d => Mn.pure [d]) ys (acc ++ l1) Sa La4 M4 H4 j H, ⟨ys.length, by simp, Nat.zero_le _, ?_⟩, ?_⟩
        · exact ⟨La4, M4, Sc, acc, l1, A4.slots ((R4.wipe tg1)), .refl, hin, rfl⟩
        rintro j k Hd ⟨rfl, hj, p1⟩
        obtain ⟨La5, M5, S5, acc5, rest5, A5, k5, hc5, hds5⟩ := p1
        by_cases hlt1 : j < ys.length
        · refine .inr ⟨wk1.goes j Hd hlt1 (hG1 Hd (keep1 k5)), LW1 D La1 M0 M1 H1 (wipe σ2 tg1) (wipeE β' tg1) (turnM tg1 β' ft1 fun β => Mn.bind (fe β) fun d => Mn.pure [d]) ys (acc ++ l1) Sa La4 M4 H4 (j + 1), fun H' p' => ⟨ys.length - (j + 1), by omega, rfl, hlt1, p'⟩, fun x1 He hy1 => ?_⟩
          have hy1 := wk1.yields j Hd x1 He hlt1 (hG1 Hd (keep1 k5)) hy1
          obtain ⟨d1, hd1⟩ : ∃ d, ys[j]? = some d := ⟨ys[j], List.getElem?_eq_getElem hlt1⟩
          obtain ⟨hgrow1, hval1⟩ := hY1 j Hd x1 He d1 hd1 (keep1 k5) hy1
          have hv1 : Is M5 He x1 d1 := hval1 M5 k5.mon A5.R.dom
          have hgr1 : Grow Hd He := hgrow1
          obtain ⟨sg1, Rg1⟩ := hgr1.stepE A5.R
          have Ag1 := A5.same sg1 Rg1.cs
          rw [drop_get hd1] at hc5
          obtain ⟨m1, Sd, m2, hF1, hc6, rfl⟩ := catM_ok hc5
          obtain ⟨β2, b1, Se, hb1, hft1, hk1⟩ := turn_ok hF1
          refine ⟨La5, M0, M5, _, S5, d1, β2, ?_, hv1, hb1, fun σ3 hl3 hout3 R6 => ⟨wipe_same (by rw [hl3, wipe_length]) fun i hi => ?_, ?_⟩⟩
          · exact Ag1.R
          · rw [hout3 i hi]
            exact wipe_out hi
          · refine tDT_iff.mpr ⟨La5, M0, M5, β2, S5, R6, ?_⟩
            rw [hft1]
            intro La7 M7 H7 s7 R7
            have A7 := Ag1.same s7 R7.cs
            have k7 : KeepD M4 M7 H4 H7 := keepD_step (keepD_step k5 sg1) s7
            rcases hk1 with ⟨rfl, hk1⟩ | ⟨rfl, rfl, rfl⟩
            · rw [if_pos rfl]
              obtain ⟨y, Sf, hfe, hk1⟩ := bind_ok hk1
              cases hk1
              refine tD_iff.mpr ⟨La7, M0, M7, β2, Se, R7, ?_⟩
              rw [hfe]
              intro La8 M8 H8 s8 R8 v hv8
              have A8 := A7.same s8 R8.cs
              obtain ⟨ws, h1, h2, A9⟩ := A8.push hD noO3 hv8
              refine ⟨ws, h1, ?_, La8, M8, Sd, acc5 ++ [y], m2, A9, ?_, hc6, by rw [← hds5]; simp⟩
              · rw [h2]
                have e1 : (acc5 ++ ([y] ++ m2)).length = (acc ++ l1).length := by rw [hds5]
                have e2 : (acc ++ (l1 ++ l2)).length = ds.length := by rw [hds]
                simp at e1 e2
                omega
              · exact (keepD_step k7 s8).trans (keepD_mut A8.mD)
            · rw [if_neg Bool.false_ne_true]
              exact ⟨La7, M7, Sd, acc5, m2, A7, k7, hc6, by rw [← hds5]; simp⟩
        · have e : j = ys.length := by omega
          subst e
          rw [List.drop_of_length_le (Nat.le_refl _)] at hc5
          cases hc5
          rw [List.append_nil] at hds5
          subst hds5
          exact .inl ⟨wk1.stops Hd (hG1 Hd (keep1 k5)), La5, M5, Sa, acc ++ l1, l2, A5.slots (((R1.newM (o := .lst []) hD).wipe vs |> fun (R0 : RelF La1 M0 (fun a => M1 a ∨ a = D) (upd H1 D (.lst [])) (wipe σ vs) (wipeE ρ vs) S1) => (R1.back A5.st A5.R.cs).wipe vs)), hc2, by rw [← hds]; simp⟩
      · rw [if_neg Bool.false_ne_true]
        exact ⟨La3, M3, Sa, acc, l2, A3, hc2, by rw [← hds]; simp⟩
  · have e : i = xs.length := by omega
    subst e
    rw [List.drop_of_length_le (Nat.le_refl _)] at hc
    cases hc
    rw [List.append_nil] at hds
    subst hds
    refine .inl ⟨wk.stops Hb (hG Hb (keepP A.st)), q La' M' Hb A.st (R1.back A.st A.R.cs) D ?_ A.nD ?_⟩
    · cases e : H D with
      | none => rfl
      | some o => exact absurd hD (s1.there D (by rw [e]; exact nofun))
    · obtain ⟨ws, h1, h2⟩ := A.it
      exact ⟨A.mD, .inl ⟨ws, acc, rfl, h1, h2⟩⟩
end
end L2.DL

set_option maxHeartbeats 1000000
/-! The data layer, thirteenth part: statements. -/
namespace L2.DL
open PySem PySem.Spec PyProof.Rows L2

/-- the frame within a def that was entered at La0, M0, H0 -/
structure RelS (La0 : List Addr) (M0 : Addr → Prop) (H0 : Hp) (Mr : Addr → Prop) (Hr : Hp) (La : List Addr) (M : Addr → Prop) (H : Hp) (σ : St) (ρ : Env) (S : Store) : Prop where
  R : RelF La M0 M H σ ρ S
  st : StepE La0 La M0 M H0 H
  kp : KeepD Mr M Hr H
  fr : ∀ (i : Nat) (d : PyData) (a : Addr), ρ[i]? = some (.own d) → σ[i]? = some (some (.ref a)) → H0 a = none
def AfterS (W : WN) (La0 : List Addr) (M0 : Addr → Prop) (H0 : Hp) (Mr : Addr → Prop) (Hr : Hp) (D : Ends) (r : SRes) : Prop :=
  match r with
  | .fin .next ρ' S' => ∀ La' M' σ' H', RelS La0 M0 H0 Mr Hr La' M' H' σ' ρ' S' → D.nx σ' H'
  | .fin .brk ρ' S' => ∀ La' M' σ' H', RelS La0 M0 H0 Mr Hr La' M' H' σ' ρ' S' → D.bk σ' H'
  | .fin .cont ρ' S' => ∀ La' M' σ' H', RelS La0 M0 H0 Mr Hr La' M' H' σ' ρ' S' → D.ct σ' H'
  | .fin (.ret d) ρ' S' => ∀ La' M' σ' H' v, RelS La0 M0 H0 Mr Hr La' M' H' σ' ρ' S' → Is M' H' v d → D.rt v H'
  | .exc c ρ' S' => ∀ La' M' σ' H', RelS La0 M0 H0 Mr Hr La' M' H' σ' ρ' S' → W c σ' H'
  | .stuck => False
def tS (W : WN) (f : Env → Store → SRes) : TS := fun D σ H => ∃ La0 M0 H0 Mr Hr La M ρ S, RelS La0 M0 H0 Mr Hr La M H σ ρ S ∧ AfterS W La0 M0 H0 Mr Hr D (f ρ S)
abbrev SS1 (X : Cx) (W : WN) (st : Stmt) (f : Env → Store → SRes) : Prop := PS X st (tS W f)
abbrev SSs (X : Cx) (W : WN) (st : List Stmt) (f : Env → Store → SRes) : Prop := PSs X st (tS W f)
section
variable {W : WN} {La0 La La' : List Addr} {M0 Mr M M' : Addr → Prop} {H0 Hr H H' : Hp} {σ σ' : St} {ρ ρ' : Env} {S S' : Store} {D : Ends}
theorem RelS.after (R : RelS La0 M0 H0 Mr Hr La M H σ ρ S) (s : StepE La La' M M' H H') (R' : RelF La' M0 M' H' σ ρ S') : RelS La0 M0 H0 Mr Hr La' M' H' σ ρ S' := ⟨R', R.st.trans s, R.kp.trans s.toStep.keepD, R.fr⟩
theorem lift {α : Type} {m : Mn α} {k : α → Store → SRes} (R : RelS La0 M0 H0 Mr Hr La M H σ ρ S) (h : AfterS W La0 M0 H0 Mr Hr D (liftE m ρ k S)) :
    After W La M0 M H σ ρ (m S) fun a La1 M1 H1 S1 => RelS La0 M0 H0 Mr Hr La1 M1 H1 σ ρ S1 ∧ AfterS W La0 M0 H0 Mr Hr D (k a S1) := by
  unfold liftE at h
  cases e : m S with
  | ok a S1 => rw [e] at h; exact fun La1 M1 H1 s R1 => ⟨R.after s R1, h⟩
  | exc c S1 => rw [e] at h; exact fun La1 M1 H1 s R1 => h La1 M1 σ H1 (R.after s R1)
  | stuck => rw [e] at h; exact h
theorem RelS.slots (R : RelS La0 M0 H0 Mr Hr La M H σ ρ S) (R' : RelF La M0 M H σ' ρ' S') (h : ∀ (i : Nat) (d : PyData), ρ'[i]? = some (.own d) → ρ[i]? = some (.own d) ∧ σ'[i]? = σ[i]?) : RelS La0 M0 H0 Mr Hr La M H σ' ρ' S' :=
  ⟨R', R.st, R.kp, fun i d a h1 h2 => let ⟨h3, h4⟩ := h i d h1; R.fr i d a h3 (by rw [← h4]; exact h2)⟩
theorem set_own {ρ : Env} {σ : St} {i j : Nat} {x : Slot} {y : Option V} {d : PyData} (hx : ∀ d, x ≠ .own d) (h : (ρ.set i x)[j]? = some (.own d)) : ρ[j]? = some (.own d) ∧ (σ.set i y)[j]? = σ[j]? := by
  by_cases hj : i = j
  · subst hj
    by_cases hlt : i < ρ.length
    · rw [List.getElem?_set_self hlt] at h
      exact absurd (Option.some.inj h) (hx d)
    · rw [List.getElem?_eq_none (by rw [List.length_set]; omega)] at h; cases h
  · rw [List.getElem?_set_ne hj] at h
    exact ⟨h, List.getElem?_set_ne hj⟩
theorem RelS.setVal (R : RelS La0 M0 H0 Mr Hr La M H σ ρ S) (i : Nat) {v : V} {d : PyData} (hv : Is M H v d) : RelS La0 M0 H0 Mr Hr La M H (σ.set i (some v)) (ρ.set i (.val d)) S :=
  R.slots (R.R.setVal i hv) fun j e h => set_own (fun _ z => by cases z) h
theorem setAll_own {i : Nat} {d : PyData} : ∀ {is : List Nat} {vs : List V} {ds : List PyData} {σ : St} {ρ : Env}, vs.length = ds.length → (setAll ρ is ds)[i]? = some (.own d) → ρ[i]? = some (.own d) ∧ (setSt σ is vs)[i]? = σ[i]?
  | [], vs, ds, σ, ρ, _, h => by cases ds <;> cases vs <;> exact ⟨h, rfl⟩
  | j :: js, [], [], σ, ρ, _, h => ⟨h, rfl⟩
  | j :: js, v :: vs, d' :: ds, σ, ρ, hl, h => by
    have h : (setAll (ρ.set j (.val d')) js ds)[i]? = some (.own d) := h
    obtain ⟨h1, h2⟩ := setAll_own (vs := vs) (σ := σ.set j (some v)) (by simpa using hl) h
    obtain ⟨h3, h4⟩ := set_own (σ := σ) (y := some v) (fun _ z => by cases z) h1
    exact ⟨h3, h2.trans h4⟩
end

section
variable {X : Cx} {W : WN} {st : Stmt} {e : Expr} {fe : Env → Mn PyData} {te : TE} {i : Nat} {pos : Pos}
theorem PS.of {t : TS} {f : Env → Store → SRes} (h : PS X st t) (w : ∀ D σ H, tS W f D σ H → t D σ H) : SS1 X W st f := PS.imp h w
/-- name = e, data -/
theorem s_set (hp : PS X st (tAsg te (gName i))) (hte : ∀ σ H Q, tD W IsF fe σ H Q → te σ H Q) : SS1 X W st fun ρ => liftE (fe ρ) ρ fun d S' => .fin .next (ρ.set i (.val d)) S' := by
  refine PS.imp hp fun D σ H h => ?_
  obtain ⟨La0, M0, H0, Mr, Hr, La, M, ρ, S, R, h⟩ := h
  refine hte _ _ _ (tD_iff.mpr ⟨La, M0, M, ρ, S, R.R, (lift R h).mono fun d La1 M1 H1 S1 s1 R1 q v hv => ?_⟩)
  exact q.2 _ _ _ _ (q.1.setVal i hv)
/-- name = e, a new list -/
theorem s_setOwn (hp : PS X st (tAsg te (gName i))) (hte : ∀ σ H Q, tDN W fe σ H Q → te σ H Q) : SS1 X W st fun ρ => liftE (fe ρ) ρ fun d S' => .fin .next (ρ.set i (.own d)) S' := by
  refine PS.imp hp fun D σ H h => ?_
  obtain ⟨La0, M0, H0, Mr, Hr, La, M, ρ, S, R, h⟩ := h
  refine hte _ _ _ ⟨La, M0, M, ρ, S, R.R, (lift R h).mono fun d La1 M1 H1 S1 s1 R1 q a ha hL ho => ?_⟩
  have hM0 : ¬ M0 a := fun z => R.R.dom a (R.R.sub a z) ha
  have h0 : H0 a = none := by
    cases z : H0 a with
    | none => rfl
    | some o => exact absurd ha (R.st.there a (by rw [z]; exact nofun))
  have ne : ∀ (j : Nat) (e : PyData), ρ[j]? = some (.own e) → σ[j]? ≠ some (some (.ref a)) := own_fresh R.R ha
  have own_of : ∀ (j : Nat) (e : PyData), (ρ.set i (.own d))[j]? = some (.own e) → (j = i ∧ e = d ∧ (σ.set i (some (.ref a)))[j]? = some (some (.ref a))) ∨ (j ≠ i ∧ ρ[j]? = some (.own e) ∧ (σ.set i (some (.ref a)))[j]? = σ[j]?) := fun j e h => by
    by_cases hj : i = j
    · subst hj
      by_cases hlt : i < ρ.length
      · rw [List.getElem?_set_self hlt] at h
        cases h
        exact .inl ⟨rfl, rfl, List.getElem?_set_self (by rw [← R1.len]; exact hlt)⟩
      · rw [List.getElem?_eq_none (by rw [List.length_set]; omega)] at h; cases h
    · rw [List.getElem?_set_ne hj] at h
      exact .inr ⟨fun z => hj z.symm, h, List.getElem?_set_ne hj⟩
  have other : ∀ {s : Slot} (j : Nat), (∀ e, s ≠ .own e) → (ρ.set i (.own d))[j]? = some s → ρ[j]? = some s ∧ (σ.set i (some (.ref a)))[j]? = σ[j]? := fun {s} j hs h => by
    by_cases hj : i = j
    · subst hj
      by_cases hlt : i < ρ.length
      · rw [List.getElem?_set_self hlt] at h
        exact absurd (Option.some.inj h).symm (hs d)
      · rw [List.getElem?_eq_none (by rw [List.length_set]; omega)] at h; cases h
    · rw [List.getElem?_set_ne hj] at h
      exact ⟨h, List.getElem?_set_ne hj⟩
  refine q.2 La1 M1 _ H1 ⟨?_, q.1.st, q.1.kp, fun j e b h1 h2 => ?_⟩
  · exact {
      len := by rw [List.length_set, List.length_set]; exact R1.len
      val := fun j e h => by
        obtain ⟨h1, h2⟩ := other j (fun _ z => by cases z) h
        rw [h2]; exact R1.val j e h1
      own := fun j e h => by
        rcases own_of j e h with ⟨rfl, rfl, h3⟩ | ⟨_, h1, h2⟩
        · exact ⟨a, h3, ho, hM0, hL⟩
        · rw [h2]; exact R1.own j e h1
      ref := fun j n h => by
        obtain ⟨h1, h2⟩ := other j (fun _ z => by cases z) h
        rw [h2]; exact R1.ref j n h1
      dist := fun j k e f b q1 q2 q3 q4 => by
        rcases own_of j e q1 with ⟨rfl, rfl, h3⟩ | ⟨_, h1, h2⟩
        · rcases own_of k f q2 with ⟨rfl, _, _⟩ | ⟨_, h5, h6⟩
          · rfl
          · rw [h3] at q3; cases q3
            rw [h6] at q4
            exact absurd q4 (ne k f h5)
        · rcases own_of k f q2 with ⟨rfl, _, h7⟩ | ⟨_, h5, h6⟩
          · rw [h7] at q4; cases q4
            rw [h2] at q3
            exact absurd q3 (ne j e h1)
          · exact R1.dist j k e f b h1 h5 (by rw [← h2]; exact q3) (by rw [← h6]; exact q4)
      sub := R1.sub
      dom := R1.dom
      laM := R1.laM
      nd := R1.nd
      szs := R1.szs
      cells := R1.cells }
  · rcases own_of j e h1 with ⟨rfl, rfl, h3⟩ | ⟨_, h3, h4⟩
    · rw [h3] at h2; cases h2; exact h0
    · rw [h4] at h2; exact R.fr j e b h3 h2
/-- name = e, a new list that is handed on -/
theorem s_newCell (hp : PS X st (tAsg te (gName i))) (hte : ∀ σ H Q, tDN W fe σ H Q → te σ H Q) : SS1 X W st fun ρ => liftE (fe ρ) ρ fun d S' => match d with
      | .list xs => .fin .next (ρ.set i (.ref S'.length)) (S' ++ [xs])
      | _ => .stuck := by
  refine PS.imp hp fun D σ H h => ?_
  obtain ⟨La0, M0, H0, Mr, Hr, La, M, ρ, S, R, h⟩ := h
  refine hte _ _ _ ⟨La, M0, M, ρ, S, R.R, (lift R h).mono fun d La1 M1 H1 S1 s1 R1 q a ha hL ho => ?_⟩
  cases d with
  | list xs =>
    have h0 : H0 a = none := by
      cases z : H0 a with
      | none => rfl
      | some o => exact absurd ha (R.st.there a (by rw [z]; exact nofun))
    have ne : ∀ (j : Nat) (e : PyData), ρ[j]? = some (.own e) → σ[j]? ≠ some (some (.ref a)) := own_fresh R.R ha
    have hlen : La1.length = S1.length := R1.szs
    have other : ∀ {s : Slot} (j : Nat), (∀ n, s ≠ .ref n) → (ρ.set i (.ref S1.length))[j]? = some s → ρ[j]? = some s ∧ (σ.set i (some (.ref a)))[j]? = σ[j]? := fun {s} j hs h => by
      by_cases hj : i = j
      · subst hj
        by_cases hlt : i < ρ.length
        · rw [List.getElem?_set_self hlt] at h
          exact absurd (Option.some.inj h).symm (hs S1.length)
        · rw [List.getElem?_eq_none (by rw [List.length_set]; omega)] at h; cases h
      · rw [List.getElem?_set_ne hj] at h
        exact ⟨h, List.getElem?_set_ne hj⟩
    refine q.2 (La1 ++ [a]) M1 _ H1 ⟨?_, ?_, q.1.kp, fun j e b h1 h2 => ?_⟩
    · exact {
        len := by rw [List.length_set, List.length_set]; exact R1.len
        val := fun j e h => by
          obtain ⟨h1, h2⟩ := other j (fun _ z => by cases z) h
          rw [h2]; exact R1.val j e h1
        own := fun j e h => by
          obtain ⟨h1, h2⟩ := other j (fun _ z => by cases z) h
          obtain ⟨b, h3, h4, h5, h6⟩ := R1.own j e h1
          refine ⟨b, by rw [h2]; exact h3, h4, h5, fun z => ?_⟩
          rcases List.mem_append.mp z with z | z
          · exact h6 z
          · rw [List.mem_singleton] at z
            rw [z] at h3
            exact ne j e h1 h3
        ref := fun j n h => by
          by_cases hj : i = j
          · subst hj
            by_cases hlt : i < ρ.length
            · rw [List.getElem?_set_self hlt] at h
              cases h
              exact ⟨a, List.getElem?_set_self (by rw [← R1.len]; exact hlt), by rw [← hlen]; simp⟩
            · rw [List.getElem?_eq_none (by rw [List.length_set]; omega)] at h; cases h
          · rw [List.getElem?_set_ne hj] at h
            obtain ⟨b, h1, h2⟩ := R1.ref j n h
            refine ⟨b, by rw [List.getElem?_set_ne hj]; exact h1, ?_⟩
            rw [List.getElem?_append_left (List.getElem?_eq_some_iff.mp h2).1]
            exact h2
        dist := fun j k e f b q1 q2 q3 q4 => by
          obtain ⟨h1, h2⟩ := other j (fun _ z => by cases z) q1
          obtain ⟨h5, h6⟩ := other k (fun _ z => by cases z) q2
          exact R1.dist j k e f b h1 h5 (by rw [← h2]; exact q3) (by rw [← h6]; exact q4)
        sub := R1.sub
        dom := R1.dom
        laM := fun b hb => by
          rcases List.mem_append.mp hb with z | z
          · exact R1.laM b z
          · rw [List.mem_singleton] at z; rw [z]; exact ho.1
        nd := List.nodup_append.mpr ⟨R1.nd, by simp, fun b hb c hc z => by rw [List.mem_singleton] at hc; subst hc; subst z; exact hL hb⟩
        szs := by rw [List.length_append, List.length_append, hlen]; rfl
        cells := fun n b ds h1 h2 => by
          by_cases hn : n < La1.length
          · rw [List.getElem?_append_left hn] at h1
            rw [List.getElem?_append_left (by omega)] at h2
            exact R1.cells n b ds h1 h2
          · have hn2 : n = La1.length := by
              have := (List.getElem?_eq_some_iff.mp h1).1
              rw [List.length_append, List.length_singleton] at this
              omega
            subst hn2
            simp at h1
            rw [hlen] at h2
            simp at h2
            subst h1; subst h2
            obtain ⟨_, ⟨ws, ds, e1, e2, e3⟩ | ⟨_, _, e1, _⟩⟩ := ho
            · cases e1; exact ⟨ws, e2, e3⟩
            · cases e1 }
    · exact { q.1.st with
        la := q.1.st.la.trans ⟨[a], rfl⟩
        newLa := fun b hb hn => by
          rcases List.mem_append.mp hb with z | z
          · exact q.1.st.newLa b z hn
          · rw [List.mem_singleton] at z; rw [z]; exact h0 }
    · obtain ⟨h3, h4⟩ := other j (fun _ z => by cases z) h1
      rw [h4] at h2
      exact R.fr j e b h3 h2
  | _ => exact q.2.elim
/-- names = e -/
theorem s_unp {tgt : Expr} {tg : List Nat} (hp : PS X st (tAsg (tD W IsF fe) (gD tg))) : SS1 X W st fun ρ => liftE (fe ρ) ρ fun d S' => match bindTg tg d ρ with
      | some ρ' => .fin .next ρ' S'
      | none => .stuck := by
  refine PS.imp hp fun D σ H h => ?_
  obtain ⟨La0, M0, H0, Mr, Hr, La, M, ρ, S, R, h⟩ := h
  refine tD_iff.mpr ⟨La, M0, M, ρ, S, R.R, (lift R h).mono fun d La1 M1 H1 S1 s1 R1 q v hv => ?_⟩
  obtain ⟨q1, q2⟩ := q
  cases e : bindTg tg d ρ with
  | none => rw [e] at q2; exact q2.elim
  | some ρ' =>
    rw [e] at q2
    refine ⟨La1, M0, M1, ρ, S1, d, ρ', R1, hv, e, fun σ' hl hout R' => q2 _ _ _ _ (q1.slots R' fun j x hx => ?_)⟩
    have key : ∀ (is : List Nat) (ds : List PyData) (τ : Env), j ∈ is → is.length = ds.length → (setAll τ is ds)[j]? ≠ some (.own x) := by
      intro is
      induction is with
      | nil => intro ds τ h; cases h
      | cons i0 is ih =>
        intro ds τ h hle hq
        cases ds with
        | nil => simp at hle
        | cons d0 ds =>
          have hq : (setAll (τ.set i0 (.val d0)) is ds)[j]? = some (.own x) := hq
          by_cases hm : j ∈ is
          · exact ih ds _ hm (by simpa using hle) hq
          · have hj0 : j = i0 := by
              rcases List.mem_cons.mp h with h | h
              · exact h
              · exact absurd h hm
            obtain ⟨h1, _⟩ := setAll_own (vs := List.replicate ds.length .non) (σ := []) (by simp) hq
            subst hj0
            obtain ⟨h2, _⟩ := set_own (σ := []) (y := none) (fun _ z => by cases z) h1
            by_cases hlt : j < τ.length
            · rw [List.getElem?_set_self hlt] at h1; cases h1
            · rw [List.getElem?_eq_none (by omega)] at h2; cases h2
    have nin : j ∉ tg := fun hm => by
      unfold bindTg at e
      split at e
      · rename_i i0
        cases e
        have hj0 : j = i0 := by simpa using hm
        subst hj0
        obtain ⟨h2, _⟩ := set_own (σ := []) (y := none) (fun _ z => by cases z) hx
        by_cases hlt : j < ρ.length
        · rw [List.getElem?_set_self hlt] at hx; cases hx
        · rw [List.getElem?_eq_none (by omega)] at h2; cases h2
      · split at e
        · split at e
          · rename_i hle
            cases e
            exact key _ _ _ hm hle hx
          · cases e
        · split at e
          · rename_i hle
            cases e
            exact key _ _ _ hm hle hx
          · cases e
        · cases e
    refine ⟨?_, hout j nin⟩
    unfold bindTg at e
    split at e
    · cases e
      exact (set_own (σ := []) (y := none) (fun _ z => by cases z) hx).1
    · split at e
      · split at e
        · cases e
          exact (setAll_own (vs := List.replicate _ .non) (σ := []) (List.length_replicate ..) hx).1
        · cases e
      · split at e
        · cases e
          exact (setAll_own (vs := List.replicate _ .non) (σ := []) (List.length_replicate ..) hx).1
        · cases e
      · cases e
/-- a, b = x, y -/
theorem s_par {j : Nat} {fs : Env → Mn (List PyData)} (hp : PS X st (tPar i j (tDA W IsF fs))) : SS1 X W st fun ρ => liftE (fs ρ) ρ fun ds S' => match ds with
      | [x, y] => .fin .next ((ρ.set i (.val x)).set j (.val y)) S'
      | _ => .stuck := by
  refine PS.imp hp fun D σ H h => ?_
  obtain ⟨La0, M0, H0, Mr, Hr, La, M, ρ, S, R, h⟩ := h
  refine tDA_iff.mpr ⟨La, M0, M, ρ, S, R.R, (lift R h).mono fun ds La1 M1 H1 S1 s1 R1 q vs hv => ?_⟩
  obtain ⟨q1, q2⟩ := q
  cases hv with
  | nil => exact q2.elim
  | cons h1 t1 =>
    cases t1 with
    | nil => exact q2.elim
    | cons h2 t2 =>
      cases t2 with
      | nil => exact ⟨_, _, rfl, q2 _ _ _ _ ((q1.setVal i h1).setVal j h2)⟩
      | cons _ _ => exact q2.elim
/-- name op= e -/
def bopA : Bop → Operator := bopP
theorem ip_D (op : Bop) {x y : PyData} {d : PyData} (e : augD op x y = some d) : ∃ i j, x = .int i ∧ y = .int j ∧ ((op = .add ∧ d = .int (i + j)) ∨ (op = .sub ∧ d = .int (i - j))) := by
  unfold augD at e
  split at e
  · cases e; exact ⟨_, _, rfl, rfl, .inl ⟨rfl, rfl⟩⟩
  · cases e; exact ⟨_, _, rfl, rfl, .inr ⟨rfl, rfl⟩⟩
  · cases e
def rIp (op : Bop) : TIp := fun x y H Q => ∃ (M : Addr → Prop) (dx dy d : PyData), IsB M H x dx ∧ IsB M H y dy ∧ augD op dx dy = some d ∧ ∀ v, Is M H v d → Q v H
theorem ip_augD (op : Bop) : PIp X (bopP op) (rIp op) := by
  intro pins s σ H x y v u Q I r1 r2 h
  obtain ⟨M, dx, dy, d, hx, hy, e, q⟩ := h
  obtain ⟨i, j, rfl, rfl, ⟨rfl, rfl⟩ | ⟨rfl, rfl⟩⟩ := ip_D op e
  · have e1 := hx.int; have e2 := hy.int; subst e1; subst e2
    exact ip_add pins s σ H _ _ v u Q I r1 r2 ⟨i, j, rfl, rfl, q _ (.int _)⟩
  · have e1 := hx.int; have e2 := hy.int; subst e1; subst e2
    exact ip_sub pins s σ H _ _ v u Q I r1 r2 ⟨i, j, rfl, rfl, q _ (.int _)⟩
theorem s_aug {op : Bop} (hp : PS X st (tAug i (tD W IsO fe) (rIp op))) : SS1 X W st fun ρ => liftE (Mn.bind (getVal ρ i) fun x => Mn.bind (fe ρ) fun y => ofOpt (augD op x y)) ρ fun d S' => .fin .next (ρ.set i (.val d)) S' := by
  refine PS.imp hp fun D σ H h => ?_
  obtain ⟨La0, M0, H0, Mr, Hr, La, M, ρ, S, R, h⟩ := h
  have h := (lift R h).bind
  simp only [getVal] at h
  cases e : ρ[i]? with
  | none => rw [e] at h; exact False.elim h
  | some sl =>
    rw [e] at h
    cases sl with
    | val d =>
      obtain ⟨x, h1, h2⟩ := R.R.val i d e
      have h := After.here (a := d) h R.R
      refine ⟨x, h1, tD_iff.mpr ⟨La, M0, M, ρ, S, R.R, h.bind.mono fun dy La1 M1 H1 S1 s1 R1 q y hy => ?_⟩⟩
      cases e2 : augD op d dy with
      | none => rw [e2] at q; exact q.elim
      | some z =>
        rw [e2] at q
        obtain ⟨q1, q2⟩ := After.here (a := z) q R1
        exact ⟨M1, d, dy, z, .inl (h2.mono s1.toStep), hy.b, e2, fun v hv => q2 _ _ _ _ (q1.setVal i hv)⟩
    | _ => exact False.elim h
/-- an expression alone -/
theorem s_ex (hp : PS X st (tDrop (tD W IsO fe))) : SS1 X W st fun ρ => liftE (fe ρ) ρ fun _ S' => .fin .next ρ S' := by
  refine PS.imp hp fun D σ H h => ?_
  obtain ⟨La0, M0, H0, Mr, Hr, La, M, ρ, S, R, h⟩ := h
  exact tD_iff.mpr ⟨La, M0, M, ρ, S, R.R, (lift R h).mono fun d La1 M1 H1 S1 s1 R1 q v hv => q.2 _ _ _ _ q.1⟩
theorem s_ret (hp : PS X st (tRet te)) (hte : ∀ σ H Q, tD W IsF fe σ H Q → te σ H Q) : SS1 X W st fun ρ => liftE (fe ρ) ρ fun d S' => .fin (.ret d) ρ S' := by
  refine PS.imp hp fun D σ H h => ?_
  obtain ⟨La0, M0, H0, Mr, Hr, La, M, ρ, S, R, h⟩ := h
  exact hte _ _ _ (tD_iff.mpr ⟨La, M0, M, ρ, S, R.R, (lift R h).mono fun d La1 M1 H1 S1 s1 R1 q v hv => q.2 _ _ _ _ _ q.1 hv⟩)
theorem s_pass : SS1 X W (.Pass pos) fun ρ S => .fin .next ρ S := PS.imp ps_pass fun D σ H h => by
  obtain ⟨La0, M0, H0, Mr, Hr, La, M, ρ, S, R, h⟩ := h
  exact h _ _ _ _ R
theorem s_brk : SS1 X W (.Break pos) fun ρ S => .fin .brk ρ S := PS.imp ps_break fun D σ H h => by
  obtain ⟨La0, M0, H0, Mr, Hr, La, M, ρ, S, R, h⟩ := h
  exact h _ _ _ _ R
theorem s_cont : SS1 X W (.Continue pos) fun ρ S => .fin .cont ρ S := PS.imp ps_continue fun D σ H h => by
  obtain ⟨La0, M0, H0, Mr, Hr, La, M, ρ, S, R, h⟩ := h
  exact h _ _ _ _ R
theorem s_doc {x j pos pos'} : SS1 X W (.Expr (.Constant (.str x) j pos) pos') fun ρ S => .fin .next ρ S := PS.imp ps_doc fun D σ H h => by
  obtain ⟨La0, M0, H0, Mr, Hr, La, M, ρ, S, R, h⟩ := h
  exact h _ _ _ _ R
variable {t : Expr} {ft : Env → Mn Bool} {a b : List Stmt} {fa fb : Env → Store → SRes}
theorem s_if (ht : ST X W t ft) (ha : SSs X W a fa) (hb : SSs X W b fb) : SS1 X W (.If t a b pos) fun ρ => liftE (ft ρ) ρ fun k S' => if k then fa ρ S' else fb ρ S' := by
  refine PS.imp (ps_if ht ha hb) fun D σ H h => ?_
  obtain ⟨La0, M0, H0, Mr, Hr, La, M, ρ, S, R, h⟩ := h
  refine tDT_iff.mpr ⟨La, M0, M, ρ, S, R.R, (lift R h).mono fun k La1 M1 H1 S1 s1 R1 q => ?_⟩
  cases k with
  | true => exact ⟨La0, M0, H0, Mr, Hr, La1, M1, ρ, S1, q.1, q.2⟩
  | false => exact ⟨La0, M0, H0, Mr, Hr, La1, M1, ρ, S1, q.1, q.2⟩
theorem ss_nilS : SSs X W [] fun ρ S => .fin .next ρ S := PSs.imp pss_nil fun D σ H h => by
  obtain ⟨La0, M0, H0, Mr, Hr, La, M, ρ, S, R, h⟩ := h
  exact h _ _ _ _ R
end
end L2.DL

set_option maxHeartbeats 1000000
/-! The data layer, fourteenth part: lists that change. -/
namespace L2.DL
open PySem PySem.Spec PyProof.Rows L2

section
variable {La0 La : List Addr} {M0 Mr M : Addr → Prop} {H0 Hr H : Hp} {σ σ' : St} {ρ ρ' : Env} {S S' : Store} {a : Addr} {d d' : PyData} {i : Nat} {o : HO}
theorem RelF.putOwn (R : RelF La M0 M H σ ρ S) (hi : i < ρ.length) (hσ : σ[i]? = some (some (.ref a))) (ho : OwnAt M H a d) (h0 : ¬ M0 a) (hL : a ∉ La) (ne : ∀ (j : Nat) (e : PyData), j ≠ i → ρ[j]? = some (.own e) → σ[j]? ≠ some (some (.ref a))) :
    RelF La M0 M H σ (ρ.set i (.own d)) S := by
  have own_of : ∀ (j : Nat) (e : PyData), (ρ.set i (.own d))[j]? = some (.own e) → (j = i ∧ e = d) ∨ (j ≠ i ∧ ρ[j]? = some (.own e)) := fun j e h => by
    by_cases hj : i = j
    · subst hj
      rw [List.getElem?_set_self hi] at h
      cases h
      exact .inl ⟨rfl, rfl⟩
    · rw [List.getElem?_set_ne hj] at h
      exact .inr ⟨fun z => hj z.symm, h⟩
  have other : ∀ {s : Slot} (j : Nat), (∀ e, s ≠ .own e) → (ρ.set i (.own d))[j]? = some s → ρ[j]? = some s := fun {s} j hs h => by
    by_cases hj : i = j
    · subst hj
      rw [List.getElem?_set_self hi] at h
      exact absurd (Option.some.inj h).symm (hs d)
    · rw [List.getElem?_set_ne hj] at h
      exact h
  exact {
    len := by rw [List.length_set]; exact R.len
    val := fun j e h => R.val j e (other j (fun _ z => by cases z) h)
    own := fun j e h => by
      rcases own_of j e h with ⟨rfl, rfl⟩ | ⟨_, h1⟩
      · exact ⟨a, hσ, ho, h0, hL⟩
      · exact R.own j e h1
    ref := fun j n h => R.ref j n (other j (fun _ z => by cases z) h)
    dist := fun j k e f b q1 q2 q3 q4 => by
      rcases own_of j e q1 with ⟨rfl, rfl⟩ | ⟨nj, h1⟩
      · rcases own_of k f q2 with ⟨rfl, _⟩ | ⟨nk, h5⟩
        · rfl
        · rw [hσ] at q3; cases q3
          exact absurd q4 (ne k f nk h5)
      · rcases own_of k f q2 with ⟨rfl, _⟩ | ⟨nk, h5⟩
        · rw [hσ] at q4; cases q4
          exact absurd q3 (ne j e nj h1)
        · exact R.dist j k e f b h1 h5 q3 q4
    sub := R.sub
    dom := R.dom
    laM := R.laM
    nd := R.nd
    szs := R.szs
    cells := R.cells }
theorem RelF.noAt (R : RelF La M0 M H σ ρ S) (i : Nat) : RelF La M0 M H σ (ρ.set i .no) S := by
  refine R.slots (by rw [List.length_set]; exact R.len) fun j => ?_
  by_cases hj : i = j
  · subst hj
    by_cases hlt : i < ρ.length
    · exact .inr (.inr (List.getElem?_set_self hlt))
    · left
      rw [List.set_eq_of_length_le (by omega)]
      exact ⟨rfl, rfl⟩
  · exact .inl ⟨List.getElem?_set_ne hj, rfl⟩
theorem own_ne (R : RelF La M0 M H σ ρ S) (hi : ρ[i]? = some (.own d)) (hσ : σ[i]? = some (some (.ref a))) : ∀ (j : Nat) (e : PyData), j ≠ i → ρ[j]? = some (.own e) → σ[j]? ≠ some (some (.ref a)) :=
  fun j e hj h z => hj (R.dist j i e d a h hi z hσ)
theorem own_no (R : RelF La M0 M H σ ρ S) (hi : ρ[i]? = some (.own d)) (hσ : σ[i]? = some (some (.ref a))) : ∀ (j : Nat) (e : PyData), (ρ.set i .no)[j]? = some (.own e) → σ[j]? ≠ some (some (.ref a)) := fun j e h => by
  have hlt : i < ρ.length := (List.getElem?_eq_some_iff.mp hi).1
  by_cases hj : i = j
  · subst hj
    rw [List.getElem?_set_self hlt] at h; cases h
  · rw [List.getElem?_set_ne hj] at h
    exact own_ne R hi hσ j e (fun z => hj z.symm) h
/-- an own one changes -/
theorem RelS.mutOwn (R : RelS La0 M0 H0 Mr Hr La M H σ ρ S) (hi : ρ[i]? = some (.own d)) (hσ : σ[i]? = some (some (.ref a))) (ho : OwnAt M (upd H a o) a d') : RelS La0 M0 H0 Mr Hr La M (upd H a o) σ (ρ.set i (.own d')) S := by
  have hlt : i < ρ.length := (List.getElem?_eq_some_iff.mp hi).1
  obtain ⟨b, h1, h2, h3, h4⟩ := R.R.own i d hi
  rw [hσ] at h1; cases h1
  have R1 := (R.R.noAt i).mut (o := o) h2.1 h4 (own_no R.R hi hσ)
  have R2 := R1.putOwn (i := i) (d := d') (by rw [List.length_set]; exact hlt) hσ ho h3 h4 fun j e _ h => own_no R.R hi hσ j e h
  rw [List.set_set] at R2
  refine ⟨R2, R.st.mut (R.fr i d a hi hσ), R.kp.trans (keepD_mut h2.1), fun j e b q1 q2 => ?_⟩
  by_cases hj : i = j
  · subst hj
    exact R.fr i d b hi q2
  · rw [List.getElem?_set_ne hj] at q1
    exact R.fr j e b q1 q2
theorem RelS.frz (R : RelS La0 M0 H0 Mr Hr La M H σ ρ S) (i : Nat) : ∃ M', RelS La0 M0 H0 Mr Hr La M' H σ (frzAt ρ i) S := by
  unfold frzAt
  split
  · rename_i d hi
    have hlt : i < ρ.length := (List.getElem?_eq_some_iff.mp hi).1
    obtain ⟨a, h1, h2, h3, h4⟩ := R.R.own i d hi
    have R1 := (R.R.noAt i).drop h4 h3 (own_no R.R hi h1)
    have hv : Is (less M a) H (.ref a) d := h2.freeze (fun _ h => h.1) fun z => z.2 rfl
    have R2 : RelF La M0 (less M a) H σ (ρ.set i (.val d)) S := by
      refine R1.slots (by rw [List.length_set]; exact R.R.len) fun j => ?_
      by_cases hj : i = j
      · subst hj
        exact .inr (.inl ⟨d, .ref a, List.getElem?_set_self hlt, h1, hv⟩)
      · exact .inl ⟨by rw [List.getElem?_set_ne hj, List.getElem?_set_ne hj], rfl⟩
    refine ⟨less M a, R2, ?_, R.kp.trans ⟨fun _ _ e _ => e, fun _ z => .inl z.1⟩, fun j e b q1 q2 => ?_⟩
    · exact { R.st with
        mon := fun b z => R.st.mon b z.1
        up := fun b z => ⟨R.st.up b z, fun q => h3 (q ▸ z)⟩ }
    · by_cases hj : i = j
      · subst hj
        rw [List.getElem?_set_self hlt] at q1; cases q1
      · rw [List.getElem?_set_ne hj] at q1
        exact R.fr j e b q1 q2
  · exact ⟨M, R⟩
theorem ownOf_some (h : ownOf ρ i = some d) : ρ[i]? = some (.own d) := by
  unfold ownOf at h
  split at h
  · rename_i e he
    cases h
    exact he
  · cases h
/-- a cell changes -/
theorem RelS.mutCell (R : RelS La0 M0 H0 Mr Hr La M H σ ρ S) {n : Nat} {vs : List V} {ds : List PyData} (hn : La[n]? = some a) (hv : IsAll M H vs ds) : RelS La0 M0 H0 Mr Hr La M (upd H a (.lst vs)) σ ρ (S.set n ds) := by
  have hm : a ∈ La := List.mem_of_getElem? hn
  have hM : M a := R.R.laM a hm
  have k : KeepD M M H (upd H a (.lst vs)) := keepD_mut hM
  refine ⟨?_, ?_, R.kp.trans k, R.fr⟩
  · exact {
      len := R.R.len
      val := fun i d e => let ⟨v, h1, h2⟩ := R.R.val i d e; ⟨v, h1, h2.keep k⟩
      own := fun i d e => by
        obtain ⟨b, h1, ⟨h2, h5⟩, h3, h4⟩ := R.R.own i d e
        have ne : b ≠ a := fun z => h4 (z ▸ hm)
        refine ⟨b, h1, ⟨h2, ?_⟩, h3, h4⟩
        rcases h5 with ⟨xs, ds, e1, e2, e3⟩ | ⟨xs, ds, e1, e2, e3⟩
        · exact .inl ⟨xs, ds, e1, by rw [upd_ne ne]; exact e2, e3.keep k⟩
        · exact .inr ⟨xs, ds, e1, by rw [upd_ne ne]; exact e2, e3.keep k⟩
      ref := R.R.ref
      dist := R.R.dist
      sub := R.R.sub
      dom := fun b h => by
        by_cases z : b = a
        · subst z; rw [upd_same]; exact nofun
        · rw [upd_ne z]; exact R.R.dom b h
      laM := R.R.laM
      nd := R.R.nd
      szs := by rw [List.length_set]; exact R.R.szs
      cells := fun m b es h1 h2 => by
        by_cases hmn : n = m
        · subst hmn
          rw [hn] at h1; cases h1
          rw [List.getElem?_set_self (by rw [← R.R.szs]; exact (List.getElem?_eq_some_iff.mp hn).1)] at h2
          cases h2
          exact ⟨vs, upd_same, hv.keep k⟩
        · rw [List.getElem?_set_ne hmn] at h2
          obtain ⟨xs, h3, h4⟩ := R.R.cells m b es h1 h2
          have ne : b ≠ a := fun z => by
            subst z
            exact hmn ((List.getElem?_inj (List.getElem?_eq_some_iff.mp hn).1 R.R.nd).mp (hn.trans h1.symm))
          exact ⟨xs, by rw [upd_ne ne]; exact h3, h4.keep k⟩ }
  · exact { R.st with
      keep := fun b u e hb => by
        have ne : b ≠ a := fun z => by
          subst z
          have := R.st.newLa b hm hb
          rw [e] at this; cases this
        rw [upd_ne ne]
        exact R.st.keep b u e hb
      there := fun b h => by
        by_cases z : b = a
        · subst z; rw [upd_same]; exact nofun
        · rw [upd_ne z]; exact R.st.there b h }
end

section
variable {X : Cx} {W : WN} {st : Stmt} {e k : Expr} {fe fk : Env → Mn PyData} {te : TE} {i : Nat} {pos p apos cpos : Pos} {x : Str} {sts : List Stmt} {f g : Env → Store → SRes}
theorem ss_consS (ha : SS1 X W st f) (hb : SSs X W sts g) : SSs X W (st :: sts) fun ρ S => match f ρ S with
      | .fin .next ρ' S' => g ρ' S'
      | r => r := by
  refine PSs.imp (pss_cons ha hb) fun D σ H h => ?_
  obtain ⟨La0, M0, H0, Mr, Hr, La, M, ρ, S, R, h⟩ := h
  refine ⟨La0, M0, H0, Mr, Hr, La, M, ρ, S, R, ?_⟩
  dsimp only at h
  cases e : f ρ S with
  | fin fl ρ' S' =>
    rw [e] at h
    cases fl with
    | next => exact fun La' M' σ' H' R' => ⟨La0, M0, H0, Mr, Hr, La', M', ρ', S', R', h⟩
    | brk => exact h
    | cont => exact h
    | ret d => exact h
  | exc c ρ' S' => rw [e] at h; exact h
  | stuck => rw [e] at h; exact h
/-- nothing is done: an own one becomes data -/
theorem ss_frz (hb : SSs X W sts g) : SSs X W sts fun ρ S => g (frzAt ρ i) S := by
  refine PSs.imp hb fun D σ H h => ?_
  obtain ⟨La0, M0, H0, Mr, Hr, La, M, ρ, S, R, h⟩ := h
  obtain ⟨M', R'⟩ := R.frz i
  exact ⟨La0, M0, H0, Mr, Hr, La, M', _, S, R', h⟩
theorem putIx_some {xs ys : List PyData} {k d : PyData} (h : putIx xs k d = some ys) : ∃ z j, k = .int z ∧ L2.ixN xs.length z = some j ∧ ys = xs.set j d := by
  unfold putIx at h
  split at h
  · rename_i z
    cases hz : L2.ixN xs.length z with
    | none => rw [hz] at h; cases h
    | some j => rw [hz] at h; cases h; exact ⟨z, j, rfl, hz, rfl⟩
  · cases h
/-- x.append(e) -/
theorem s_push (hN : X.N[i]? = some x) (hv : Vis X.env.scope x) (hd : (x == ("__debug__" : Str)) = false) (hcd : (x == ("__classdict__" : Str)) = false) (he : SE X W e fe) (hp : pln e = true) (hline : (apos.endLine == cpos.line) = true) :
    SS1 X W (.Expr (.Call (.Attribute (.Name x p) "append" apos) [e] [] cpos) pos) fun ρ S => match ownOf ρ i with
      | some (.list xs) => liftE (fe ρ) ρ (fun d S' => if xs.length < sizeLine then .fin .next (ρ.set i (.own (.list (xs ++ [d])))) S' else .stuck) S
      | _ => .stuck := by
  have hpe := pe_bm (X := X) (cpos := cpos) (apos := apos) PySem.F.plainAttrs_list PySem.F.slot_list_append PySem.F.type_list_append mt_append (pe_var (pos := p) hN hv hd hcd) (pa_cons he pa_nil (pln_star hp)) rfl
    (by rw [pln_star hp]; rfl) hline (pln_star hp) rfl
  refine PS.imp (ps_expr hpe) fun D σ H h => ?_
  obtain ⟨La0, M0, H0, Mr, Hr, La, M, ρ, S, R, h⟩ := h
  dsimp only at h
  split at h
  · rename_i xs ho
    have ho := ownOf_some ho
    have h := lift R h
    obtain ⟨a, h1, h2, h3, h4⟩ := R.R.own i _ ho
    obtain ⟨vs, h5, h6⟩ : ∃ vs, H a = some (.lst vs) ∧ IsAll M H vs xs := by
      obtain ⟨_, ⟨vs, ds, e1, e2, e3⟩ | ⟨_, _, e1, _⟩⟩ := h2
      · cases e1; exact ⟨vs, e2, e3⟩
      · cases e1
    refine ⟨_, h1, .inl ⟨rfl, vs, .inl (.inl h5)⟩, tD_iff.mpr ⟨La, M0, M, ρ, S, R.R, h.mono fun d La1 M1 H1 S1 s1 R1 q v hv2 => ?_⟩⟩
    obtain ⟨q1, q2⟩ := q
    split at q2
    · rename_i hl
      refine ⟨a, vs, v, rfl, rfl, s1.keep a _ h5 h4, by rw [h6.length]; exact hl, q2 _ _ _ _ (q1.mutOwn ho h1 ⟨s1.up a h2.1, .inl ⟨_, _, rfl, upd_same, ?_⟩⟩)⟩
      exact ((h6.mono s1.toStep).keep (keepD_mut (s1.up a h2.1))).append (.cons (hv2.keep (keepD_mut (s1.up a h2.1))) .nil)
    · exact q2.elim
  · exact h.elim
/-- x[k] = e, x an own one -/
theorem s_setIx (hN : X.N[i]? = some x) (hv : Vis X.env.scope x) (hd : (x == ("__debug__" : Str)) = false) (hcd : (x == ("__classdict__" : Str)) = false) (he : SE X W e fe) (hk : SO X W k fk) (hpk : pln k = true)
    (hs : swapsWithSole [.Subscript (.Name x p) k apos] e pos.line X.env = pure false) (hw : swappedStores [.Subscript (.Name x p) k apos] e X.env = pure none) :
    SS1 X W (.Assign [.Subscript (.Name x p) k apos] e pos) fun ρ S => match ownOf ρ i with
      | some (.list xs) => liftE (Mn.bind (fe ρ) fun d => Mn.bind (fk ρ) fun x => Mn.bind (ofOpt (putIx xs x d)) fun ys => Mn.pure ys) ρ (fun ys S' => .fin .next (ρ.set i (.own (.list ys))) S') S
      | _ => .stuck := by
  refine PS.imp (ps_asg he (pg_sub (pe_var (pos := p) hN hv hd hcd) hk set_list (by intro v; cases k <;> first | rfl | cases hpk)) hs hw) fun D σ H h => ?_
  obtain ⟨La0, M0, H0, Mr, Hr, La, M, ρ, S, R, h⟩ := h
  dsimp only at h
  split at h
  · rename_i xs ho
    have ho := ownOf_some ho
    have h := lift R h
    obtain ⟨a, h1, h2, h3, h4⟩ := R.R.own i _ ho
    obtain ⟨vs, h5, h6⟩ : ∃ vs, H a = some (.lst vs) ∧ IsAll M H vs xs := by
      obtain ⟨_, ⟨vs, ds, e1, e2, e3⟩ | ⟨_, _, e1, _⟩⟩ := h2
      · cases e1; exact ⟨vs, e2, e3⟩
      · cases e1
    refine tD_iff.mpr ⟨La, M0, M, ρ, S, R.R, h.bind.mono fun d La1 M1 H1 S1 s1 R1 q v hv2 => ?_⟩
    refine ⟨_, h1, tD_iff.mpr ⟨La1, M0, M1, ρ, S1, R1, q.bind.mono fun dk La2 M2 H2 S2 s2 R2 q2 vk hvk => ?_⟩⟩
    have q3 := q2.bind
    cases ep : putIx xs dk d with
    | none => rw [ep] at q3; exact q3.elim
    | some ys =>
      rw [ep] at q3
      obtain ⟨q4, q5⟩ := After.here (a := ys) (After.here (a := ys) q3 R2) R2
      obtain ⟨z, j, rfl, hz, rfl⟩ := putIx_some ep
      have s12 := s1.trans s2
      refine ⟨a, vs, z, j, rfl, hvk.b.int, s12.keep a _ h5 h4, by rw [h6.length]; exact hz, q5 _ _ _ _ (q4.mutOwn ho h1 ⟨s12.up a h2.1, .inl ⟨_, _, rfl, upd_same, ?_⟩⟩)⟩
      exact ((h6.mono s12.toStep).keep (keepD_mut (s12.up a h2.1))).set j ((hv2.mono s2.toStep).keep (keepD_mut (s12.up a h2.1)))
  · exact h.elim
/-- x[k] = e, x handed in -/
theorem s_cellSet (hN : X.N[i]? = some x) (hv : Vis X.env.scope x) (hd : (x == ("__debug__" : Str)) = false) (hcd : (x == ("__classdict__" : Str)) = false) (he : SE X W e fe) (hk : SO X W k fk) (hpk : pln k = true)
    (hs : swapsWithSole [.Subscript (.Name x p) k apos] e pos.line X.env = pure false) (hw : swappedStores [.Subscript (.Name x p) k apos] e X.env = pure none) :
    SS1 X W (.Assign [.Subscript (.Name x p) k apos] e pos) fun ρ S => liftE (Mn.bind (fe ρ) fun d => Mn.bind (getRef ρ i) fun n => Mn.bind (fk ρ) fun x => Mn.bind (getCell n) fun xs => Mn.bind (ofOpt (putIx xs x d)) fun ys => Mn.pure (n, ys)) ρ
      (fun p S' => .fin .next ρ (S'.set p.1 p.2)) S := by
  refine PS.imp (ps_asg he (pg_sub (pe_var (pos := p) hN hv hd hcd) hk set_list (by intro v; cases k <;> first | rfl | cases hpk)) hs hw) fun D σ H h => ?_
  obtain ⟨La0, M0, H0, Mr, Hr, La, M, ρ, S, R, h⟩ := h
  have h := lift R h
  refine tD_iff.mpr ⟨La, M0, M, ρ, S, R.R, h.bind.mono fun d La1 M1 H1 S1 s1 R1 q v hv2 => ?_⟩
  have q := q.bind
  simp only [getRef] at q
  cases er : ρ[i]? with
  | none => rw [er] at q; exact False.elim q
  | some sl =>
    rw [er] at q
    cases sl with
    | ref n =>
      obtain ⟨a, h1, h2⟩ := R1.ref i n er
      have q := After.here (a := n) q R1
      refine ⟨_, h1, tD_iff.mpr ⟨La1, M0, M1, ρ, S1, R1, q.bind.mono fun dk La2 M2 H2 S2 s2 R2 q2 vk hvk => ?_⟩⟩
      have q2 := q2.bind
      obtain ⟨a', h1', h2'⟩ := R2.ref i n er
      rw [h1] at h1'; cases h1'
      simp only [getCell] at q2
      cases wc : S2[n]? with
      | none => rw [wc] at q2; exact False.elim q2
      | some xs =>
        rw [wc] at q2
        have q2 := (After.here (a := xs) q2 R2).bind
        obtain ⟨vs, h5, h6⟩ := R2.cells n a xs h2' wc
        cases ep : putIx xs dk d with
        | none => rw [ep] at q2; exact q2.elim
        | some ys =>
          rw [ep] at q2
          obtain ⟨q4, q5⟩ := After.here (a := (n, ys)) (After.here (a := ys) q2 R2) R2
          obtain ⟨z, j, rfl, hz, rfl⟩ := putIx_some ep
          exact ⟨a, vs, z, j, rfl, hvk.b.int, h5, by rw [h6.length]; exact hz, q5 _ _ _ _ (q4.mutCell h2' (h6.set j (hv2.mono s2.toStep)))⟩
    | _ => exact False.elim q
/-- a list's item, by values -/
def rGetL : V → V → Hp → VK → Prop := fun o i H Q => ∃ a vs z v, o = .ref a ∧ i = .int z ∧ Rd H a (.lst vs) ∧ L2.atI vs z = some v ∧ Q v H
theorem pget_list : PGet X rGetL := by
  intro pins s σ H o i ov iv Q I ro ri h
  obtain ⟨a, vs, z, v, rfl, rfl, hr, he, q⟩ := h
  cases ro
  obtain ⟨t, rfl⟩ := ri
  obtain ⟨its, r, pl, hz⟩ := I.list (.inl hr)
  obtain ⟨j, h1, h2, h3, h4, h5⟩ := atI_get he
  obtain ⟨w, ew, rw'⟩ := r.get h2
  have hl := r.length
  have hn := line63
  have fin : EP X pins σ Q w s := ⟨v, H, I, rw', q⟩
  by_cases h0 : 0 ≤ z
  · have hj : z.toNat = j := by
      rw [seqIndex_of h0 h5] at h1
      exact Option.some.inj h1
    exact wpAny_getItem_list pl.isList h0 (by omega) (by rw [hj]; simpa using ew) fin
  · have hj : (z + (its.toArray.size : Int)).toNat = j := by
      rw [seqIndex_neg (by omega) h4] at h1
      rw [List.size_toArray, ← hl]
      exact Option.some.inj h1
    exact wpAny_getItem_list_neg pl.isList (by omega) (by rw [List.size_toArray] <;> omega) (by omega) (by rw [hj]; simpa using ew) fin
theorem atI_map {vs : List V} {ds : List PyData} {M : Addr → Prop} {H : Hp} {z : Int} {d : PyData} (h : IsAll M H vs ds) (e : L2.atI ds z = some d) : ∃ v, L2.atI vs z = some v ∧ Is M H v d := by
  unfold L2.atI at e ⊢
  rw [h.length]
  cases w : L2.ixN ds.length z with
  | none => rw [w] at e; cases e
  | some j =>
    rw [w] at e
    exact h.get e
/-- x[k] op= e, x handed in -/
theorem s_cellAug {op : Bop} (hN : X.N[i]? = some x) (hv : Vis X.env.scope x) (hd : (x == ("__debug__" : Str)) = false) (hcd : (x == ("__classdict__" : Str)) = false) (he : SO X W e fe) (hk : SO X W k fk) (hpk : pln k = true) :
    SS1 X W (.AugAssign (.Subscript (.Name x p) k apos) (bopP op) e pos) fun ρ S => liftE (Mn.bind (getRef ρ i) fun n => Mn.bind (fk ρ) fun x => Mn.bind (getCell n) fun xs => Mn.bind (ofOpt (idxD (.list xs) x)) fun a =>
      Mn.bind (fe ρ) fun b => Mn.bind (ofOpt (augD op a b)) fun d => Mn.bind (getCell n) fun ys => Mn.bind (ofOpt (putIx ys x d)) fun zs => Mn.pure (n, zs)) ρ (fun p S' => .fin .next ρ (S'.set p.1 p.2)) S := by
  refine PS.imp (ps_augS (pe_var (pos := p) hN hv hd hcd) hk pget_list he (ip_augD op) set_list (by intro ov iv new; cases k <;> first | rfl | cases hpk)) fun D σ H h => ?_
  obtain ⟨La0, M0, H0, Mr, Hr, La, M, ρ, S, R, h⟩ := h
  have h := (lift R h).bind
  simp only [getRef] at h
  cases er : ρ[i]? with
  | none => rw [er] at h; exact False.elim h
  | some sl =>
    rw [er] at h
    cases sl with
    | ref n =>
      obtain ⟨a, h1, h2⟩ := R.R.ref i n er
      have h := After.here (a := n) h R.R
      refine ⟨_, h1, tD_iff.mpr ⟨La, M0, M, ρ, S, R.R, h.bind.mono fun dk La2 M2 H2 S2 s2 R2 q2 vk hvk => ?_⟩⟩
      have q2 := q2.bind
      obtain ⟨a', h1', h2'⟩ := R2.ref i n er
      rw [h1] at h1'; cases h1'
      simp only [getCell] at q2
      cases wc : S2[n]? with
      | none => rw [wc] at q2; exact False.elim q2
      | some xs =>
        rw [wc] at q2
        have q2 := (After.here (a := xs) q2 R2).bind
        obtain ⟨vs, h5, h6⟩ := R2.cells n a xs h2' wc
        cases ei : idxD (.list xs) dk with
        | none => rw [ei] at q2; exact q2.elim
        | some da =>
          rw [ei] at q2
          have q2 := After.here (a := da) q2 R2
          obtain ⟨z, rfl⟩ : ∃ z, dk = .int z := by
            cases dk with
            | int z => exact ⟨z, rfl⟩
            | _ => cases ei
          obtain ⟨va, h7, h8⟩ := atI_map h6 ei
          refine ⟨a, vs, z, va, rfl, hvk.b.int, .inl h5, h7, tD_iff.mpr ⟨La2, M0, M2, ρ, S2, R2, q2.bind.mono fun db La3 M3 H3 S3 s3 R3 q3 vb hvb => ?_⟩⟩
          have q3 := q3.bind
          cases eg : augD op da db with
          | none => rw [eg] at q3; exact q3.elim
          | some dn =>
            rw [eg] at q3
            have q3 := (After.here (a := dn) q3 R3).bind
            refine ⟨M3, da, db, dn, .inl (h8.mono s3.toStep), hvb.b, eg, fun vn hvn => ?_⟩
            obtain ⟨a3, h13, h23⟩ := R3.ref i n er
            rw [h1] at h13; cases h13
            simp only [getCell] at q3
            cases wc3 : S3[n]? with
            | none => rw [wc3] at q3; exact False.elim q3
            | some ys =>
              rw [wc3] at q3
              have q3 := (After.here (a := ys) q3 R3).bind
              obtain ⟨ws, h9, h10⟩ := R3.cells n a ys h23 wc3
              cases ep : putIx ys (.int z) dn with
              | none => rw [ep] at q3; exact q3.elim
              | some zs =>
                rw [ep] at q3
                obtain ⟨q4, q5⟩ := After.here (a := (n, zs)) (After.here (a := zs) q3 R3) R3
                have ep : (L2.ixN ys.length z).map (fun p => ys.set p dn) = some zs := ep
                cases hz : L2.ixN ys.length z with
                | none => rw [hz] at ep; cases ep
                | some j =>
                  rw [hz] at ep
                  cases ep
                  exact ⟨a, ws, z, j, rfl, hvk.b.int, h9, by rw [h10.length]; exact hz, q5 _ _ _ _ (q4.mutCell h23 (h10.set j hvn))⟩
    | _ => exact False.elim h
end
end L2.DL

set_option maxHeartbeats 1000000
/-! The data layer, fifteenth part: loops, pop. -/
namespace L2.DL
open PySem PySem.Spec PyProof.Rows L2

section
variable {La0 La : List Addr} {M0 Mr Mq M : Addr → Prop} {H0 Hr Hq H : Hp} {σ σ' : St} {ρ ρ' : Env} {S S' : Store} {tg : List Nat} {d : PyData}
theorem bindTg_own {j : Nat} {x : PyData} (e : bindTg tg d ρ = some ρ') (hx : ρ'[j]? = some (.own x)) : ρ[j]? = some (.own x) ∧ j ∉ tg := by
  have key : ∀ (is : List Nat) (ds : List PyData) (τ : Env), j ∈ is → is.length = ds.length → (setAll τ is ds)[j]? ≠ some (.own x) := by
    intro is
    induction is with
    | nil => intro ds τ h; cases h
    | cons i0 is ih =>
      intro ds τ h hle hq
      cases ds with
      | nil => simp at hle
      | cons d0 ds =>
        have hq : (setAll (τ.set i0 (.val d0)) is ds)[j]? = some (.own x) := hq
        by_cases hm : j ∈ is
        · exact ih ds _ hm (by simpa using hle) hq
        · have hj0 : j = i0 := by
            rcases List.mem_cons.mp h with h | h
            · exact h
            · exact absurd h hm
          obtain ⟨h1, _⟩ := setAll_own (vs := List.replicate ds.length .non) (σ := []) (by simp) hq
          subst hj0
          obtain ⟨h2, _⟩ := set_own (σ := []) (y := none) (fun _ z => by cases z) h1
          by_cases hlt : j < τ.length
          · rw [List.getElem?_set_self hlt] at h1; cases h1
          · rw [List.getElem?_eq_none (by omega)] at h2; cases h2
  refine ⟨?_, fun hm => ?_⟩
  · unfold bindTg at e
    split at e
    · cases e
      exact (set_own (σ := []) (y := none) (fun _ z => by cases z) hx).1
    · split at e
      · split at e
        · cases e
          exact (setAll_own (vs := List.replicate _ .non) (σ := []) (List.length_replicate ..) hx).1
        · cases e
      · split at e
        · cases e
          exact (setAll_own (vs := List.replicate _ .non) (σ := []) (List.length_replicate ..) hx).1
        · cases e
      · cases e
  · unfold bindTg at e
    split at e
    · rename_i i0
      cases e
      have hj0 : j = i0 := by simpa using hm
      subst hj0
      obtain ⟨h2, _⟩ := set_own (σ := []) (y := none) (fun _ z => by cases z) hx
      by_cases hlt : j < ρ.length
      · rw [List.getElem?_set_self hlt] at hx; cases hx
      · rw [List.getElem?_eq_none (by omega)] at h2; cases h2
    · split at e
      · split at e
        · rename_i hle
          cases e
          exact key _ _ _ hm hle hx
        · cases e
      · split at e
        · rename_i hle
          cases e
          exact key _ _ _ hm hle hx
        · cases e
      · cases e
theorem RelS.bindTg (R : RelS La0 M0 H0 Mr Hr La M H σ ρ S) (e : bindTg tg d ρ = some ρ') (hout : ∀ i : Nat, i ∉ tg → σ'[i]? = σ[i]?) (R' : RelF La M0 M H σ' ρ' S) : RelS La0 M0 H0 Mr Hr La M H σ' ρ' S :=
  R.slots R' fun j x hx => let ⟨h1, h2⟩ := bindTg_own e hx; ⟨h1, hout j h2⟩
/-- seen from another moment -/
theorem RelS.ref (k : KeepD Mr Mq Hr Hq) (R : RelS La0 M0 H0 Mq Hq La M H σ ρ S) : RelS La0 M0 H0 Mr Hr La M H σ ρ S := ⟨R.R, R.st, k.trans R.kp, R.fr⟩
end

section
variable {X : Cx} {W : WN} {st : Stmt} {e k tg it c tgt : Expr} {fe fk : Env → Mn PyData} {te : TE} {i : Nat} {pos p apos cpos : Pos} {x : Str} {body : List Stmt} {fb : Env → Store → SRes} {fi : Env → Mn (List PyData)} {ft : Env → Mn Bool} {tgs : List Nat}
/-- for -/
theorem s_for (hp : PassesOwn (model X.prog X.w) X.A X.env X.xe) (hc : X.calm = true) (hi : SI X W tg it false fi) (hg : PG X tg (gD tgs)) (hb : SSs X W body fb) (hs : ∀ x, foldedSetIterable it X.env x = pure x) :
    SS1 X W (.For tg it body [] pos) fun ρ => liftE (fi ρ) ρ fun xs S' => forS (fun x ρ S => match bindTg tgs x ρ with
      | some ρ' => fb ρ' S
      | none => .stuck) xs ρ S' := by
  refine PS.imp (ps_for hp hc hi hg hb hs) fun D σ H h => ?_
  obtain ⟨La0, M0, H0, Mr, Hr, La, M, ρ, S, R, h⟩ := h
  refine ⟨La, M0, M, ρ, S, R.R, (lift R h).mono fun xs La1 M1 H1 S1 s1 R1 q J hJ => ?_⟩
  obtain ⟨q1, q2⟩ := q
  obtain ⟨G, Y, wk, hG, hY⟩ := hJ (fun a => M1 a ∨ H1 a = none) fun a z => z
  generalize hF : (fun x ρ S => match bindTg tgs x ρ with
      | some ρ' => fb ρ' S
      | none => SRes.stuck) = F at q2
  have keepP : ∀ {M Hb}, KeepD M1 M H1 Hb → ∀ a o, H1 a = some o → ¬ (M1 a ∨ H1 a = none) → Hb a = some o := fun k a o e hn => k.keep a o e fun z => hn (.inl z)
  refine for_it wk (fun i σ H => ∃ La' M' ρ' S', RelS La0 M0 H0 M1 H1 La' M' H σ ρ' S' ∧ AfterS W La0 M0 H0 Mr Hr D (forS F (xs.drop i) ρ' S')) ?_ (fun i σ2 Hb _ p => ?_) (fun i x σ2 Hb Hc hi p hy => ?_) fun σ2 Hb p => ?_
  · exact ⟨La1, M1, ρ, S1, ⟨q1.R, q1.st, .refl, q1.fr⟩, q2⟩
  · obtain ⟨La', M', ρ', S', R', _⟩ := p
    exact hG Hb (keepP R'.kp)
  · obtain ⟨La', M', ρ', S', R', h'⟩ := p
    obtain ⟨d, hd⟩ : ∃ d, xs[i]? = some d := ⟨xs[i], List.getElem?_eq_getElem hi⟩
    obtain ⟨hgrow, hval⟩ := hY i Hb x Hc d hd (keepP R'.kp) hy
    have hv : Is M' Hc x d := hval M' R'.kp.mon R'.R.dom
    have hgr : Grow Hb Hc := hgrow
    obtain ⟨sg, Rg⟩ := hgr.stepE R'.R
    have RSg := R'.after sg Rg
    rw [drop_get hd] at h'
    unfold forS at h'
    rw [← hF] at h'
    dsimp only at h'
    cases eb : DL.bindTg tgs d ρ' with
    | none => rw [eb] at h'; exact h'.elim
    | some β =>
      rw [eb] at h'
      dsimp only at h'
      refine ⟨La', M0, M', ρ', S', d, β, Rg, hv, eb, fun σ3 hl hout R3 => ?_⟩
      have RS3 := RSg.bindTg eb hout R3
      refine ⟨La0, M0, H0, M1, H1, La', M', β, S', RS3, ?_⟩
      rw [hF] at h'
      cases w : fb β S' with
      | stuck => rw [w] at h'; exact h'
      | exc c ρ2 S2 => rw [w] at h'; exact fun La4 M4 σ4 H4 R4 => h' La4 M4 σ4 H4 (R4.ref q1.kp)
      | fin fl ρ2 S2 =>
        rw [w] at h'
        cases fl with
        | next => exact fun La4 M4 σ4 H4 R4 => ⟨La4, M4, ρ2, S2, R4, h'⟩
        | cont => exact fun La4 M4 σ4 H4 R4 => ⟨La4, M4, ρ2, S2, R4, h'⟩
        | brk => exact fun La4 M4 σ4 H4 R4 => h' La4 M4 σ4 H4 (R4.ref q1.kp)
        | ret v => exact fun La4 M4 σ4 H4 v R4 hv => h' La4 M4 σ4 H4 v (R4.ref q1.kp) hv
  · obtain ⟨La', M', ρ', S', R', h'⟩ := p
    rw [List.drop_of_length_le (Nat.le_refl _)] at h'
    exact h' _ _ _ _ (R'.ref q1.kp)
/-- while -/
theorem s_while (hp : PassesOwn (model X.prog X.w) X.A X.env X.xe) (ht : ST X W c ft) (hb : SSs X W body fb) (n : Nat) : SS1 X W (.While c body [] pos) fun ρ S => whileS ft fb n ρ S := by
  refine PS.imp (ps_while hp ht hb) fun D σ H h => ?_
  obtain ⟨La0, M0, H0, Mr, Hr, La, M, ρ, S, R, h⟩ := h
  refine ⟨fun m σ H => ∃ La M ρ S, RelS La0 M0 H0 Mr Hr La M H σ ρ S ∧ AfterS W La0 M0 H0 Mr Hr D (whileS ft fb m ρ S), ⟨n, La, M, ρ, S, R, h⟩, ?_⟩
  rintro m σ1 H1 ⟨La1, M1, ρ1, S1, R1, h1⟩
  cases m with
  | zero => exact h1.elim
  | succ m =>
    unfold whileS at h1
    refine tDT_iff.mpr ⟨La1, M0, M1, ρ1, S1, R1.R, (lift R1 h1).mono fun k La2 M2 H2 S2 s2 R2 q => ?_⟩
    obtain ⟨q1, q2⟩ := q
    cases k with
    | false =>
      rw [if_neg Bool.false_ne_true] at q2 ⊢
      exact q2 _ _ _ _ q1
    | true =>
      rw [if_pos rfl] at q2 ⊢
      refine ⟨fun σ H => ∃ La M ρ S, RelS La0 M0 H0 Mr Hr La M H σ ρ S ∧ AfterS W La0 M0 H0 Mr Hr D (whileS ft fb m ρ S), fun σ' H' p => ⟨m, Nat.lt_succ_self m, p⟩, ?_⟩
      refine ⟨La0, M0, H0, Mr, Hr, La2, M2, ρ1, S2, q1, ?_⟩
      cases w : fb ρ1 S2 with
      | stuck => rw [w] at q2; exact q2
      | exc c ρ2 S2 => rw [w] at q2; exact q2
      | fin fl ρ2 S2 =>
        rw [w] at q2
        cases fl with
        | next => exact fun La4 M4 σ4 H4 R4 => ⟨La4, M4, ρ2, S2, R4, q2⟩
        | cont => exact fun La4 M4 σ4 H4 R4 => ⟨La4, M4, ρ2, S2, R4, q2⟩
        | brk => exact q2
        | ret v => exact q2
/-- targets = x.pop() -/
theorem s_pop (hN : X.N[i]? = some x) (hv : Vis X.env.scope x) (hd : (x == ("__debug__" : Str)) = false) (hcd : (x == ("__classdict__" : Str)) = false) (hg : PG X tgt (gD tgs)) (hline : (apos.endLine == cpos.line) = true)
    (hs : swapsWithSole [tgt] (.Call (.Attribute (.Name x p) "pop" apos) [] [] cpos) pos.line X.env = pure false) (hw : swappedStores [tgt] (.Call (.Attribute (.Name x p) "pop" apos) [] [] cpos) X.env = pure none) (h1 : (assignEach [tgt] X.env).map (·.2) = [assign tgt X.env]) :
    SS1 X W (.Assign [tgt] (.Call (.Attribute (.Name x p) "pop" apos) [] [] cpos) pos) fun ρ S => match ownOf ρ i with
      | some (.list xs) => match xs.getLast? with
        | some d => match bindTg tgs d (ρ.set i (.own (.list xs.dropLast))) with
          | some ρ' => .fin .next ρ' S
          | none => .stuck
        | none => .stuck
      | _ => .stuck := by
  refine PS.imp (ps_asg (pe_bm0 PySem.F.plainAttrs_list PySem.F.slot_list_pop PySem.F.type_list_pop mt_pop (pe_var (pos := p) hN hv hd hcd) rfl hline) hg hs hw h1) fun D σ H h => ?_
  obtain ⟨La0, M0, H0, Mr, Hr, La, M, ρ, S, R, h⟩ := h
  dsimp only at h
  split at h
  · rename_i xs ho
    have ho := ownOf_some ho
    split at h
    · rename_i d hl
      split at h
      · rename_i ρ' eb
        obtain ⟨a, h1, h2, h3, h4⟩ := R.R.own i _ ho
        obtain ⟨vs, h5, h6⟩ : ∃ vs, H a = some (.lst vs) ∧ IsAll M H vs xs := by
          obtain ⟨_, ⟨vs, ds, e1, e2, e3⟩ | ⟨_, _, e1, _⟩⟩ := h2
          · cases e1; exact ⟨vs, e2, e3⟩
          · cases e1
        have hl2 : xs[xs.length - 1]? = some d := by rw [← List.getLast?_eq_getElem?]; exact hl
        obtain ⟨v, hv1, hv2⟩ := h6.get hl2
        have R2 := R.mutOwn (o := .lst vs.dropLast) (d' := .list xs.dropLast) ho h1 ⟨h2.1, .inl ⟨_, _, rfl, upd_same, h6.dropLast.keep (keepD_mut h2.1)⟩⟩
        refine ⟨_, h1, .inl ⟨rfl, vs, .inl (.inl h5)⟩, a, vs, v, rfl, rfl, h5, by rw [h6.length]; exact hv1, ?_⟩
        exact ⟨La, M0, M, _, S, d, ρ', R2.R, hv2.keep (keepD_mut h2.1), eb, fun σ' hl' hout R' => h _ _ _ _ (R2.bindTg eb hout R')⟩
      · exact h.elim
    · exact h.elim
  · exact h.elim
theorem popD_some {xs ys : List PyData} {k d : PyData} (h : popD xs k = some (d, ys)) : ∃ z j, k = .int z ∧ -(2 ^ 63) ≤ z ∧ z < 2 ^ 63 ∧ seqIndex? z xs.length = some j ∧ xs[j]? = some d ∧ ys = xs.eraseIdx j := by
  unfold popD at h
  split at h
  · rename_i z
    split at h
    · rename_i hz
      cases hj : seqIndex? z xs.length with
      | none => rw [hj] at h; cases h
      | some j =>
        rw [hj] at h
        have h : ((xs[j]?).map fun d => (d, xs.eraseIdx j)) = some (d, ys) := h
        cases hx : xs[j]? with
        | none => rw [hx] at h; cases h
        | some d' => rw [hx] at h; cases h; exact ⟨z, j, rfl, hz.1, hz.2, hj, hx, rfl⟩
    · cases h
  · cases h
/-- targets = x.pop(k) -/
theorem s_popAt (hN : X.N[i]? = some x) (hv : Vis X.env.scope x) (hd : (x == ("__debug__" : Str)) = false) (hcd : (x == ("__classdict__" : Str)) = false) (hk : SO X W k fk) (hpk : pln k = true) (hg : PG X tgt (gD tgs)) (hline : (apos.endLine == cpos.line) = true)
    (hs : swapsWithSole [tgt] (.Call (.Attribute (.Name x p) "pop" apos) [k] [] cpos) pos.line X.env = pure false) (hw : swappedStores [tgt] (.Call (.Attribute (.Name x p) "pop" apos) [k] [] cpos) X.env = pure none) (h1 : (assignEach [tgt] X.env).map (·.2) = [assign tgt X.env]) :
    SS1 X W (.Assign [tgt] (.Call (.Attribute (.Name x p) "pop" apos) [k] [] cpos) pos) fun ρ S => match ownOf ρ i with
      | some (.list xs) => liftE (fk ρ) ρ (fun y S' => match popD xs y with
        | some (d, ys) => match bindTg tgs d (ρ.set i (.own (.list ys))) with
          | some ρ' => .fin .next ρ' S'
          | none => .stuck
        | none => .stuck) S
      | _ => .stuck := by
  refine PS.imp (ps_asg (pe_bm PySem.F.plainAttrs_list PySem.F.slot_list_pop PySem.F.type_list_pop mt_popAt (pe_var (pos := p) hN hv hd hcd) (pa_cons hk pa_nil (pln_star hpk)) rfl (by rw [pln_star hpk]; rfl) hline (pln_star hpk) rfl) hg hs hw h1) fun D σ H h => ?_
  obtain ⟨La0, M0, H0, Mr, Hr, La, M, ρ, S, R, h⟩ := h
  dsimp only at h
  split at h
  · rename_i xs ho
    have ho := ownOf_some ho
    have h := lift R h
    obtain ⟨a, h1, h2, h3, h4⟩ := R.R.own i _ ho
    obtain ⟨vs, h5, h6⟩ : ∃ vs, H a = some (.lst vs) ∧ IsAll M H vs xs := by
      obtain ⟨_, ⟨vs, ds, e1, e2, e3⟩ | ⟨_, _, e1, _⟩⟩ := h2
      · cases e1; exact ⟨vs, e2, e3⟩
      · cases e1
    refine ⟨_, h1, .inl ⟨rfl, vs, .inl (.inl h5)⟩, tD_iff.mpr ⟨La, M0, M, ρ, S, R.R, h.mono fun dk La1 M1 H1 S1 s1 R1 q vk hvk => ?_⟩⟩
    obtain ⟨q1, q2⟩ := q
    cases ep : popD xs dk with
    | none => rw [ep] at q2; exact q2.elim
    | some dy =>
      obtain ⟨d, ys⟩ := dy
      rw [ep] at q2
      dsimp only at q2
      cases eb : DL.bindTg tgs d (ρ.set i (.own (.list ys))) with
      | none => rw [eb] at q2; exact q2.elim
      | some ρ' =>
        rw [eb] at q2
        obtain ⟨z, j, rfl, hz1, hz2, hj, hx, rfl⟩ := popD_some ep
        have h61 := h6.mono s1.toStep
        have hM1 := s1.up a h2.1
        obtain ⟨v, hv1, hv2⟩ := h61.get hx
        have R2 := q1.mutOwn (o := .lst (vs.eraseIdx j)) (d' := .list (xs.eraseIdx j)) ho h1 ⟨hM1, .inl ⟨_, _, rfl, upd_same, (h61.eraseIdx j).keep (keepD_mut hM1)⟩⟩
        refine ⟨a, vs, z, j, v, rfl, by rw [hvk.b.int], s1.keep a _ h5 h4, hz1, hz2, by rw [h6.length]; exact hj, hv1, ?_⟩
        exact ⟨La1, M0, M1, _, S1, d, ρ', R2.R, hv2.keep (keepD_mut hM1), eb, fun σ' hl' hout R' => q2 _ _ _ _ (R2.bindTg eb hout R')⟩
  · exact h.elim
end
end L2.DL

set_option maxHeartbeats 1000000
/-! The data layer, sixteenth part: exceptions. -/
namespace L2
open PySem PySem.Spec PyProof.Rows
/-- what the clauses wish of an exception of the body, one after the other, each with a name (i: its slot) -/
def wManyA (K : PySem.W.Frag) (Wout : WX) (D : Ends) : List (Value × Nat × (Addr → Value → Option Addr → TS)) → WX
  | [] => Wout
  | (c, i, ts) :: r => fun cls d σ H => ∃ b, PySem.W.exmOne K cls c = some b ∧
      (b = true → ∀ a, H a = none → ts a cls d { nx := fun σ' H' => D.nx (σ'.set i none) H', rt := D.rt, bk := fun σ' H' => D.bk (σ'.set i none) H', ct := fun σ' H' => D.ct (σ'.set i none) H' } (σ.set i (some (.ref a))) H) ∧
      (b = false → wManyA K Wout D r cls d σ H)
inductive HdsA (X : Cx) : List ExceptHandler → List (Value × Nat × (Addr → Value → Option Addr → TS)) → Prop
  | nil : HdsA X [] []
  | cons {x n : Str} {c : Value} {i : Nat} {ts : Addr → Value → Option Addr → TS} {b₀ : Stmt} {suite : List Stmt} {np pos' : Pos} {hds : List ExceptHandler} {l : List (Value × Nat × (Addr → Value → Option Addr → TS))} (hi : X.N[i]? = some n) (hln : X.env.kindOf n = some .local) (hc : Names X x c)
      (hsu : ∀ (a : Addr) (oe : Obj) (cls : Value) (d : Option Addr) (pn : List (Addr × Obj)), Zc cls d oe → (∃ vs, oe.data = .fields vs) → PSs (X.suite a ((a, oe) :: pn)) (b₀ :: suite) (ts a cls d)) (r : HdsA X hds l) :
      HdsA X (.ExceptHandler (some (.Name x np)) (some n) (b₀ :: suite) pos' :: hds) ((c, i, ts) :: l)
section
variable {X : Cx} {body : List Stmt} {h₀ : ExceptHandler} {hds : List ExceptHandler} {l : List (Value × Nat × (Addr → Value → Option Addr → TS))} {pos : Pos} {tb : WX → TS} {Wout : WX}
theorem ps_try_manyA (hs : X.stack = X.env :: X.outer) (hf : X.env.frame = some X.env.locals) (hN : X.N.Nodup) (tk : Takes X Wout)
    (hb : ∀ (W : WX) (pn : List (Addr × Obj)) (xe : Value → Shared → Prop), Takes (X.tr pn xe) W → PassesOwn (model X.prog X.w) X.A X.env xe → PSs (X.tr pn xe) body (tb W))
    (hh : HdsA X (h₀ :: hds) l) : PS X (.Try body (h₀ :: hds) [] [] pos) (fun D σ H => tb (wManyA X.K Wout D l) D σ H) := by
  refine ⟨fun pins s σ H D I h => ?_⟩
  have ok := I.ok
  have hfr : X.A.frames = some (X.env :: X.outer) := by rw [ok.frames, hs]
  refine wpAny_Try_except ?_
  refine wpAny_mono ((hb (wManyA X.K Wout D l) (X.pn ++ pins) (fun e s₁ => wpAny (model X.prog X.w) X.A (noteFrame e X.env) (fun _ s₂ => wpAny (model X.prog X.w) X.A (setFlight e none) (fun _ s₃ =>
    wpAny (model X.prog X.w) X.A (handleBy e X.env (h₀ :: hds)) (SP X pins D) X.xe s₃) X.xe s₂) X.xe s₁) (fun u s' xx => ?_) PassesOwn.looking).run [] s σ H D (I.toTry _) h) (fun f s1 hsp => ?_) (fun e s1 he => he)
  · -- the catch
    obtain ⟨a, B, sI, pins', σ', H', cls, d, rfl, J', nb, up, sky, na, os, ag, w⟩ := xx
    have J : Inv X pins σ' H' sI := J'.ofTry ok
    have sky' : Sky B (X.env :: X.outer) a (Zc cls d) X.env.locals s'.heap := by rw [← hs]; exact sky
    show wpAny (model X.prog X.w) X.A (noteFrame (.ref a) X.env) _ _ _
    refine Sky.land Zc.steady hfr hf sky' fun h3 fl3 up3 => ?_
    have J3 : Inv X pins σ' H' { s' with heap := h3 } := J.landed nb fl3.1 (up.trans up3) os ag
    obtain ⟨oe3, vs3, he3, hz3, hd3⟩ := fl3.there
    have notFr : ∀ {h : Heap} {o : Obj} {vs : Array Value}, h.FunFrames B (X.env :: X.outer) → h.get? a = some o → o.data = .fields vs → a ∉ frs (X.env :: X.outer) := fun {h o vs} ff e dd hm => by
      obtain ⟨_, o', e', hnf⟩ := ff.mem hm
      rw [e] at e'; cases e'
      exact hnf _ dd
    have nfr := notFr fl3.2.2.1 he3 hd3
    have nL : a ≠ X.env.locals := fun z => nfr (List.mem_filterMap.mpr ⟨X.env, List.mem_cons_self, by rw [hf, z]⟩)
    have nF : a ∉ X.fs := fun hm => by
      obtain ⟨e, he, q⟩ := List.mem_filterMap.mp hm
      exact nfr (List.mem_filterMap.mpr ⟨e, List.mem_cons_of_mem _ he, q⟩)
    have S3 := J3.suite he3 hd3 na nL nF
    have go : ∀ {hds' : List ExceptHandler} {l' : List (Value × Nat × (Addr → Value → Option Addr → TS))}, HdsA X hds' l' → wManyA X.K Wout D l' cls d σ' H' →
        wpAny (model X.prog X.w) X.A (handleBy (.ref a) X.env hds') (SP X pins D) X.xe { s' with heap := h3 } := by
      intro hds' l' hk
      induction hk with
      | nil =>
        intro w
        refine wpAny_handleBy_nil ?_
        obtain ⟨k1, k2, k3, oe, vs, T, oT, ts', he, hz, hd, h1, hr⟩ := id fl3
        unfold PySem.passOn
        refine wpAny_bind (wpAny_field he hd h1 ?_)
        rw [if_neg (show ¬ ((Value.ref T == Value.none) = true) from by simp)]
        have fin : wpAny (model X.prog X.w) X.A (setFlight (.ref a) X.env.frame) (fun _ s4 => wpAny (model X.prog X.w) X.A (throw (.ref a) : Sem Flow) (SP X pins D) X.xe s4) X.xe { s' with heap := h3 } := by
          rw [hf]
          refine HandSPX.setFlight_upZ fl3 fun h4 hh4 up4 => wpAny_throw (tk _ _ ?_)
          exact ⟨a, B, sI, pins, σ', H', cls, d, rfl, J, nb, (up.trans up3).trans up4, .inr (.inr (by rw [hs]; exact hh4)), na, os, ag, w⟩
        first
          | exact wpAny_bind (wpAny_pure (wpAny_bind fin))
          | exact wpAny_bind fin
      | @cons x n c i ts b₀ suite np pos' hds2 l2 hi hln hc hsu r ih =>
        intro w
        obtain ⟨b, hb1, hyes, hno⟩ := w
        have hloc : Loc X.env.scope n := .inl hln
        refine wpAny_handleBy_cons (codeAny_handlers_test ?_) (by intro q; cases q)
        have LT : PySem.W.Looks (model X.prog X.w) h3 (typeOf (.ref a)) cls := fun A Q E s k q => wpAny_typeOf_ref (k _ _ he3) (by rw [hz3.1]; exact q)
        have LM := PySem.W.exm_one (M := model X.prog X.w) (J3.kIn) LT hb1
        have test : ∀ {Q : Value → Shared → Prop} {E : Value → Shared → Prop}, Q c { s' with heap := h3 } → wpAny (model X.prog X.w) (X.A.mark (some (.ref a))) (eval (.Name x np) X.env) Q E { s' with heap := h3 } := fun {Q E} q => by
          obtain ⟨hg, hdbg, hm | ⟨hm, hv, hnn⟩⟩ := hc
          · exact ld_glob (X := X.suite a ((a, oe3) :: (X.pn ++ pins))) S3 hg hm q hdbg
          · exact ld_blt (X := X.suite a ((a, oe3) :: (X.pn ++ pins))) S3 hg hm hv q hnn hdbg
        refine test (LM.here ?_)
        cases b with
        | true =>
          refine codeAny_handlers_suite_as ?_
          refine HandSPX.lands_againZ fl3 fun h4 fl4 up4 => ?_
          have J4 : Inv X pins σ' H' { s' with heap := h4 } := J.landed nb fl4.1 ((up.trans up3).trans up4) os ag
          obtain ⟨oe4, vs4, he4, hz4, hd4⟩ := fl4.there
          have S4 := J4.suite he4 hd4 na nL nF
          refine store_ok (X := X.suite a ((a, oe4) :: (X.pn ++ pins))) (v := .ref a) S4 hN hi hloc rfl (fun s5 S5 => ?_) (.inr hln)
          refine wpAny_mono ((hsu a oe4 cls d (X.pn ++ pins) hz4 ⟨_, hd4⟩).run [] s5 _ H' _ S5 (hyes rfl a na)) (fun f s6 hsp => ?_) (fun _ _ z => False.elim z)
          have end_ : ∀ {σ6 : St} {H6 : Hp} {Q : Shared → Prop}, Inv (X.suite a ((a, oe4) :: (X.pn ++ pins))) [] σ6 H6 s6 → (∀ s7, Inv X pins (σ6.set i none) H6 s7 → Q s7) →
              wpAny (model X.prog X.w) X.A (do bindName X.env n .none; unbindBehindTheSuite X.env n pos') (fun _ s7 => Q s7) X.xe s6 := fun {σ6 H6 Q} S6 hq => gone_ok (S6.unsuite ok) hN hi hln hq
          cases f with
          | next =>
            obtain ⟨σ6, H6, S6, q6⟩ := hsp
            exact end_ S6 fun s7 J7 => ⟨_, _, J7, q6⟩
          | brk =>
            obtain ⟨σ6, H6, S6, q6⟩ := hsp
            exact end_ S6 fun s7 J7 => ⟨_, _, J7, q6⟩
          | cont =>
            obtain ⟨σ6, H6, S6, q6⟩ := hsp
            exact end_ S6 fun s7 J7 => ⟨_, _, J7, q6⟩
          | ret u =>
            obtain ⟨v6, σ6, H6, S6, r6, q6⟩ := hsp
            exact end_ S6 fun s7 J7 => ⟨_, _, _, J7, r6, q6⟩
        | false =>
          show wpAny _ X.A (handleBy (.ref a) X.env hds2) _ _ _
          exact ih (hno rfl)
    exact go hh w
  · cases f with
    | next =>
      obtain ⟨σ', H', J', q⟩ := hsp
      exact wpAny_execs_nil ⟨σ', H', J'.ofTry ok, q⟩
    | brk =>
      obtain ⟨σ', H', J', q⟩ := hsp
      exact ⟨σ', H', J'.ofTry ok, q⟩
    | cont =>
      obtain ⟨σ', H', J', q⟩ := hsp
      exact ⟨σ', H', J'.ofTry ok, q⟩
    | ret u =>
      obtain ⟨v, σ', H', J', r, q⟩ := hsp
      exact ⟨v, σ', H', J'.ofTry ok, r, q⟩
end
end L2
namespace L2.DL
open PySem PySem.Spec PyProof.Rows L2

/-- the classes that are raised -/
structure Excs (K : PySem.W.Frag) (ec : Nat → Value) : Prop where
  ex : ∀ c, c < 2 → ∃ E, ec c = .ref E ∧ ExcC K E ∧ PySem.W.kitOne K (.ref E) (.type "ValueError") = some true
  is : ∀ c d, c < 2 → d < 2 → PySem.W.exmOne K (ec c) (ec d) = some (decide (c = d))
section
variable {X : Cx} {W : WN} {ec : Nat → Value} {st : Stmt} {C : Addr} {c : Nat} {pos : Pos}
/-- raise -/
theorem s_raise (hp : PS X st fun _ σ H => wx ec W (.ref C) none σ H) (he : ec c = .ref C) : SS1 X W st fun ρ S => .exc c ρ S := by
  refine PS.imp hp fun D σ H h => ?_
  obtain ⟨La0, M0, H0, Mr, Hr, La, M, ρ, S, R, h⟩ := h
  exact ⟨c, he.symm, rfl, h _ _ _ _ R⟩
/-- what a clause's suite does -/
def tsD (K : PySem.W.Frag) (b : Hb) (i : Nat) : Addr → Value → Option Addr → TS := fun a cls d D σ H => d = none ∧ (∃ E, cls = .ref E ∧ ExcC K E ∧ PySem.W.kitOne K (.ref E) (.type "ValueError") = some true) ∧ (∃ σ0 : St, σ = σ0.set i (some (.ref a))) ∧
  match b with
  | .unit => ∀ p, H p = none → D.rt (.ref p) (upd H p (.tup []))
  | .go => D.nx σ H
/-- isinstance(error, ValueError) within the suite -/
theorem suite_isi {i : Nat} {n x y : Str} {p p1 p2 pos : Pos} {a E : Addr} {oe : Obj} {pn : List (Addr × Obj)} (hz : Zc (.ref E) none oe) (hf : ∃ vs, oe.data = .fields vs) (hE : ExcC X.K E) (hk : PySem.W.kitOne X.K (.ref E) (.type "ValueError") = some true)
    (hi : X.N[i]? = some n) (hv : Vis X.env.scope n) (hd : (n == ("__debug__" : Str)) = false) (hcd : (n == ("__classdict__" : Str)) = false)
    (hg : Gl X x) (hm : X.mg x = none) (hb : bootBuiltins x = some (.builtin "isinstance")) (hg2 : Gl X y) (hm2 : X.mg y = none) (hb2 : bootBuiltins y = some (.type "ValueError")) (hn : x ≠ "__name__") (hdb : (x == ("__debug__" : Str)) = false) (hn2 : y ≠ "__name__") (hdb2 : (y == ("__debug__" : Str)) = false) :
    PE (X.suite a ((a, oe) :: pn)) (.Call (.Name x p) [.Name n p1, .Name y p2] [] pos) fun σ H Q => σ[i]? = some (some (.ref a)) ∧ Q (.bl true) H := by
  refine PE.imp (pe_callB (X := X.suite a ((a, oe) :: pn)) (call_isE hE hz hf) hg hm hb (pa_cons (pe_var (X := X.suite a ((a, oe) :: pn)) hi hv hd hcd) (pa_cons (pe_bltn (X := X.suite a ((a, oe) :: pn)) hg2 hm2 hb2 (v := .ty "ValueError") rfl hn2 hdb2) pa_nil rfl) rfl) hn hdb rfl rfl) fun σ H Q h => ?_
  exact ⟨_, h.1, .ty "ValueError", .type "ValueError", true, rfl, fun u r => r, hk, h.2⟩
theorem suite_len {i : Nat} {n : Str} {a : Addr} {oe : Obj} {pn pins : List (Addr × Obj)} {σ0 : St} {H : Hp} {s : Shared} (hi : X.N[i]? = some n) (I : Inv (X.suite a ((a, oe) :: pn)) pins (σ0.set i (some (.ref a))) H s) : (σ0.set i (some (.ref a)))[i]? = some (some (.ref a)) := by
  have h1 : (σ0.set i (some (.ref a))).length = X.N.length := I.len
  rw [List.length_set] at h1
  exact List.getElem?_set_self (by rw [h1]; exact (List.getElem?_eq_some_iff.mp hi).1)
/-- return () if isinstance(error, ValueError) else None -/
theorem suite_unit {i : Nat} {n x y : Str} {p p1 p2 p3 p4 p5 p6 pos : Pos} {k6 j5 : Nat} (hi : X.N[i]? = some n) (hv : Vis X.env.scope n) (hd : (n == ("__debug__" : Str)) = false) (hcd : (n == ("__classdict__" : Str)) = false)
    (hg : Gl X x) (hm : X.mg x = none) (hb : bootBuiltins x = some (.builtin "isinstance")) (hg2 : Gl X y) (hm2 : X.mg y = none) (hb2 : bootBuiltins y = some (.type "ValueError")) (hn : x ≠ "__name__") (hdb : (x == ("__debug__" : Str)) = false) (hn2 : y ≠ "__name__") (hdb2 : (y == ("__debug__" : Str)) = false)
    (a : Addr) (oe : Obj) (cls : Value) (d : Option Addr) (pn : List (Addr × Obj)) (hz : Zc cls d oe) (hf : ∃ vs, oe.data = .fields vs) :
    PSs (X.suite a ((a, oe) :: pn)) [.Return (some (.IfExp (.Call (.Name x p) [.Name n p1, .Name y p2] [] p3) (.Tuple [] k6 p6) (.Constant .none j5 p5) p4)) pos] (tsD X.K .unit i a cls d) := by
  refine ⟨fun pins s σ H D I h => ?_⟩
  obtain ⟨rfl, ⟨E, rfl, hE, hk⟩, ⟨σ0, rfl⟩, h⟩ := h
  have h1 := suite_isi (X := X) (p := p) (p1 := p1) (p2 := p2) (pos := p3) (a := a) (pn := pn) hz hf hE hk hi hv hd hcd hg hm hb hg2 hm2 hb2 hn hdb hn2 hdb2
  refine (pss_cons (ps_ret (pe_ifExp (pt_truth h1 (by intro _; rfl)) (pe_tup pa_nil) pe_non)) pss_nil).run pins s _ H D I ?_
  exact ⟨suite_len hi I, true, rfl, Nat.zero_le _, fun p hp => h p hp⟩
/-- if not isinstance(error, ValueError): .. -/
theorem suite_go {i : Nat} {n x y : Str} {p p1 p2 p3 p4 pos : Pos} {body : List Stmt} (hi : X.N[i]? = some n) (hv : Vis X.env.scope n) (hd : (n == ("__debug__" : Str)) = false) (hcd : (n == ("__classdict__" : Str)) = false)
    (hg : Gl X x) (hm : X.mg x = none) (hb : bootBuiltins x = some (.builtin "isinstance")) (hg2 : Gl X y) (hm2 : X.mg y = none) (hb2 : bootBuiltins y = some (.type "ValueError")) (hn : x ≠ "__name__") (hdb : (x == ("__debug__" : Str)) = false) (hn2 : y ≠ "__name__") (hdb2 : (y == ("__debug__" : Str)) = false)
    (a : Addr) (oe : Obj) (cls : Value) (d : Option Addr) (pn : List (Addr × Obj)) (hz : Zc cls d oe) (hf : ∃ vs, oe.data = .fields vs) :
    PSs (X.suite a ((a, oe) :: pn)) [.If (.UnaryOp .Not (.Call (.Name x p) [.Name n p1, .Name y p2] [] p3) p4) body [] pos] (tsD X.K .go i a cls d) := by
  refine ⟨fun pins s σ H D I h => ?_⟩
  obtain ⟨rfl, ⟨E, rfl, hE, hk⟩, ⟨σ0, rfl⟩, h⟩ := h
  have h1 := suite_isi (X := X) (p := p) (p1 := p1) (p2 := p2) (pos := p3) (a := a) (pn := pn) hz hf hE hk hi hv hd hcd hg hm hb hg2 hm2 hb2 hn hdb hn2 hdb2
  refine (pss_cons (ps_if (pt_not (pt_truth h1 (by intro _; rfl))) pss_never pss_nil) pss_nil).run pins s _ H D I ?_
  exact ⟨suite_len hi I, true, rfl, h⟩
/-- the clauses, one after another -/
inductive HsOk (X : Cx) (ec : Nat → Value) : List ExceptHandler → Hs → List (Value × Nat × (Addr → Value → Option Addr → TS)) → Prop
  | nil : HsOk X ec [] .nil []
  | cons {c i : Nat} {b : Hb} {x n : Str} {b₀ : Stmt} {suite : List Stmt} {np pos' : Pos} {hds : List ExceptHandler} {h : Hs} {l : List (Value × Nat × (Addr → Value → Option Addr → TS))} (hc : c < 2) (hi : X.N[i]? = some n) (hln : X.env.kindOf n = some .local) (hn : Names X x (ec c))
      (hsu : ∀ (a : Addr) (oe : Obj) (cls : Value) (d : Option Addr) (pn : List (Addr × Obj)), Zc cls d oe → (∃ vs, oe.data = .fields vs) → PSs (X.suite a ((a, oe) :: pn)) (b₀ :: suite) (tsD X.K b i a cls d)) (r : HsOk X ec hds h l) :
      HsOk X ec (.ExceptHandler (some (.Name x np)) (some n) (b₀ :: suite) pos' :: hds) (.cons c i b h) ((ec c, i, tsD X.K b i) :: l)
theorem HsOk.a : ∀ {hds : List ExceptHandler} {h : Hs} {l : List (Value × Nat × (Addr → Value → Option Addr → TS))}, HsOk X ec hds h l → HdsA X hds l
  | _, _, _, .nil => .nil
  | _, _, _, .cons _ hi hln hn hsu r => .cons hi hln hn hsu (HsOk.a r)
theorem handle_ok (hx : Excs X.K ec) {La0 : List Addr} {M0 Mr : Addr → Prop} {H0 Hr : Hp} {D : Ends} {c : Nat} {ρ : Env} {S : Store} {La : List Addr} {M : Addr → Prop} {H : Hp} {σ : St} (hc2 : c < 2) (R : RelS La0 M0 H0 Mr Hr La M H σ ρ S) :
    ∀ {hds : List ExceptHandler} {h : Hs} {l : List (Value × Nat × (Addr → Value → Option Addr → TS))}, HsOk X ec hds h l → AfterS W La0 M0 H0 Mr Hr D (handle h c ρ S) → wManyA X.K (wx ec W) D l (ec c) none σ H
  | _, _, _, .nil, q => ⟨c, rfl, rfl, q _ _ _ _ R⟩
  | _, _, _, .cons (c := d) (i := i) (b := b) hd hi hln hn hsu r, q => by
    refine ⟨decide (c = d), hx.is c d hc2 hd, fun hyes a ha => ?_, fun hno => ?_⟩
    · have e : c = d := of_decide_eq_true hyes
      subst e
      obtain ⟨E, e1, e2, e3⟩ := hx.ex c hc2
      refine ⟨rfl, ⟨E, e1, e2, e3⟩, ⟨σ, rfl⟩, ?_⟩
      unfold handle at q
      rw [if_pos rfl] at q
      cases b with
      | unit =>
        intro p hp
        refine q La M σ (upd H p (.tup [])) (.ref p) (R.after (StepE.new R.R.laM hp) (R.R.new hp)) (is_new_tup R.R.dom hp .nil)
      | go =>
        show D.nx ((σ.set i (some (.ref a))).set i none) H
        rw [List.set_set]
        refine q La M _ H (R.slots (R.R.slots (by rw [List.length_set, List.length_set]; exact R.R.len) fun j => ?_) fun j e h => set_own (fun _ z => by cases z) h)
        by_cases hj : i = j
        · subst hj
          by_cases hlt : i < ρ.length
          · exact .inr (.inr (List.getElem?_set_self hlt))
          · left
            have h2 : ¬ i < σ.length := by rw [← R.R.len]; exact hlt
            rw [List.set_eq_of_length_le (by omega), List.set_eq_of_length_le (by omega)]
            exact ⟨rfl, rfl⟩
        · exact .inl ⟨List.getElem?_set_ne hj, List.getElem?_set_ne hj⟩
    · have e : ¬ c = d := of_decide_eq_false hno
      unfold handle at q
      rw [if_neg e] at q
      exact handle_ok hx hc2 R r q
/-- try -/
theorem s_try (hx : Excs X.K ec) (hs : X.stack = X.env :: X.outer) (hf : X.env.frame = some X.env.locals) (hN : X.N.Nodup) (tk : Takes X (wx ec W)) {body : List Stmt} {fb : Env → Store → SRes} {h₀ : ExceptHandler} {hds : List ExceptHandler} {h : Hs} {l : List (Value × Nat × (Addr → Value → Option Addr → TS))}
    (hb : ∀ (W : WN) (pn : List (Addr × Obj)) (xe : Value → Shared → Prop), Takes (X.tr pn xe) (wx ec W) → PassesOwn (model X.prog X.w) X.A X.env xe → SSs (X.tr pn xe) W body fb) (hh : HsOk X ec (h₀ :: hds) h l) :
    SS1 X W (.Try body (h₀ :: hds) [] [] pos) fun ρ S => match fb ρ S with
      | .exc c ρ' S' => if c < 2 then handle h c ρ' S' else .stuck
      | r => r := by
  refine PS.imp (ps_try_manyA (tb := fun W => tS (fun c σ H => W (ec c) none σ H) fb) hs hf hN tk (fun W pn xe tk' po => hb _ pn xe (tk'.imp fun cls d σ H ⟨c, e1, e2, w⟩ => by subst e1; subst e2; exact w) po) hh.a) fun D σ H q => ?_
  obtain ⟨La0, M0, H0, Mr, Hr, La, M, ρ, S, R, q⟩ := q
  refine ⟨La0, M0, H0, Mr, Hr, La, M, ρ, S, R, ?_⟩
  dsimp only at q
  cases w : fb ρ S with
  | stuck => rw [w] at q; exact q
  | fin fl ρ2 S2 =>
    rw [w] at q
    cases fl with
    | next => exact q
    | cont => exact q
    | brk => exact q
    | ret v => exact q
  | exc c ρ2 S2 =>
    rw [w] at q
    dsimp only at q
    by_cases hc : c < 2
    · rw [if_pos hc] at q
      exact fun La4 M4 σ4 H4 R4 => handle_ok hx hc R4 hh q
    · rw [if_neg hc] at q
      exact q.elim
end
end L2.DL

set_option maxHeartbeats 1000000
/-! The data layer: join, index, [::-1]. -/
namespace L2.DL
open PySem PySem.Spec PyProof.Rows L2
/-- what a method may be asked of -/
def plB : Expr → Bool
  | .Name .. => true
  | .Constant .. => true
  | _ => false
theorem plB_base {o : Expr} {name : Str} {env : PySem.Env} (h : plB o = true) : attributeBase o name env (eval o env) = eval o env := by
  cases o <;> first | rfl | exact absurd h Bool.false_ne_true
theorem strsOf_is {M : Addr → Prop} {H : Hp} : ∀ {vs : List V} {ds : List PyData} {ns : List Str}, IsAll M H vs ds → strsOf ds = some ns → vs = ns.map V.str
  | _, _, _, .nil, e => by cases e; rfl
  | _, _, _, .cons (d := d) h t, e => by
    cases d with
    | str i =>
      simp only [strsOf] at e
      cases q : strsOf _ with
      | none => rw [q] at e; cases e
      | some ms =>
        rw [q] at e
        cases e
        rw [List.map_cons, strsOf_is t q, (IsB.of h).str]
    | _ => cases e
section
variable {X : Cx} {W : WN} {a : Expr} {fa : Env → Mn PyData} {pos cpos apos : Pos} {e : Expr} {fs : Env → Mn (List PyData)}
theorem join_some {z : Str} {y d : PyData} (h : joinD z y = some d) : ∃ ds zs, (y = .list ds ∨ y = .tuple ds) ∧ strsOf ds = some zs ∧ (zs.map (·.length)).sum + zs.length * z.length ≤ 16777216 ∧ d = .str (Txt.join z zs) := by
  have key : ∀ ds, ((strsOf ds).bind fun zs => if (zs.map (·.length)).sum + zs.length * z.length ≤ 16777216 then some (PyData.str (Txt.join z zs)) else none) = some d → ∃ zs, strsOf ds = some zs ∧ (zs.map (·.length)).sum + zs.length * z.length ≤ 16777216 ∧ d = .str (Txt.join z zs) := fun ds h => by
    cases q : strsOf ds with
    | none => rw [q] at h; cases h
    | some zs =>
      rw [q] at h
      have h : (if (zs.map (·.length)).sum + zs.length * z.length ≤ 16777216 then some (PyData.str (Txt.join z zs)) else none) = some d := h
      by_cases hz : (zs.map (·.length)).sum + zs.length * z.length ≤ 16777216
      · rw [if_pos hz] at h; cases h; exact ⟨zs, rfl, hz, rfl⟩
      · rw [if_neg hz] at h; cases h
  cases y with
  | list ds => obtain ⟨zs, h1, h2, h3⟩ := key ds h; exact ⟨ds, zs, .inl rfl, h1, h2, h3⟩
  | tuple ds => obtain ⟨zs, h1, h2, h3⟩ := key ds h; exact ⟨ds, zs, .inr rfl, h1, h2, h3⟩
  | _ => cases h
/-- sep.join(e) -/
theorem se_join (ha : SO X W a fa) (he : SA X W [e] fs) (hb : plB a = true) (hp : pln e = true) (hline : (apos.endLine == cpos.line) = true) :
    SE X W (.Call (.Attribute a "join" apos) [e] [] cpos) fun ρ => Mn.bind (fa ρ) fun x => Mn.bind (ofOpt (mthT .join x)) fun _ => Mn.bind (fs ρ) fun ys => ofOpt (mthD .join x ys) := by
  refine PE.imp (pe_bm (T := "str") (id := "str.join") PySem.F.plainAttrs_str PySem.F.slot_str_join PySem.F.type_str_join mt_join ha he (plB_base hb) (by rw [pln_star hp]; rfl) hline (pln_star hp) rfl) fun σ H Q h => ?_
  obtain ⟨La, M0, M, ρ, S, R, h⟩ := tD_iff.mp h
  refine tD_iff.mpr ⟨La, M0, M, ρ, S, R, h.bind.mono fun dx La1 M1 H1 S1 s1 R1 q x hx => ?_⟩
  cases dx with
  | str z =>
    have q : After W La1 M0 M1 H1 σ ρ ((Mn.bind (fs ρ) fun ys => ofOpt (mthD .join (.str z) ys)) S1) _ := q
    have ex := hx.b.str; subst ex
    refine ⟨rfl, tDA_iff.mpr ⟨La1, M0, M1, ρ, S1, R1, q.bind.mono fun dys La2 M2 H2 S2 s2 R2 q2 vys hvys => ?_⟩⟩
    obtain ⟨dy, y, rfl, rfl, hy⟩ : ∃ dy y, dys = [dy] ∧ vys = [y] ∧ Is M2 H2 y dy := by
      cases hvys with
      | nil => exact q2.elim
      | cons r t => cases t with
        | nil => exact ⟨_, _, rfl, rfl, r⟩
        | cons _ _ => exact q2.elim
    have q2 : After W La2 M0 M2 H2 σ ρ (ofOpt (joinD z dy) S2) _ := q2
    cases em : joinD z dy with
    | none => rw [em] at q2; exact q2.elim
    | some d =>
      rw [em] at q2
      obtain ⟨ds, zs, e2, e3, e4, rfl⟩ := join_some em
      have fin := After.here (a := PyData.str (Txt.join z zs)) q2 R2 _ (.str _)
      rcases e2 with rfl | rfl
      · obtain ⟨l, vs, rfl, hr, hv⟩ := (IsB.of hy).list
        have ev := strsOf_is hv e3
        subst ev
        exact ⟨z, l, zs, rfl, rfl, .inl (.inl hr), e4, fin⟩
      · obtain ⟨l, vs, rfl, _, hr, hv⟩ := (IsB.of hy).tup
        have ev := strsOf_is hv e3
        subst ev
        exact ⟨z, l, zs, rfl, rfl, .inr (.inl hr), e4, fin⟩
  | _ => exact q.elim
theorem firstEq_some {x : PyData} : ∀ {ys : List PyData} {k j : Nat}, firstEq x k ys = some j → ∃ z, k ≤ j ∧ ys[j - k]? = some z ∧ PyData.eqv z x = true ∧ ∀ (m : Nat) (z' : PyData), m < j - k → ys[m]? = some z' → PyData.eqv z' x = false
  | [], _, _, h => by cases h
  | y :: r, k, j, h => by
    unfold firstEq at h
    cases q : PyData.eqv y x with
    | true =>
      rw [q, if_pos rfl] at h
      cases h
      exact ⟨y, Nat.le_refl _, by simp, q, fun m z' hm => by omega⟩
    | false =>
      rw [q, if_neg Bool.false_ne_true] at h
      obtain ⟨z, h1, h2, h3, h4⟩ := firstEq_some h
      refine ⟨z, by omega, ?_, h3, fun m z' hm hz => ?_⟩
      · rw [show j - k = (j - (k + 1)) + 1 by omega]
        exact h2
      · cases m with
        | zero => cases hz; exact q
        | succ m => exact h4 m z' (by omega) hz
/-- l.index(e) -/
theorem se_index (hu : X.A.units + 65 < cLine) (ha : SO X W a fa) (he : SA X W [e] fs) (hb : plB a = true) (hp : pln e = true) (hline : (apos.endLine == cpos.line) = true) :
    SE X W (.Call (.Attribute a "index" apos) [e] [] cpos) fun ρ => Mn.bind (fa ρ) fun x => Mn.bind (ofOpt (mthT .index x)) fun _ => Mn.bind (fs ρ) fun ys => ofOpt (mthD .index x ys) := by
  refine PE.imp (pe_bm (T := "list") (id := "list.index") PySem.F.plainAttrs_list PySem.F.slot_list_index PySem.F.type_list_index (mt_indexD hu) ha he (plB_base hb) (by rw [pln_star hp]; rfl) hline (pln_star hp) rfl) fun σ H Q h => ?_
  obtain ⟨La, M0, M, ρ, S, R, h⟩ := tD_iff.mp h
  refine tD_iff.mpr ⟨La, M0, M, ρ, S, R, h.bind.mono fun dx La1 M1 H1 S1 s1 R1 q x hx => ?_⟩
  cases dx with
  | list ys =>
    have q : After W La1 M0 M1 H1 σ ρ ((Mn.bind (fs ρ) fun zs => ofOpt (mthD .index (.list ys) zs)) S1) _ := q
    obtain ⟨l, vs, rfl, hr, hv⟩ := hx.b.list
    refine ⟨.inl ⟨rfl, vs, .inl hr⟩, tDA_iff.mpr ⟨La1, M0, M1, ρ, S1, R1, q.bind.mono fun dys La2 M2 H2 S2 s2 R2 q2 vys hvys => ?_⟩⟩
    obtain ⟨dy, y, rfl, rfl, hy⟩ : ∃ dy y, dys = [dy] ∧ vys = [y] ∧ Is M2 H2 y dy := by
      cases hvys with
      | nil => exact q2.elim
      | cons r t => cases t with
        | nil => exact ⟨_, _, rfl, rfl, r⟩
        | cons _ _ => exact q2.elim
    have q2 : After W La2 M0 M2 H2 σ ρ (ofOpt (indexD ys dy) S2) _ := q2
    cases em : indexD ys dy with
    | none => rw [em] at q2; exact q2.elim
    | some d =>
      rw [em] at q2
      unfold indexD at em
      split at em
      · rename_i hsh
        simp only [Bool.and_eq_true] at hsh
        cases hf : firstEq dy 0 ys with
        | none => rw [hf] at em; cases em
        | some j =>
          rw [hf] at em
          cases em
          obtain ⟨z, _, h2, h3, h4⟩ := firstEq_some hf
          have hx2 := hx.mono s2 R1.dom
          exact ⟨l, y, dy, ys, j, z, rfl, rfl, hx2.b.dp (noDict_of_shaped hsh.2), Is.dp hy (noDict_of_shaped hsh.1), hsh.2, hsh.1, h2, h3, h4, After.here (a := PyData.int (j : Nat)) q2 R2 _ (.int _)⟩
      · cases em
  | _ => exact q.elim
end
end L2.DL

set_option maxHeartbeats 1000000
/-! The data layer: [::-1]. -/
namespace HT
open PySem PySem.Spec PyProof.Rows L2
section
variable {prog : Program} {w : World} {A : Around} {E : Value → Shared → Prop} {s : Shared}
theorem places_rev (n : Nat) : Builtin.Slice.slicePlaces ((n : Int) - 1) (-1) (-1) = n := by
  unfold Builtin.Slice.slicePlaces
  rw [if_neg (by decide)]
  by_cases h : (n : Int) - 1 > -1
  · rw [if_pos h]
    have : (-(-1) : Int) = 1 := by decide
    rw [this, Int.ediv_one]
    omega
  · rw [if_neg h]
    omega
theorem sliceApplied_rev {sl : Addr} {t : Tok} {n : Nat} {Q : Int × Int × Nat → Shared → Prop} (hs : s.heap.IsSliceOf sl .none .none (.int (-1) t)) (h : Q ((n : Int) - 1, -1, n) s) : wpAny (model prog w) A (Builtin.Slice.sliceApplied (.ref sl) (pure (n : Int))) Q E s := by
  obtain ⟨os, hos, hcs, hds⟩ := id hs
  unfold Builtin.Slice.sliceApplied Builtin.Slice.sliceFields
  refine wpAny_bind (wpAny_bind (wpAny_field hos hds (x := .none) rfl (wpAny_bind (wpAny_field hos hds (x := .none) rfl (wpAny_bind (wpAny_field hos hds (x := .int (-1) t) rfl (wpAny_pure ?_)))))))
  refine wpAny_bind (slicePart_int ?_)
  show wpAny _ _ (if ((-1 : Int) == 0) = true then _ else _) _ _ s
  rw [if_neg (by decide)]
  refine wpAny_bind (slicePart_none (wpAny_bind (slicePart_none (wpAny_bind (wpAny_pure ?_)))))
  show wpAny _ _ (pure ((n : Int) - 1, (-1 : Int), Builtin.Slice.slicePlaces ((n : Int) - 1) (-1) (-1))) _ _ s
  rw [places_rev]
  exact wpAny_pure h
theorem pick_rev (xs : Array Value) : ((List.range xs.size).filterMap fun (k : Nat) => xs[(((xs.size : Int) - 1) + (k : Int) * (-1)).toNat]?).toArray = xs.toList.reverse.toArray := by
  have e1 : (List.range xs.size).filterMap (fun (k : Nat) => xs[(((xs.size : Int) - 1) + (k : Int) * (-1)).toNat]?) = (List.range xs.size).filterMap fun k => xs[xs.size - 1 - k]? := by
    have key : ∀ l : List Nat, (∀ k ∈ l, k < xs.size) → l.filterMap (fun (k : Nat) => xs[(((xs.size : Int) - 1) + (k : Int) * (-1)).toNat]?) = l.filterMap fun k => xs[xs.size - 1 - k]? := by
      intro l
      induction l with
      | nil => intro _; rfl
      | cons k l ih =>
        intro hl
        have hk := hl k List.mem_cons_self
        have e : (((xs.size : Int) - 1) + (k : Int) * (-1)).toNat = xs.size - 1 - k := by omega
        rw [List.filterMap_cons, List.filterMap_cons, e, ih fun j hj => hl j (List.mem_cons_of_mem _ hj)]
    exact key _ fun k hk => List.mem_range.mp hk
  have e2 : ((List.range xs.size).filterMap fun k => xs[xs.size - 1 - k]?) = ((List.range xs.size).map fun k => xs.size - 1 - k).filterMap (xs[·]?) := by
    rw [List.filterMap_map]
    rfl
  rw [e1, e2, PySem.W.krv_range, List.filterMap_reverse, PySem.W.krv_all]
theorem getItem_tuple_rev {t sl : Addr} {items : Array Value} {tk : Tok} {Q : Value → Shared → Prop} (ht : IsTup s.heap t items) (hs : s.heap.IsSliceOf sl .none .none (.int (-1) tk))
    (h : Q (.ref s.heap.objs.size) { s with heap := s.heap.push { cls := .type "tuple", data := .seq items.toList.reverse.toArray } }) (hsz : items.size ≤ sizeLine) : wpAny (model prog w) A (getItem (.ref t) (.ref sl)) Q E s := by
  have htake : sizeOk (.seq items.toList.reverse.toArray) := by
    show items.toList.reverse.toArray.size ≤ sizeLine
    rw [List.size_toArray, List.length_reverse, Array.length_toList]
    exact hsz
  obtain ⟨os, hos, hcs, hds⟩ := id hs
  have hTs : s.TypeIs (.ref sl) "slice" := ⟨os, hos, hcs⟩
  unfold getItem
  try with_reducible refine wpAny_holding ?_
  first | refine wpAny_bind (wpAny_pure ?_) | skip
  refine wpAny_bind (wpAny_sequenceKey ht.typeIs (by decide) ?_)
  refine wpAny_bind (wpAny_callSpecial?_slot (name := Str.ofString "__getitem__") ht.typeIs PyProof.Rows.slot_tuple_getitem
    (wpAny_call_entry PyProof.Rows.slot_tuple_getitem ht.typeIs entry_tuple_getitem ?_ (args_tuple_getitem _ _)))
  show wpAny _ _ (Builtin.Tuple.tupleItemsOf (.ref t) >>= _) _ _ s
  refine wpAny_bind (tupleItemsOf_ ht ?_)
  refine wpAny_bind (wpAny_typeOf hTs ?_)
  rw [if_pos (by decide)]
  refine wpAny_bind (sliceApplied_rev hs ?_)
  have hno : ¬ ((((items.size : Int) - 1) == 0 && (-1 : Int) == 1 && items.size == items.size) = true) := by
    intro q
    rw [Bool.and_eq_true, Bool.and_eq_true] at q
    exact absurd q.1.2 (by decide)
  show wpAny _ _ (if (((items.size : Int) - 1) == 0 && (-1 : Int) == 1 && items.size == items.size) = true then _ else _) _ _ s
  rw [if_neg hno, pick_rev]
  first
    | exact wpAny_bind (m := Builtin.Tuple.tupleExact _) (wpAny_newObj_type (wpAny_pure ⟨_, rfl, wpAny_pure h⟩) htake)
    | exact wpAny_bind (m := Builtin.Tuple.tupleExact _) (wpAny_newObj_type (wpAny_bind (wpAny_pure (wpAny_pure ⟨_, rfl, wpAny_pure h⟩))) htake)
    | exact wpAny_bind (wpAny_bind (m := Builtin.Tuple.tupleExact _) (wpAny_newObj_type (wpAny_pure (wpAny_pure ⟨_, rfl, wpAny_pure h⟩)) htake))
    | exact wpAny_bind (wpAny_bind (m := Builtin.Tuple.tupleExact _) (wpAny_newObj_type (wpAny_pure ⟨_, rfl, wpAny_pure h⟩) htake))
end
end HT
namespace L2.DL
open PySem PySem.Spec PyProof.Rows L2
theorem str_rev (x : Str) (t : Tok) (tk : Tok) : sliceMade x t none none (some (-1, tk)) = Made.str ⟨x.cps.reverse⟩ := by
  unfold sliceMade slicePicked
  have e1 : Builtin.Str.strSliceIndices none none (-1) x.length = (List.range x.cps.size).reverse := by
    have := PySem.W.krv_sliceRange x.cps.size
    rw [PySem.W.krv_range] at this
    exact this
  show (if ((-1 : Int) == 1 && (Builtin.Str.strSliceIndices none none (-1) x.length).length == x.length) = true then Made.val (.str x t) else Made.str ⟨((Builtin.Str.strSliceIndices none none (-1) x.length).filterMap (x.cps[·]?)).toArray⟩) = _
  rw [if_neg (by rw [Bool.and_eq_true]; exact fun q => absurd q.1 (by decide)), e1, List.filterMap_reverse]
  have e2 : (List.range x.cps.size).filterMap (x.cps[·]?) = x.cps.toList := by
    apply List.ext_getElem?
    intro i
    have h : ∀ (n : Nat), n ≤ x.cps.size → (List.range n).filterMap (x.cps[·]?) = x.cps.toList.take n := by
      intro n
      induction n with
      | zero => intro _; rfl
      | succ n ih =>
        intro hn
        rw [List.range_succ, List.filterMap_append, ih (by omega), List.take_add_one]
        congr 1
        rw [Array.getElem?_toList, List.filterMap_cons, List.filterMap_nil]
        cases x.cps[n]? <;> rfl
    rw [h _ (Nat.le_refl _), List.take_of_length_le (by simp)]
  rw [e2]
  have e3 : x.cps.toList.reverse.toArray = x.cps.reverse := by
    apply Array.toList_inj.mp
    rw [Array.toList_reverse]
  rw [e3]
section
variable {X : Cx} {W : WN} {a : Expr} {fa : Env → Mn PyData} {pos p1 p2 p3 : Pos} {j : Nat}
/-- x[::-1] -/
theorem se_rev (ha : SO X W a fa) : SE X W (.Subscript a (.Slice none none (some (.UnaryOp .USub (.Constant (.int 1) j p1) p2)) p3) pos) fun ρ => Mn.bind (fa ρ) fun x => ofOpt (revD x) := by
  refine ⟨fun pins s σ H Q I h => ?_⟩
  obtain ⟨La, M0, M, ρ, S, R, h⟩ := tD_iff.mp h
  have key : tD W IsO fa σ H fun x H1 => ∃ (M1 : Addr → Prop) (d d' : PyData), (∀ a, M1 a → H1 a ≠ none) ∧ IsB M1 H1 x d ∧ revD d = some d' ∧ ∀ v H', Grow H1 H' → Is M1 H' v d' → Q v H' :=
    tD_iff.mpr ⟨La, M0, M, ρ, S, R, h.bind.mono fun d La1 M1 H1 S1 s1 R1 q v hv => by
      cases e : revD d with
      | none => rw [e] at q; exact q.elim
      | some d' =>
        rw [e] at q
        exact ⟨M1, d, d', R1.dom, hv.b, e, fun v H' gr hv => let ⟨s2, R2⟩ := gr.stepE R1; q La1 M1 H' s2 R2 v hv⟩⟩
  refine Subscript_ (thn (ha.run pins s σ H _ I key) fun v s1 ⟨x, H1, I1, r1, M1, d, d', hd, hx, e, q⟩ => ?_)
  refine wpAny_Slice ?_
  rw [evalPart_none]
  refine wpAny_pure (wpAny_pure ?_)
  have neg : wpAny (model X.prog X.w) X.A (eval (.UnaryOp .USub (.Constant (.int 1) j p1) p2) X.env) (fun u s' => ∃ t, u = Value.int (-1) t ∧ Inv X pins σ H1 s') X.xe s1 :=
    thn ((pe_un (X := X) un_neg (pe_int (X := X))).run pins s1 σ H1 (fun v H' => v = .int (-1) ∧ H' = H1) I1 ⟨1, rfl, rfl, rfl⟩) fun u s' ⟨v, H', I', r, e1, e2⟩ => by
      subst e1; subst e2
      obtain ⟨t, rfl⟩ := r
      exact ⟨t, rfl, I'⟩
  refine thn neg fun u s2 ⟨tk, eu, I2⟩ => ?_
  subst eu
  have I4 : Inv X pins σ H1 { s2 with heap := s2.heap.push { cls := .type "slice", data := .fields #[.none, .none, .int (-1) tk] } } := I2.kept (t' := s2.toks) fun b ob q => Heap.get?_push_of_some _ q
  have hsl := Heap.IsSliceOf.new s2.heap .none .none (.int (-1) tk)
  have fin : ∃ T id, typeLookup (.type T) "__getitem__" = pure (some (.builtin id)) ∧ Shared.TypeIs { s2 with heap := s2.heap.push { cls := .type "slice", data := .fields #[.none, .none, .int (-1) tk] } } v T ∧
      wpAny (model X.prog X.w) X.A (getItem v (.ref s2.heap.objs.size)) (EP X pins σ Q) X.xe { s2 with heap := s2.heap.push { cls := .type "slice", data := .fields #[.none, .none, .int (-1) tk] } } := by
    cases d with
    | list ds =>
      cases e
      obtain ⟨l, vs, rfl, hr, hv⟩ := hx.list
      cases r1
      obtain ⟨its, rv, pl, hz⟩ := I4.list (.inl hr)
      refine ⟨"list", _, slot_list_getitem.lookup, pl.isList.typeIs, ?_⟩
      refine wpAny_getItem_list_slice pl.isList hsl .none .none (.int (-1) tk) (by decide) ?_ (by rw [List.size_toArray, ← rv.length]; exact hz)
      rw [PySem.W.krv_pick]
      have rr := rv.reverse
      have e2 : its.toArray.toList.reverse.toArray = its.reverse.toArray := by simp
      rw [e2]
      exact ⟨.ref _, _, I4.lnew (t' := s2.toks) rr (by rw [List.length_reverse]; exact hz), rfl, q _ _ (.inr ⟨_, _, I4.fresh, rfl⟩) (is_new_lst hd I4.fresh hv.reverse)⟩
    | tuple ds =>
      cases e
      obtain ⟨l, vs, rfl, _, hr, hv⟩ := hx.tup
      cases r1
      obtain ⟨its, rv, pl, hz⟩ := I4.tuple (.inl hr)
      refine ⟨"tuple", _, slot_tuple_getitem.lookup, pl.typeIs, ?_⟩
      refine HT.getItem_tuple_rev pl hsl ?_ (by rw [List.size_toArray, ← rv.length]; exact hz)
      have rr := rv.reverse
      have e2 : its.toArray.toList.reverse.toArray = its.reverse.toArray := by simp
      rw [e2]
      refine ⟨.ref _, upd H1 _ (.tup vs.reverse), I4.laid (t' := s2.toks) (fun b u e => Heap.get?_push_of_some _ e) (Nat.le_refl _) ⟨by rw [List.length_reverse]; exact hz, _, rr, ⟨_, Heap.get?_push_size _ rfl, rfl, 0, rfl⟩⟩, rfl, q _ _ (.inr ⟨_, _, I4.fresh, rfl⟩) (is_new_tup hd I4.fresh hv.reverse)⟩
    | str z =>
      simp only [revD] at e
      split at e
      · rename_i hz
        cases e
        have ex := hx.str; subst ex
        obtain ⟨t, rfl⟩ := r1
        refine ⟨"str", _, slot_str_getitem.lookup, typeIs_str _ _ _, ?_⟩
        refine wpAny_getItem_str_slice (l := none) (u := none) (st := some (-1, tk)) hsl rfl ?_
        rw [str_rev]
        refine ⟨?_, .str _, H1, I4.tok _, ⟨_, rfl⟩, q _ _ (.refl _) (.str _)⟩
        show z.cps.reverse.size ≤ sizeLine
        rw [Array.size_reverse]
        exact hz
      · cases e
    | _ => cases e
  obtain ⟨T, id, hT, ht, hg⟩ := fin
  exact tail_any (ops := [v, .ref s2.heap.objs.size]) ht hT hg (by with_unfolding_all rfl)
end
end L2.DL

set_option maxHeartbeats 1000000
/-! The data layer: sorted, max, min. -/
namespace L2.DL
open PySem PySem.Spec PyProof.Rows L2
section
variable {X : Cx} {M : Addr → Prop} {H : Hp} {pins : List (Addr × Obj)} {σ : St} {s : Shared}
theorem each_zip : ∀ {ys : List V} {us : List Value} {ds : List PyData}, Vals ys us → IsAll M H ys ds → PySem.W.EachIs (fun (v : Value) (b : V × PyData) => RelV b.1 v ∧ Is M H b.1 b.2) us (ys.zip ds)
  | _, _, _, .nil, .nil => .nil
  | _, _, _, .cons r t, .cons h k => .cons ⟨r, h⟩ (each_zip t k)
theorem zip_snd : ∀ {ys : List V} {ds : List PyData}, IsAll M H ys ds → (ys.zip ds).map (·.2) = ds
  | _, _, .nil => rfl
  | _, _, .cons h k => by rw [List.zip_cons_cons, List.map_cons, zip_snd k]
theorem each_vals : ∀ {us : List Value} {bs : List (V × PyData)}, PySem.W.EachIs (fun (v : Value) (b : V × PyData) => RelV b.1 v ∧ Is M H b.1 b.2) us bs → Vals (bs.map (·.1)) us ∧ IsAll M H (bs.map (·.1)) (bs.map (·.2))
  | _, _, .nil => ⟨.nil, .nil⟩
  | _, _, .cons h t => ⟨.cons h.1 (each_vals t).1, .cons h.2 (each_vals t).2⟩
theorem each_reads (I : Inv X pins σ H s) : ∀ {us : List Value} {bs : List (V × PyData)}, PySem.W.EachIs (fun (v : Value) (b : V × PyData) => RelV b.1 v ∧ Is M H b.1 b.2) us bs → (∀ b ∈ bs, b.2.hasDict = false) → PySem.W.EachIs (fun (v : Value) (b : V × PyData) => ∃ as, Reads s.heap v b.2 as) us bs
  | _, _, .nil, _ => .nil
  | _, _, .cons h t, k => .cons (Dp.reads I _ _ _ ((IsB.of h.2).dp (k _ List.mem_cons_self)) h.1) (each_reads I t fun b hb => k b (List.mem_cons_of_mem _ hb))
theorem dle_eq : PySem.W.dataLe false (fun b : V × PyData => b.2) = fun a b => dle a.2 b.2 := by
  rw [PySem.W.dataLe_eq]
  rfl
theorem call_sortD (hu : X.A.units + 64 < cLine) : CallR X (.builtin "sorted") (rD1 sortedD) := by
  intro pins s σ H xs us Q I r h
  obtain ⟨M, x, dx, d, rfl, hd, hx, e, q⟩ := h
  cases dx with
  | list ds =>
    obtain ⟨a, ys, rfl, ha, hys⟩ := hx.list
    obtain ⟨its, rv, hl, hz⟩ := I.list (.inl ha)
    rw [Vals.ref1 r]
    have e0 : (if sortOk ds then some (PyData.list (ds.mergeSort dle)) else none) = some d := e
    split at e0
    · rename_i hc
      cases e0
      unfold sortOk at hc
      simp only [Bool.and_eq_true] at hc
      obtain ⟨⟨⟨h1, h2⟩, h3⟩, h4⟩ := hc
      have hlen : ds.length ≤ sizeLine := of_decide_eq_true h4
      have hzs := zip_snd hys
      have hmem : ∀ b ∈ ys.zip ds, b.2 ∈ ds := fun b hb => by
        rw [← hzs]
        exact List.mem_map.mpr ⟨b, hb, rfl⟩
      have hdict : ∀ b ∈ ys.zip ds, b.2.hasDict = false := fun b hb => by
        have z := List.all_eq_true.mp h2 b.2 (hmem b hb)
        simp only [Bool.and_eq_true, Bool.not_eq_true'] at z
        exact z.1
      have hdep : ∀ b ∈ ys.zip ds, b.2.depth ≤ 60 := fun b hb => by
        have z := List.all_eq_true.mp h2 b.2 (hmem b hb)
        simp only [Bool.and_eq_true, decide_eq_true_eq] at z
        exact z.2
      have E := each_zip rv hys
      have hbl : (ys.zip ds).length = ds.length := by rw [← hzs, List.length_map]; simp [hzs]
      refine PySem.W.sorted_data (R := fun (v : Value) (b : V × PyData) => RelV b.1 v ∧ Is M H b.1 b.2) (enc := fun b : V × PyData => b.2) hl.isList E (each_reads I E hdict) ?_ ?_ ?_ ?_ fun out q1 q2 => ?_
      · rw [hzs]
        intro d1 hd1 d2 hd2
        exact List.all_eq_true.mp (List.all_eq_true.mp h1 d1 hd1) d2 hd2
      · rw [hzs]
        rw [Bool.or_eq_true] at h3
        rcases h3 with h3 | h3
        · refine .inl fun d1 hd1 => ?_
          have z := List.all_eq_true.mp h3 d1 hd1
          match d1, z with
          | .tuple (x :: r), _ => exact ⟨x, r, rfl⟩
        · refine .inr fun d1 hd1 => ?_
          have z := List.all_eq_true.mp h3 d1 hd1
          constructor
          · rintro rfl
            cases z
          · rintro xs rfl
            cases z
      · rw [hbl]
        exact hlen
      · intro b hb
        have := hdep b hb
        show X.A.units + 2 + b.2.depth < cLine
        omega
      · obtain ⟨v1, v2⟩ := each_vals q2
        have hmap : ((ys.zip ds).mergeSort (PySem.W.dataLe false fun b : V × PyData => b.2)).map (·.2) = ds.mergeSort dle := by
          rw [dle_eq, List.map_mergeSort (s := dle) (f := fun b : V × PyData => b.2) (fun _ _ _ _ => rfl), hzs]
        rw [hmap] at v2
        obtain ⟨ep, he'⟩ := PyProof.Rows.sortedAll_at s.heap its out.toArray
        have hl2 : (((ys.zip ds).mergeSort (PySem.W.dataLe false fun b : V × PyData => b.2)).map (·.1)).length ≤ sizeLine := by
          rw [v2.length, List.length_mergeSort]
          exact hlen
        have hn := I.hok.fresh (Nat.le_succ s.heap.objs.size)
        exact ⟨.ref _, upd H (s.heap.objs.size + 1) (.lst _), I.laid (t' := s.toks) (fun _ _ => PyProof.Rows.sortedAll_old) (Nat.le_succ _) ⟨hl2, out, ep, v1, he'⟩, rfl, q _ _ (.inr ⟨_, _, hn, rfl⟩) (is_new_lst hd hn v2)⟩
    · cases e0
  | _ => cases e
theorem maxI_mem : ∀ (r : List Int) (x : Int), (r.foldl (fun a b => if a < b then b else a) x = x ∨ r.foldl (fun a b => if a < b then b else a) x ∈ r) ∧ x ≤ r.foldl (fun a b => if a < b then b else a) x ∧ ∀ y ∈ r, y ≤ r.foldl (fun a b => if a < b then b else a) x
  | [], x => ⟨.inl rfl, Int.le_refl _, fun y hy => absurd hy List.not_mem_nil⟩
  | b :: r, x => by
    rw [List.foldl_cons]
    by_cases h : x < b
    · rw [if_pos h]
      obtain ⟨h1, h2, h3⟩ := maxI_mem r b
      refine ⟨.inr ?_, by omega, List.forall_mem_cons.mpr ⟨h2, h3⟩⟩
      rcases h1 with h1 | h1
      · rw [h1]; exact List.mem_cons_self
      · exact List.mem_cons_of_mem _ h1
    · rw [if_neg h]
      obtain ⟨h1, h2, h3⟩ := maxI_mem r x
      refine ⟨?_, h2, List.forall_mem_cons.mpr ⟨by omega, h3⟩⟩
      rcases h1 with h1 | h1
      · exact .inl h1
      · exact .inr (List.mem_cons_of_mem _ h1)
theorem maxI_spec {ns : List Int} {m : Int} (h : maxI ns = some m) : m ∈ ns ∧ ∀ y ∈ ns, y ≤ m := by
  cases ns with
  | nil => cases h
  | cons x r =>
    cases h
    obtain ⟨h1, h2, h3⟩ := maxI_mem r x
    refine ⟨?_, List.forall_mem_cons.mpr ⟨h2, h3⟩⟩
    rcases h1 with h1 | h1
    · rw [h1]; exact List.mem_cons_self
    · exact List.mem_cons_of_mem _ h1
theorem intsOf_some : ∀ {ds : List PyData} {ns : List Int}, intsOf ds = some ns → ds = ns.map PyData.int
  | [], ns, h => by cases h; rfl
  | .int i :: r, ns, h => by
    cases q : intsOf r with
    | none => rw [intsOf, q] at h; cases h
    | some ms =>
      rw [intsOf, q] at h
      cases h
      rw [List.map_cons, ← intsOf_some q]
  | .none :: _, _, h => by cases h
  | .bool _ :: _, _, h => by cases h
  | .str _ :: _, _, h => by cases h
  | .list _ :: _, _, h => by cases h
  | .tuple _ :: _, _, h => by cases h
  | .dict _ :: _, _, h => by cases h
theorem all_int : ∀ {ys : List V} {ns : List Int}, IsAll M H ys (ns.map PyData.int) → ys = ns.map V.int
  | _, [], h => by cases h; rfl
  | _, n :: r, h => by
    cases h with
    | cons h1 h2 =>
      rw [(IsB.of h1).int, all_int h2]
      rfl
theorem vals_read {h : Heap} : ∀ {ns : List Int} {us : List Value}, Vals (ns.map V.int) us → ∃ as, ReadsAll h us (ns.map PyData.int) as
  | [], _, r => by cases r; exact ⟨_, .nil⟩
  | n :: ns, _, r => by
    cases r with
    | cons r1 r2 =>
      obtain ⟨t, rfl⟩ := r1
      obtain ⟨as, h2⟩ := vals_read (h := h) r2
      exact ⟨_, .cons (.int _ _) h2⟩
theorem call_maxD (hc : X.calm = true) (hu : X.A.units + 64 < cLine) : CallR X (.builtin "max") (rD1 maxD) := by
  intro pins s σ H xs us Q I r h
  obtain ⟨M, x, dx, d, rfl, hd, hx, e, q⟩ := h
  cases dx with
  | list ds =>
    obtain ⟨a, ys, rfl, ha, hys⟩ := hx.list
    cases q1 : intsOf ds with
    | none => rw [maxD, q1] at e; cases e
    | some ns =>
      rw [maxD, q1] at e
      have e1 : (maxI ns).map PyData.int = some d := e
      cases q2 : maxI ns with
      | none => rw [q2] at e1; cases e1
      | some m =>
        rw [q2] at e1
        cases e1
        have z := intsOf_some q1
        subst z
        have z := all_int hys
        subst z
        obtain ⟨m1, m2⟩ := maxI_spec q2
        refine cr_max hc pins s σ H _ us Q I r ⟨a, ns, rfl, .inl ha, List.length_pos_of_mem m1, fun m' h1 h2 => ?_⟩
        have z : m' = m := Int.le_antisymm (m2 m' h1) (h2 m m1)
        rw [z]
        exact q _ _ (.refl H) (.int _)
  | tuple ds =>
    obtain ⟨a, ys, rfl, na, ha, hys⟩ := hx.tup
    cases q1 : intsOf ds with
    | none => rw [maxD, q1] at e; cases e
    | some ns =>
      rw [maxD, q1] at e
      have e1 : (maxI ns).map PyData.int = some d := e
      cases q2 : maxI ns with
      | none => rw [q2] at e1; cases e1
      | some m =>
        rw [q2] at e1
        cases e1
        have z := intsOf_some q1
        subst z
        have z := all_int hys
        subst z
        obtain ⟨m1, m2⟩ := maxI_spec q2
        obtain ⟨its, rv, hl, hz⟩ := I.tuple (.inl ha)
        rw [Vals.ref1 r]
        cases ns with
        | nil => cases q2
        | cons n0 nr =>
          obtain ⟨as, hr⟩ := vals_read (h := s.heap) rv
          refine PySem.W.max_tuple_datum (α := Int) (x := n0) (xs := nr) (I.ok.hd hc) hl ⟨as, hr⟩ (by show X.A.units + 1 + 0 < cLine; omega) fun i v h' tk hi hh hk => ?_
          obtain ⟨bs, hh⟩ := hh
          have e2 : PySem.W.maxOf n0 nr = m := by
            cases q2
            show nr.foldl _ n0 = nr.foldl _ n0
            congr 1
            funext a b
            show (if decide (a < b) = true then b else a) = if a < b then b else a
            by_cases z : a < b
            · rw [if_pos z, if_pos (decide_eq_true z)]
            · rw [if_neg z, if_neg (by rw [decide_eq_false z]; exact Bool.false_ne_true)]
          rw [e2] at hh
          cases hh
          exact ⟨.int m, H, I.kept hk, ⟨_, rfl⟩, q _ _ (.refl H) (.int _)⟩
  | _ => cases e
theorem call_max2D (hc : X.calm = true) : CallR X (.builtin "max") (fun xs H Q => ∃ x y, xs = [x, y] ∧ rD2 (bi2D .max2) x y H Q) := by
  intro pins s σ H xs us Q I r h
  obtain ⟨x, y, rfl, M, dx, dy, d, hd, hx, hy, e, q⟩ := h
  cases dx with
  | int i =>
    cases dy with
    | int j =>
      cases e
      have ex := hx.int; subst ex
      have ey := hy.int; subst ey
      exact call_max2 hc pins s σ H _ us Q I r ⟨i, j, rfl, q _ _ (.refl H) (.int _)⟩
    | _ => cases e
  | _ => cases e
theorem call_min2D (hc : X.calm = true) : CallR X (.builtin "min") (fun xs H Q => ∃ x y, xs = [x, y] ∧ rD2 (bi2D .min2) x y H Q) := by
  intro pins s σ H xs us Q I r h
  obtain ⟨x, y, rfl, M, dx, dy, d, hd, hx, hy, e, q⟩ := h
  cases dx with
  | int i =>
    cases dy with
    | int j =>
      cases e
      have ex := hx.int; subst ex
      have ey := hy.int; subst ey
      exact call_min2 hc pins s σ H _ us Q I r ⟨i, j, rfl, q _ _ (.refl H) (.int _)⟩
    | _ => cases e
  | _ => cases e
end
end L2.DL

set_option maxHeartbeats 1000000
/-! The data layer, seventeenth part: the check that a text means an expression. -/
namespace L2.DL
open PySem PySem.Spec PyProof.Rows L2

/-! ### names -/
def eqL : List Nat → List Nat → Bool
  | [], [] => true
  | a :: x, b :: y => Nat.beq a b && eqL x y
  | _, _ => false
theorem eqL_iff : ∀ {x y : List Nat}, eqL x y = true ↔ x = y
  | [], [] => by simp [eqL]
  | [], _ :: _ => by simp [eqL]
  | _ :: _, [] => by simp [eqL]
  | a :: x, b :: y => by
    simp only [eqL, Bool.and_eq_true, Nat.beq_eq, List.cons.injEq, eqL_iff]
def eqS (a b : Str) : Bool := eqL a.cps.toList b.cps.toList
theorem eqS_iff {a b : Str} : eqS a b = true ↔ a = b := by
  unfold eqS
  rw [eqL_iff]
  constructor
  · intro h
    cases a; cases b
    congr 1
    exact Array.toList_inj.mp h
  · intro h; rw [h]
theorem eqS_beq {a b : Str} : (a == b) = eqS a b := by
  rw [Bool.eq_iff_iff, eqS_iff]
  exact beq_iff_eq
def lkS {α : Type} : List (Str × α) → Str → Option α
  | [], _ => none
  | (y, v) :: r, x => match eqS x y with
    | true => some v
    | false => lkS r x
theorem lkS_eq {α : Type} : ∀ {l : List (Str × α)} {x : Str}, l.lookup x = lkS l x
  | [], _ => rfl
  | (y, v) :: r, x => by
    rw [List.lookup_cons, eqS_beq]
    unfold lkS
    cases eqS x y with
    | true => rfl
    | false => exact lkS_eq
def bnames : List Str := ["len", "tuple", "list", "sorted", "sum", "abs", "isinstance", "int", "bool", "str", "range", "enumerate", "zip", "repr", "max", "min", "set", "dict", "ValueError"]
/-- what is known where a text stands: the slots' names, the scope, the own names, the defs and their numbers of parameters -/
structure Ck where
  N : List Str
  sc : List (Str × NameKind)
  own : List (Str × NameKind)
  all : Bool
  fs : List (Str × Nat)
  ex : List (Str × Nat)
def isVis : Option NameKind → Bool
  | some .local => true
  | some .cell => true
  | some .free => true
  | _ => false
def isLocal : Option NameKind → Bool
  | some .local => true
  | _ => false
def isCell : Option NameKind → Bool
  | some .cell => true
  | _ => false
def isGlob : Option NameKind → Bool
  | some .globalImplicit => true
  | _ => false
def nmN (c : Ck) (i : Nat) (x : Str) : Bool := match c.N[i]? with
  | some y => eqS x y
  | none => false
def plainN (x : Str) : Bool := !eqS x "__debug__" && !eqS x "__classdict__" && !eqS x "__name__"
/-- a name that is read -/
def nm (c : Ck) (i : Nat) (x : Str) : Bool := nmN c i x && isVis (lkS c.sc x) && plainN x
/-- a name that is stored -/
def nmS (c : Ck) (i : Nat) (x : Str) : Bool := nmN c i x && (isLocal (lkS c.sc x) || (isCell (lkS c.sc x) && (c.all || isCell (lkS c.own x))))
def gl (c : Ck) (x : Str) : Bool := isGlob (lkS c.sc x) && plainN x
def blt (c : Ck) (x n : Str) : Bool := eqS x n && gl c x
/-! ### the check -/
def bopOk : Bop → Operator → Bool
  | .add, .Add => true
  | .sub, .Sub => true
  | .mul, .Mult => true
  | .mod, .Mod => true
  | .fdiv, .FloorDiv => true
  | .pow, .Pow => true
  | _, _ => false
def copOk : Cop → CmpOp → Bool
  | .eq, .Eq => true
  | .ne, .NotEq => true
  | .lt, .Lt => true
  | .le, .LtE => true
  | .gt, .Gt => true
  | .ge, .GtE => true
  | .isin, .In => true
  | .notin, .NotIn => true
  | .isNone, .Is => true
  | .notNone, .IsNot => true
  | .isB, .Is => true
  | .notB, .IsNot => true
  | _, _ => false
def cstOk : PyData → Const → Bool
  | .int i, .int j => decide (i = j)
  | .bool true, .bool true => true
  | .bool false, .bool false => true
  | .none, .none => true
  | .str x, .str y => eqS x y
  | _, _ => false
def tyS : Ty → Str
  | .bool => "bool" | .int => "int" | .str => "str" | .tuple => "tuple" | .list => "list"
/-- a test that has no reading of its own -/
def plT : Expr → Bool
  | .Name .. => true
  | .Call .. => true
  | .Subscript .. => true
  | .Constant .. => true
  | .BinOp .. => true
  | .ListComp .. => true
  | .List .. => true
  | .Tuple .. => true
  | _ => false
def biS : Bi → Str
  | .str => "str" | .len => "len" | .tuple => "tuple" | .list => "list" | .int => "int" | .sum => "sum" | .abs => "abs" | .sorted => "sorted" | .maxl => "max" | _ => ""
def bi2S : Bi → Str
  | .max2 => "max" | .min2 => "min" | _ => ""
def bi2Ok : Bi → Bool
  | .max2 => true | .min2 => true | _ => false
def mtOk : Mt → Str → Bool
  | .join, n => eqS n "join"
  | .index, n => eqS n "index"
  | _, _ => false
def biOk : Bi → Bool
  | .str => true | .len => true | .tuple => true | .list => true | .int => true | .sum => true | .abs => true | .sorted => true | .maxl => true | _ => false
def chkTg (c : Ck) : List Nat → Expr → Bool
  | [i], .Name x _ => nmS c i x
  | is, .Tuple es _ _ => (match is with | [_] => false | _ => true) && go is es
  | _, _ => false
where go : List Nat → List Expr → Bool
  | [], [] => true
  | i :: is, .Name x _ :: es => nmS c i x && go is es
  | _, _ => false
def namesOf (c : Ck) (vs : List Nat) : List (Str × Nat) := vs.map fun v => ((c.N[v]?).getD "", v)
def inL (x : Str) : List Str → Bool
  | [] => false
  | y :: r => eqS x y || inL x r
def memN (i : Nat) : List Nat → Bool
  | [] => false
  | j :: r => Nat.beq i j || memN i r
/-- a comprehension's block -/
def blkOk (c : Ck) (vs : List Nat) (s : Scope) : Bool :=
  (match s.kind with | .function => true | _ => false) &&
  (s.names.all fun y => match lkS s.names y.1, y.2 with
    | some .local, .local => true
    | some .cell, .cell => true
    | some .free, .free => true
    | some .globalImplicit, .globalImplicit => true
    | _, _ => false) &&
  (vs.all fun v => decide (v < c.N.length)) &&
  (s.names.all fun y => match y.2 with
    | .free => isVis (lkS c.sc y.1) && !isLocal (lkS c.sc y.1)
    | .globalImplicit => true
    | _ => inL y.1 (vs.map fun v => (c.N[v]?).getD "") || !inL y.1 c.N)
def relN (names sc : List (Str × NameKind)) : List (Str × NameKind) := names.map fun p => match p.2, lkS sc p.1 with
  | .free, some .cell => (p.1, .cell)
  | _, _ => p
def inner (c : Ck) (s : Scope) : Ck := { N := c.N, sc := relN s.names c.sc, own := s.names, all := false, fs := c.fs, ex := c.ex }
mutual
def chk (c : Ck) (o : Bool) : E → Expr → Bool
  | .var i, x => match x with | .Name y _ => nm c i y | _ => false
  | .own i, x => match x with | .Name y _ => o && nm c i y | _ => false
  | .rf _, _ => false
  | .cst d, x => match x with | .Constant k _ _ => cstOk d k | _ => false
  | .edict, x => match x with | .Dict [] [] _ => true | _ => false
  | .tup es, x => match x with | .Tuple xs _ _ => chkEs c es xs && decide (xs.length ≤ 1000) | _ => false
  | .lst es, x => match x with | .List xs _ => chkEs c es xs && decide (xs.length ≤ 1000) | _ => false
  | .neg a, x => match x with | .UnaryOp .USub y _ => chk c true a y | _ => false
  | .not a, x => match x with | .UnaryOp .Not y _ => chk c true a y | _ => false
  | .bin q a b, x => match x with | .BinOp y op z _ => bopOk q op && chk c true a y && chk c true b z | _ => false
  | .cmp q a b, x => match x with | .Compare y [op] [z] _ => copOk q op && chk c true a y && chk c true b z && !behindInMarks op z | _ => false
  | .chain q p a b d, x => match x with | .Compare y [op, op2] [z, u] _ => copOk q op && copOk p op2 && chk c true a y && chk c true b z && chk c true d u && !lastMarks [op, op2] [z, u] | _ => false
  | .and a b, x => match x with
    | .BoolOp .And (y :: z :: r) p => chk c false a y && (match r with | [] => chk c false b z | _ => chk c false b (.BoolOp .And (z :: r) p))
    | _ => false
  | .or a b, x => match x with
    | .BoolOp .Or (y :: z :: r) p => chk c false a y && (match r with | [] => chk c false b z | _ => chk c false b (.BoolOp .Or (z :: r) p))
    | _ => false
  | .orv a b, x => match x with
    | .BoolOp .Or (y :: z :: r) p => chk c false a y && (match r with | [] => chk c false b z | _ => chk c false b (.BoolOp .Or (z :: r) p))
    | _ => false
  | .ite t a b, x => match x with | .IfExp u y z _ => chkT c t u && chk c false a y && chk c false b z | _ => false
  | .idx a b, x => match x with | .Subscript y z _ => chk c true a y && chk c true b z && pln z | _ => false
  | .cell i b, x => match x with | .Subscript (.Name y _) z _ => nm c i y && chk c true b z && pln z | _ => false
  | .sli a lo hi, x => match x with | .Subscript y (.Slice l h none _) _ => chk c true a y && chkOe c lo l && chkOe c hi h | _ => false
  | .rev a, x => match x with | .Subscript y (.Slice none none (some (.UnaryOp .USub (.Constant (.int 1) _ _) _)) _) _ => chk c true a y | _ => false
  | .isi a ts, x => match x with
    | .Call (.Name f _) [y, t] [] _ => blt c f "isinstance" && chk c true a y && pln y && (match ts, t with
      | [t1], .Name z _ => blt c z (tyS t1)
      | [t1, t2], .Tuple [.Name z _, .Name u _] _ _ => blt c z (tyS t1) && blt c u (tyS t2)
      | _, _ => false)
    | _ => false
  | .call f es, x => match x with
    | .Call (.Name g _) (y :: ys) [] _ => eqS f g && gl c g && (match lkS c.fs f with | some n => Nat.beq n (ys.length + 1) | none => false) && chkAs c es (y :: ys) && pln y && ys.all pln
    | _ => false
  | .bi b a, x => match x with | .Call (.Name f _) [y] [] _ => biOk b && blt c f (biS b) && chk c true a y && pln y | _ => false
  | .bi2 b a d, x => match x with | .Call (.Name f _) [y, z] [] _ => bi2Ok b && blt c f (bi2S b) && chk c true a y && chk c true d z && pln y && pln z | _ => false
  | .biIt _ _, _ => false
  | .mth m a es, x => match x with
    | .Call (.Attribute y n ap) [z] [] cp => mtOk m n && chk c true a y && plB y && chkEs c es [z] && pln z && ap.endLine == cp.line
    | _ => false
  | .cellPop _ _, _ => false
  | .lc vs elt g, x => match x with
    | .ListComp y gs s _ => blkOk c vs s && chk (inner c s) false elt y && chkG c (inner c s) true vs g gs
    | _ => false
def chkG (c c' : Ck) (first : Bool) (vs : List Nat) : Gs → List Comprehension → Bool
  | .one tg it cd, gs => match gs with
    | [⟨t, i, ifs, a⟩] => decide (a = 0) && pln i && chkI c first it t i && chkTg c' tg t && (tg.all fun j => memN j vs) && chkOt c' cd ifs
    | _ => false
  | .more tg it cd g, gs => match gs with
    | ⟨t, i, ifs, a⟩ :: gs' => first && decide (a = 0) && pln i && chkI c first it t i && chkTg c' tg t && (tg.all fun j => memN j vs) && chkOt c' cd ifs && chkG c' c' false vs g gs'
    | _ => false
def chkT (c : Ck) : T → Expr → Bool
  | .of e, x => match x with
    | .Compare .. => (match e with | .cmp .. => chk c false e x | .chain .. => chk c false e x | _ => false)
    | _ => plT x && chk c true e x
  | .not t, x => match x with | .UnaryOp .Not y _ => chkT c t y | _ => false
  | .and t u, x => match x with
    | .BoolOp .And (y :: z :: r) p => chkT c t y && (match r with | [] => chkT c u z | _ => chkT c u (.BoolOp .And (z :: r) p))
    | _ => false
  | .or t u, x => match x with
    | .BoolOp .Or (y :: z :: r) p => chkT c t y && (match r with | [] => chkT c u z | _ => chkT c u (.BoolOp .Or (z :: r) p))
    | _ => false
def chkOe (c : Ck) : Oe → Option Expr → Bool
  | .no, x => match x with | none => true | _ => false
  | .one e, x => match x with | some y => chk c true e y | _ => false
def chkOt (c : Ck) : Ot → List Expr → Bool
  | .no, x => match x with | [] => true | _ => false
  | .one t, x => match x with | [y] => chkT c t y | _ => false
def chkEs (c : Ck) : Es → List Expr → Bool
  | .nil, x => match x with | [] => true | _ => false
  | .cons e es, x => match x with | y :: ys => chk c false e y && pln y && chkEs c es ys | _ => false
def chkAs (c : Ck) : Es → List Expr → Bool
  | .nil, x => match x with | [] => true | _ => false
  | .cons e es, x => match x with
    | y :: ys => (match e with
      | .rf i => (match y with | .Name z _ => nm c i z | _ => false)
      | _ => chk c false e y) && pln y && chkAs c es ys
    | _ => false
def chkI (c : Ck) (o : Bool) : It → Expr → Expr → Bool
  | .seq e, _, x => chk c o e x
  | .range1 a, _, x => match x with | .Call (.Name f _) [y] [] _ => blt c f "range" && chk c true a y && pln y | _ => false
  | .range2 a b, _, x => match x with | .Call (.Name f _) [y, z] [] _ => blt c f "range" && chk c true a y && chk c true b z && pln y && pln z | _ => false
  | .range3 a b d, _, x => match x with | .Call (.Name f _) [y, z, u] [] _ => blt c f "range" && chk c true a y && chk c true b z && chk c true d u && pln y && pln z && pln u | _ => false
  | .enum a, t, x => match t, x with | .Tuple .., .Call (.Name f _) [y] [] _ => blt c f "enumerate" && chk c o a y && pln y | _, _ => false
  | .zip a b, t, x => match t, x with | .Tuple .., .Call (.Name f _) [y, z] [] _ => blt c f "zip" && chk c o a y && chk c o b z && pln y && pln z | _, _ => false
end
/-! ### statements -/
/-- a new list -/
def isN : E → Bool
  | .lst _ => true
  | .bi .list _ => true
  | .lc _ _ _ => true
  | _ => false
/-- name = v: the store is swapped with the comprehension's end -/
def swp (c : Ck) (x : Str) (px : Pos) (s : Scope) (p : Pos) : Bool := isLocal (lkS c.sc x) && px.line == p.line && !(s.names.any fun q => eqS q.1 x && (isLocal (some q.2) || isCell (some q.2)))
def augOk : Bop → Bool
  | .add => true
  | .sub => true
  | _ => false
def suiteOk (c : Ck) (n : Str) : Hb → List Stmt → Bool
  | .unit, st => match st with
    | [.Return (some (.IfExp (.Call (.Name f _) [.Name m _, .Name v _] [] _) (.Tuple [] _ _) (.Constant .none _ _) _)) _] => blt c f "isinstance" && eqS m n && blt c v "ValueError"
    | _ => false
  | .go, st => match st with
    | [.If (.UnaryOp .Not (.Call (.Name f _) [.Name m _, .Name v _] [] _) _) _ [] _] => blt c f "isinstance" && eqS m n && blt c v "ValueError"
    | _ => false
def chkHs (c : Ck) : Hs → List ExceptHandler → Bool
  | .nil, hd => match hd with | [] => true | _ => false
  | .cons k i b h, hd => match hd with
    | .ExceptHandler (some (.Name x _)) (some n) st _ :: r => (match lkS c.ex x with | some k' => Nat.beq k k' | none => false) && gl c x && nmN c i n && isLocal (lkS c.sc n) && plainN n && suiteOk c n b st && chkHs c h r
    | _ => false
def isTup : Expr → Bool
  | .Tuple .. => true
  | _ => false
mutual
def chkS (c : Ck) : S → Stmt → Bool
  | .set i e, st => match st with | .Assign [.Name x _] v _ => nmS c i x && pln v && chk c false e v | _ => false
  | .setOwn i e, st => match st with | .Assign [.Name x _] v _ => nmS c i x && pln v && isN e && chk c false e v | _ => false
  | .newCell i e, st => match st with | .Assign [.Name x _] v _ => nmS c i x && pln v && isN e && chk c false e v | _ => false
  | .unp tg e, st => match st with
    | .Assign [.Tuple ts k q] v _ => chkTg c tg (.Tuple ts k q) && pln v && chk c false e v && (match v with | .Tuple vs _ _ => vs.all (foldedForSure 8) | _ => true)
    | _ => false
  | .par i j es, st => match st with
    | .Assign [.Tuple [.Name x px, .Name y py] _ _] (.Tuple [a, b] _ _) _ => nmN c i x && nmN c j y && isLocal (lkS c.sc x) && isLocal (lkS c.sc y) && !eqS x y && py.line == px.line && chkEs c es [a, b] && !([a, b].all (foldedForSure 8)) && !([a, b].all (constantsAlone 8))
    | _ => false
  | .aug i op e, st => match st with | .AugAssign (.Name x _) o v _ => nmS c i x && augOk op && bopOk op o && chk c true e v | _ => false
  | .frz _, _ => false
  | .push i e, st => match st with | .Expr (.Call (.Attribute (.Name x _) a ap) [v] [] cp) _ => eqS a "append" && nm c i x && chk c false e v && pln v && ap.endLine == cp.line | _ => false
  | .setIx i k e, st => match st with | .Assign [.Subscript (.Name x _) y _] v _ => nm c i x && chk c true k y && pln y && chk c false e v && pln v | _ => false
  | .cellSet i k e, st => match st with | .Assign [.Subscript (.Name x _) y _] v _ => nm c i x && chk c true k y && pln y && chk c false e v && pln v | _ => false
  | .cellAug i k op e, st => match st with | .AugAssign (.Subscript (.Name x _) y _) o v _ => nm c i x && bopOk op o && chk c true k y && pln y && chk c true e v | _ => false
  | .pop tg i, st => match st with | .Assign [t] (.Call (.Attribute (.Name x _) a ap) [] [] cp) _ => eqS a "pop" && nm c i x && chkTg c tg t && ap.endLine == cp.line | _ => false
  | .popAt tg i k, st => match st with | .Assign [t] (.Call (.Attribute (.Name x _) a ap) [y] [] cp) _ => eqS a "pop" && nm c i x && chkTg c tg t && chk c true k y && pln y && ap.endLine == cp.line | _ => false
  | .ex e, st => match st with | .Expr v _ => (match v with | .Call .. => true | _ => false) && chk c true e v | _ => false
  | .ite t a b, st => match st with | .If u x y _ => chkT c t u && chkSs c a x && chkSs c b y | _ => false
  | .forr tg it b, st => match st with | .For t i x [] _ => pln i && chkI c false it t i && chkTg c tg t && chkSs c b x | _ => false
  | .whil t b, st => match st with | .While u x [] _ => chkT c t u && chkSs c b x | _ => false
  | .ret e, st => match st with | .Return (some v) _ => chk c false e v | _ => false
  | .raise k, st => match st with | .Raise (some (.Call (.Name x _) [.Constant (.str _) _ _] [] _)) none _ => (match lkS c.ex x with | some k' => Nat.beq k k' | none => false) && gl c x | _ => false
  | .cont, st => match st with | .Continue _ => true | _ => false
  | .brk, st => match st with | .Break _ => true | _ => false
  | .pass, st => match st with | .Pass _ => true | .Expr (.Constant (.str _) _ _) _ => true | _ => false
  | .tryy b h, st => match st with | .Try x (h0 :: hr) [] [] _ => chkSs c b x && chkHs c h (h0 :: hr) | _ => false
def chkSs (c : Ck) : Ss → List Stmt → Bool
  | .nil, st => match st with | [] => true | _ => false
  | .cons (.frz _) r, st => chkSs c r st
  | .cons s r, st => match st with | x :: xs => chkS c s x && chkSs c r xs | _ => false
end
end L2.DL

set_option maxHeartbeats 1000000
/-! The data layer, eighteenth part: the check of expressions is right. -/
namespace L2.DL
open PySem PySem.Spec PyProof.Rows L2

/-- a def that may be called by its name -/
def CallOk (X : Cx) (Φ : Call) (ec : Nat → Value) (f : Str) (n : Nat) : Prop := ∃ k a fd ps, FnOk X.prog X.w X.K X.mg X.base (L2.CX X.prog X.w) k a fd ps (spD ec ps.length (Φ f)) ∧ Room k X.A ∧ X.mg f = some (.ref a) ∧ PySem.W.keepIn X.K (.ref a) = true ∧ Binds X.K fd ps [] ∧ ps.length = n ∧
  ∀ as S, Φ f as S ≠ .stuck → as.length = n
structure OkX (c : Ck) (Φ : Call) (ec : Nat → Value) (X : Cx) (W : WN) : Prop where
  N : X.N = c.N
  nd : X.N.Nodup
  kind : X.env.scope.kind = .function
  sc : X.env.scope.names = c.sc
  fn : ∀ x, (c.all = true ∨ lkS c.own x = some .cell) → X.fn x = true
  calm : X.calm = true
  un : X.A.units + 65 < cLine
  mg : ∀ x ∈ bnames, X.mg x = none
  fs : ∀ f n, lkS c.fs f = some n → CallOk X Φ ec f n
  tk : Takes X (wx ec W)

/-! ### names -/
theorem nat_beq {i j : Nat} (h : Nat.beq i j = true) : i = j := Nat.eq_of_beq_eq_true h
theorem plainN_of {x : Str} (h : plainN x = true) : (x == ("__debug__" : Str)) = false ∧ (x == ("__classdict__" : Str)) = false ∧ x ≠ "__name__" := by
  unfold plainN at h
  simp only [Bool.and_eq_true, Bool.not_eq_true'] at h
  refine ⟨by rw [eqS_beq]; exact h.1.1, by rw [eqS_beq]; exact h.1.2, fun z => ?_⟩
  rw [eqS_iff.mpr z] at h
  exact absurd h.2 (by decide)
theorem isVis_of {k : Option NameKind} (h : isVis k = true) : k = some .local ∨ k = some .cell ∨ k = some .free := by
  unfold isVis at h
  split at h
  · exact .inl rfl
  · exact .inr (.inl rfl)
  · exact .inr (.inr rfl)
  · cases h
theorem isLocal_of {k : Option NameKind} (h : isLocal k = true) : k = some .local := by
  unfold isLocal at h
  split at h
  · rfl
  · cases h
theorem isCell_of {k : Option NameKind} (h : isCell k = true) : k = some .cell := by
  unfold isCell at h
  split at h
  · rfl
  · cases h
section
variable {Φ : Call} {ec : Nat → Value} {c : Ck} {X : Cx} {W : WN}
theorem nmN_of (ok : OkX c Φ ec X W) {i : Nat} {x : Str} (h : nmN c i x = true) : X.N[i]? = some x := by
  unfold nmN at h
  rw [ok.N]
  split at h
  · rename_i y hy
    rw [hy, eqS_iff.mp h]
  · cases h
theorem nm_of (ok : OkX c Φ ec X W) {i : Nat} {x : Str} (h : nm c i x = true) : X.N[i]? = some x ∧ Vis X.env.scope x ∧ (x == ("__debug__" : Str)) = false ∧ (x == ("__classdict__" : Str)) = false := by
  unfold nm at h
  simp only [Bool.and_eq_true] at h
  obtain ⟨⟨h1, h2⟩, h3⟩ := h
  refine ⟨nmN_of ok h1, ?_, (plainN_of h3).1, (plainN_of h3).2.1⟩
  unfold Vis
  rw [ok.sc, lkS_eq]
  exact isVis_of h2
theorem nmS_of (ok : OkX c Φ ec X W) {i : Nat} {x : Str} (h : nmS c i x = true) : NmOk X i x := by
  unfold nmS at h
  simp only [Bool.and_eq_true, Bool.or_eq_true] at h
  obtain ⟨h1, h2⟩ := h
  refine ⟨nmN_of ok h1, ?_, ?_⟩
  · unfold Loc
    rw [ok.sc, lkS_eq]
    rcases h2 with h2 | ⟨h2, _⟩
    · exact .inl (isLocal_of h2)
    · exact .inr (isCell_of h2)
  · rcases h2 with h2 | ⟨_, h2 | h2⟩
    · right; rw [ok.sc, lkS_eq]; exact isLocal_of h2
    · exact .inl (ok.fn x (.inl h2))
    · exact .inl (ok.fn x (.inr (isCell_of h2)))
theorem gl_of (ok : OkX c Φ ec X W) {x : Str} (h : gl c x = true) : Gl X x ∧ (x == ("__debug__" : Str)) = false ∧ x ≠ "__name__" := by
  unfold gl at h
  simp only [Bool.and_eq_true] at h
  obtain ⟨h1, h2⟩ := h
  refine ⟨?_, (plainN_of h2).1, (plainN_of h2).2.2⟩
  show X.env.scope.names.lookup x = _
  rw [ok.sc, lkS_eq]
  unfold isGlob at h1
  split at h1
  · assumption
  · cases h1
theorem blt_of (ok : OkX c Φ ec X W) {x n : Str} (h : blt c x n = true) : x = n ∧ Gl X x ∧ (x == ("__debug__" : Str)) = false ∧ x ≠ "__name__" := by
  unfold blt at h
  simp only [Bool.and_eq_true] at h
  exact ⟨eqS_iff.mp h.1, gl_of ok h.2⟩
theorem chkTg_go (ok : OkX c Φ ec X W) : ∀ {is : List Nat} {es : List Expr}, chkTg.go c is es = true → NmsOk X is es
  | [], [], _ => .nil
  | i :: is, .Name x p :: es, h => by
    unfold chkTg.go at h
    simp only [Bool.and_eq_true] at h
    exact .cons (nmS_of ok h.1) (chkTg_go ok h.2)
  | [], _ :: _, h => by unfold chkTg.go at h; cases h
  | i :: is, [], h => by unfold chkTg.go at h; cases h
  | i :: is, e :: es, h => by
    unfold chkTg.go at h
    split at h
    · rename_i h1 h2
      cases h1
    · rename_i h1 h2
      cases h1; cases h2
      simp only [Bool.and_eq_true] at h
      exact .cons (nmS_of ok h.1) (chkTg_go ok h.2)
    · cases h
theorem chkTg_sound (ok : OkX c Φ ec X W) {tg : List Nat} {t : Expr} (h : chkTg c tg t = true) : PG X t (gD tg) := by
  unfold chkTg at h
  split at h
  · exact pg_D1 ok.nd (nmS_of ok h)
  · simp only [Bool.and_eq_true] at h
    refine pg_DT ok.calm ok.nd (chkTg_go ok h.2) fun z => ?_
    have h1 := h.1
    split at h1
    · cases h1
    · rename_i hn
      obtain ⟨i, hi⟩ := List.length_eq_one_iff.mp z
      exact hn i hi
  · cases h
end
theorem bopOk_of {q : Bop} {op : Operator} (h : bopOk q op = true) : op = bopP q := by
  cases q <;> cases op <;> first | rfl | cases h
theorem copOk_of {q : Cop} {op : CmpOp} (h : copOk q op = true) : op = copP q := by
  cases q <;> cases op <;> first | rfl | cases h
theorem pln_fold {e : Expr} (h : pln e = true) : ∀ env x, foldedSetIterable e env x = pure x := by
  intro env x
  cases e <;> first | rfl | cases h
theorem plT_true {e : Expr} (h : plT e = true) : ∀ env whole, isTrue e env whole = (do let v ← whole; standAt e.pos; holding [v] (truthy v)) := by
  intro env whole
  cases e <;> first | rfl | cases h
theorem tyS_boot (t : Ty) : bootBuiltins (tyS t) = some (.type (tyN t)) := by cases t <;> rfl
theorem tyS_mem (t : Ty) : tyS t ∈ bnames := by cases t <;> simp [tyS, bnames]

/-! ### lengths -/
def Es.len : Es → Nat
  | .nil => 0
  | .cons _ es => es.len + 1
section
variable {Φ : Call} {ec : Nat → Value}
theorem evEs_len : ∀ {es : Es} {ρ : Env} {S S' : Store} {ds : List PyData}, evEs Φ es ρ S = .ok ds S' → ds.length = es.len
  | .nil, _, _, _, _, h => by
    rw [evEs] at h
    cases h
    rfl
  | .cons e es, _, _, _, _, h => by
    rw [evEs] at h
    obtain ⟨d, Sa, _, h2⟩ := bind_ok h
    obtain ⟨ds, Sb, h3, h4⟩ := bind_ok h2
    cases h4
    show ds.length + 1 = es.len + 1
    rw [evEs_len h3]
theorem chkEs_len {c : Ck} : ∀ {es : Es} {xs : List Expr}, chkEs c es xs = true → xs.length = es.len
  | .nil, [], h => rfl
  | .nil, _ :: _, h => by simp only [chkEs] at h; cases h
  | .cons e es, [], h => by simp only [chkEs] at h; cases h
  | .cons e es, y :: ys, h => by
    simp only [chkEs, Bool.and_eq_true] at h
    show _ + 1 = es.len + 1
    rw [chkEs_len h.2]

/-! ### blocks -/
theorem memN_of {i : Nat} : ∀ {l : List Nat}, memN i l = true → i ∈ l
  | [], h => by cases h
  | j :: r, h => by
    unfold memN at h
    simp only [Bool.or_eq_true] at h
    rcases h with h | h
    · rw [nat_beq h]; exact List.mem_cons_self
    · exact List.mem_cons_of_mem _ (memN_of h)
theorem inL_iff {x : Str} : ∀ {l : List Str}, inL x l = true ↔ x ∈ l
  | [] => by simp [inL]
  | y :: r => by
    unfold inL
    rw [Bool.or_eq_true, eqS_iff, inL_iff, List.mem_cons]
theorem namesOf_snd (c : Ck) (vs : List Nat) : (namesOf c vs).map (·.2) = vs := by
  unfold namesOf
  rw [List.map_map]
  exact List.map_id'' (fun _ => rfl) vs
theorem blk_of {c : Ck} {X : Cx} {W : WN} (ok : OkX c Φ ec X W) {vs : List Nat} {s : Scope} (h : blkOk c vs s = true) : BlkOk X.N X.env.scope s (namesOf c vs) := by
  unfold blkOk at h
  simp only [Bool.and_eq_true, List.all_eq_true] at h
  obtain ⟨⟨⟨h1, h2⟩, h3⟩, h4⟩ := h
  refine ⟨?_, fun y hy => ?_, fun p hp => ?_, fun y hy e => ?_, fun y hy e => ?_⟩
  · split at h1
    · assumption
    · cases h1
  · have := h2 y hy
    rw [lkS_eq]
    split at this <;> first | (rename_i q1 q2; rw [q1, q2]; done) | cases this
  · unfold namesOf at hp
    obtain ⟨v, hv, rfl⟩ := List.mem_map.mp hp
    have hlt := of_decide_eq_true (h3 v hv)
    show X.N[v]? = some ((c.N[v]?).getD "")
    rw [ok.N, List.getElem?_eq_getElem hlt]
    rfl
  · have := h4 y hy
    rw [e] at this
    simp only [Bool.and_eq_true, Bool.not_eq_true'] at this
    rw [ok.sc, lkS_eq]
    rcases isVis_of this.1 with q | q | q
    · rw [q] at this; exact absurd this.2 (by decide)
    · exact .inl q
    · exact .inr q
  · have := h4 y hy
    have key : (inL y.1 (vs.map fun v => (c.N[v]?).getD "") || !inL y.1 c.N) = true := by
      rcases e with e | e <;> rw [e] at this <;> exact this
    rw [Bool.or_eq_true, inL_iff, Bool.not_eq_true'] at key
    rcases key with q | q
    · left
      unfold namesOf
      rw [List.map_map]
      exact q
    · right
      rw [ok.N]
      intro z
      rw [inL_iff.mpr z] at q
      cases q
theorem relN_eq {sc : Scope} {c : Ck} (hk : sc.kind = .function) (hn : sc.names = c.sc) (s : Scope) : (relS s sc).names = relN s.names c.sc := by
  unfold relS relN
  refine List.map_congr_left fun p _ => ?_
  obtain ⟨n, k⟩ := p
  show (if (k == NameKind.free && sc.kind == .function && sc.names.lookup n == some .cell) = true then (n, NameKind.cell) else (n, k)) = _
  rw [hk, hn, lkS_eq]
  cases k with
  | free =>
    cases e : lkS c.sc n with
    | none => rfl
    | some k' => cases k' <;> rfl
  | _ => rfl
theorem OkX.inner {c : Ck} {X : Cx} {W : WN} (ok : OkX c Φ ec X W) {vs : List Nat} {s : Scope} (h : blkOk c vs s = true) (s0 : Shared) (H : Hp) (C : Addr) (cl : List (Str × Addr)) (fp : List Addr) : OkX (DL.inner c s) Φ ec (X.blk s0 H s (compEnvC s cl C X.env) fp) WF := by
  have hb := blk_of ok h
  refine ⟨ok.N, ok.nd, hb.kind, relN_eq ok.kind ok.sc s, fun x hx => ?_, ok.calm, ok.un, ok.mg, ok.fs, fun u s' ⟨_, _, _, _, _, _, _, _, _, _, _, _, _, _, _, _, c, _, _, w⟩ => w.elim⟩
  show (s.names.lookup x == some NameKind.cell) = true
  rw [lkS_eq]
  rcases hx with hx | hx
  · cases hx
  · have hx : lkS s.names x = some .cell := hx
    rw [hx]; rfl
end
theorem SE.ro {X : Cx} {W : WN} {x : Expr} {f : Env → Mn PyData} (o : Bool) (h : SE X W x f) : PE X x (tD W (RO o) f) := by
  cases o with
  | true => exact h.o
  | false => exact h
end L2.DL

set_option maxHeartbeats 4000000
/-! The data layer, nineteenth part: the check of expressions is right, all of it. -/
namespace L2.DL
open PySem PySem.Spec PyProof.Rows L2
section
variable {Φ : Call} {ec : Nat → Value}
theorem cst_sound {X : Cx} {W : WN} {d : PyData} {k : Const} {j : Nat} {p : Pos} (h : cstOk d k = true) : SE X W (.Constant k j p) fun _ => Mn.pure d := by
  unfold cstOk at h
  split at h
  · rw [of_decide_eq_true h]; exact se_int
  · exact se_bl
  · exact se_bl
  · exact se_non
  · rw [eqS_iff.mp h]; exact se_str
  · cases h
theorem bi_sound {X : Cx} {W : WN} {b : Bi} {f : Str} {y : Expr} {p q : Pos} {fa : Env → Mn PyData} (hc : X.calm = true) (hu : X.A.units + 65 < cLine) (hb : biOk b = true) (e : f = biS b) (hg : Gl X f) (hm : ∀ x ∈ bnames, X.mg x = none) (ha : SO X W y fa) (hp : pln y = true) (hdb : (f == ("__debug__" : Str)) = false) (hn : f ≠ "__name__") :
    SE X W (.Call (.Name f p) [y] [] q) fun ρ => Mn.bind (fa ρ) fun x => ofOpt (biD b x) := by
  cases b with
  | len => exact se_callB1 call_lenD hg (hm f (by subst e; simp [biS, bnames])) (by subst e; rfl) ha hp hn hdb
  | tuple => exact se_callT1 (call_tupleD1 hc) hg (hm f (by subst e; simp [biS, bnames])) (by subst e; rfl) ha hp hn hdb
  | list => exact se_callT1 call_listD1 hg (hm f (by subst e; simp [biS, bnames])) (by subst e; rfl) ha hp hn hdb
  | int => exact se_callT1 call_intD1 hg (hm f (by subst e; simp [biS, bnames])) (by subst e; rfl) ha hp hn hdb
  | str => exact se_callT1 call_strD hg (hm f (by subst e; simp [biS, bnames])) (by subst e; rfl) ha hp hn hdb
  | sum => exact se_callB1 (call_sumD hc) hg (hm f (by subst e; simp [biS, bnames])) (by subst e; rfl) ha hp hn hdb
  | abs => exact se_callB1 call_absD hg (hm f (by subst e; simp [biS, bnames])) (by subst e; rfl) ha hp hn hdb
  | sorted => exact se_callB1 (call_sortD (by omega)) hg (hm f (by subst e; simp [biS, bnames])) (by subst e; rfl) ha hp hn hdb
  | maxl => exact se_callB1 (call_maxD hc (by omega)) hg (hm f (by subst e; simp [biS, bnames])) (by subst e; rfl) ha hp hn hdb
  | _ => cases hb
theorem bi2_sound {X : Cx} {W : WN} {b : Bi} {f : Str} {y z : Expr} {p q : Pos} {fa fb : Env → Mn PyData} (hc : X.calm = true) (hb : bi2Ok b = true) (e : f = bi2S b) (hg : Gl X f) (hm : ∀ x ∈ bnames, X.mg x = none) (ha : SO X W y fa) (hb' : SO X W z fb) (hp : pln y = true) (hp2 : pln z = true) (hdb : (f == ("__debug__" : Str)) = false) (hn : f ≠ "__name__") :
    SE X W (.Call (.Name f p) [y, z] [] q) fun ρ => Mn.bind (fa ρ) fun x => Mn.bind (fb ρ) fun y => ofOpt (bi2D b x y) := by
  cases b with
  | max2 => exact se_callB2 (g := bi2D .max2) (call_max2D hc) hg (hm f (by subst e; simp [bi2S, bnames])) (by subst e; rfl) ha hb' hp hp2 hn hdb
  | min2 => exact se_callB2 (g := bi2D .min2) (call_min2D hc) hg (hm f (by subst e; simp [bi2S, bnames])) (by subst e; rfl) ha hb' hp hp2 hn hdb
  | _ => cases hb
theorem se_edict {X : Cx} {W : WN} {p : Pos} : SE X W (.Dict [] [] p) fun _ => Mn.pure (.dict []) := by
  refine PE.imp pe_dnewK fun σ H Q h => ?_
  obtain ⟨La, M0, M, ρ, S, R, h⟩ := tD_iff.mp h
  exact fun p hp => h La M _ (StepE.new R.laM hp) (R.new hp) _ (.dic (notM R.dom hp) (.inl upd_same) .nil)
theorem nil_or {α : Type} (r : List α) : r = [] ∨ ∃ a s, r = a :: s := by cases r with | nil => exact .inl rfl | cons a s => exact .inr ⟨a, s, rfl⟩
mutual
theorem chk_sound : ∀ (e : E) (o : Bool) (c : Ck) (x : Expr) {X : Cx} {W : WN}, OkX c Φ ec X W → chk c o e x = true → PE X x (tD W (RO o) (evE Φ e))
  | .var i, o, c, x, X, W, ok, h => by
    simp only [chk] at h
    split at h
    · obtain ⟨h1, h2, h3, h4⟩ := nm_of ok h
      exact SE.ro o (se_var h1 h2 h3 h4)
    · cases h
  | .own i, o, c, x, X, W, ok, h => by
    simp only [chk] at h
    split at h
    · simp only [Bool.and_eq_true] at h
      obtain ⟨ho, h⟩ := h
      subst ho
      obtain ⟨h1, h2, h3, h4⟩ := nm_of ok h
      exact so_own h1 h2 h3 h4
    · cases h
  | .rf i, o, c, x, X, W, ok, h => by simp only [chk] at h; cases h
  | .cst d, o, c, x, X, W, ok, h => by
    simp only [chk] at h
    split at h
    · exact SE.ro o (cst_sound h)
    · cases h
  | .edict, o, c, x, X, W, ok, h => by
    simp only [chk] at h
    split at h
    · exact SE.ro o se_edict
    · cases h
  | .tup es, o, c, x, X, W, ok, h => by
    simp only [chk] at h
    split at h
    · simp only [Bool.and_eq_true, decide_eq_true_eq] at h
      exact SE.ro o (se_tup (chkEs_sound es c _ ok h.1) h.2 fun ρ S ds S' q => by rw [evEs_len q, chkEs_len h.1])
    · cases h
  | .lst es, o, c, x, X, W, ok, h => by
    simp only [chk] at h
    split at h
    · simp only [Bool.and_eq_true, decide_eq_true_eq] at h
      exact SE.ro o (sn_e (sn_lst (chkEs_sound es c _ ok h.1) h.2 fun ρ S ds S' q => by rw [evEs_len q, chkEs_len h.1]))
    · cases h
  | .neg a, o, c, x, X, W, ok, h => by
    simp only [chk] at h
    split at h
    · exact SE.ro o (se_neg (chk_sound a true c _ ok h))
    · cases h
  | .not a, o, c, x, X, W, ok, h => by
    simp only [chk] at h
    split at h
    · exact SE.ro o (se_not (chk_sound a true c _ ok h))
    · cases h
  | .bin q a b, o, c, x, X, W, ok, h => by
    simp only [chk] at h
    split at h
    · simp only [Bool.and_eq_true] at h
      obtain ⟨⟨h1, h2⟩, h3⟩ := h
      rw [bopOk_of h1]
      exact SE.ro o (se_bin q (chk_sound a true c _ ok h2) (chk_sound b true c _ ok h3))
    · cases h
  | .cmp q a b, o, c, x, X, W, ok, h => by
    simp only [chk] at h
    split at h
    · simp only [Bool.and_eq_true, Bool.not_eq_true'] at h
      obtain ⟨⟨⟨h1, h2⟩, h3⟩, h4⟩ := h
      have e := copOk_of h1
      subst e
      exact SE.ro o (se_cmp q ok.un (chk_sound a true c _ ok h2) (chk_sound b true c _ ok h3) h4)
    · cases h
  | .chain q p a b d, o, c, x, X, W, ok, h => by
    simp only [chk] at h
    split at h
    · simp only [Bool.and_eq_true, Bool.not_eq_true'] at h
      obtain ⟨⟨⟨⟨⟨h1, h2⟩, h3⟩, h4⟩, h5⟩, h6⟩ := h
      have e := copOk_of h1
      have e2 := copOk_of h2
      subst e; subst e2
      exact SE.ro o (se_chain q p ok.un (chk_sound a true c _ ok h3) (chk_sound b true c _ ok h4) (chk_sound d true c _ ok h5) h6)
    · cases h
  | .and a b, o, c, x, X, W, ok, h => by
    simp only [chk] at h
    split at h
    · rename_i y z r p
      simp only [Bool.and_eq_true] at h
      obtain ⟨h1, h2⟩ := h
      rcases nil_or r with rfl | ⟨u, s, rfl⟩
      · exact SE.ro o (se_and (chk_sound a false c _ ok h1) (se_one (chk_sound b false c _ ok h2)))
      · exact SE.ro o (se_and (chk_sound a false c _ ok h1) (chk_sound b false c _ ok h2))
    · cases h
  | .or a b, o, c, x, X, W, ok, h => by
    simp only [chk] at h
    split at h
    · rename_i y z r p
      simp only [Bool.and_eq_true] at h
      obtain ⟨h1, h2⟩ := h
      rcases nil_or r with rfl | ⟨u, s, rfl⟩
      · exact SE.ro o (se_or (chk_sound a false c _ ok h1) (se_one (chk_sound b false c _ ok h2)))
      · exact SE.ro o (se_or (chk_sound a false c _ ok h1) (chk_sound b false c _ ok h2))
    · cases h
  | .orv a b, o, c, x, X, W, ok, h => by
    simp only [chk] at h
    split at h
    · rename_i y z r p
      simp only [Bool.and_eq_true] at h
      obtain ⟨h1, h2⟩ := h
      rcases nil_or r with rfl | ⟨u, s, rfl⟩
      · exact SE.ro o (se_orv (chk_sound a false c _ ok h1) (se_one (chk_sound b false c _ ok h2)))
      · exact SE.ro o (se_orv (chk_sound a false c _ ok h1) (chk_sound b false c _ ok h2))
    · cases h
  | .ite t a b, o, c, x, X, W, ok, h => by
    simp only [chk] at h
    split at h
    · simp only [Bool.and_eq_true] at h
      obtain ⟨⟨h1, h2⟩, h3⟩ := h
      exact SE.ro o (se_ite (chkT_sound t c _ ok h1).1 (chk_sound a false c _ ok h2) (chk_sound b false c _ ok h3))
    · cases h
  | .idx a b, o, c, x, X, W, ok, h => by
    simp only [chk] at h
    split at h
    · simp only [Bool.and_eq_true] at h
      obtain ⟨⟨h1, h2⟩, h3⟩ := h
      exact SE.ro o (se_idx (chk_sound a true c _ ok h1) (chk_sound b true c _ ok h2) h3)
    · cases h
  | .cell i b, o, c, x, X, W, ok, h => by
    simp only [chk] at h
    split at h
    · simp only [Bool.and_eq_true] at h
      obtain ⟨⟨h1, h2⟩, h3⟩ := h
      obtain ⟨k1, k2, k3, k4⟩ := nm_of ok h1
      exact SE.ro o (se_cell k1 k2 k3 k4 (chk_sound b true c _ ok h2) h3)
    · cases h
  | .sli a lo hi, o, c, x, X, W, ok, h => by
    simp only [chk] at h
    split at h
    · simp only [Bool.and_eq_true] at h
      obtain ⟨⟨h1, h2⟩, h3⟩ := h
      exact SE.ro o (se_sli (chk_sound a true c _ ok h1) (chkOe_sound lo c _ ok h2) (chkOe_sound hi c _ ok h3))
    · cases h
  | .rev a, o, c, x, X, W, ok, h => by
    simp only [chk] at h
    split at h
    · exact SE.ro o (se_rev (chk_sound a true c _ ok h))
    · cases h
  | .isi a ts, o, c, x, X, W, ok, h => by
    simp only [chk] at h
    split at h
    · simp only [Bool.and_eq_true] at h
      obtain ⟨⟨⟨h1, h2⟩, h3⟩, h4⟩ := h
      obtain ⟨e, g1, g2, g3⟩ := blt_of ok h1
      subst e
      have ha := chk_sound a true c _ ok h2
      split at h4
      · obtain ⟨e, k1, k2, k3⟩ := blt_of ok h4
        subst e
        exact SE.ro o (se_isi1 _ g1 (ok.mg _ (by simp [bnames])) rfl k1 (ok.mg _ (tyS_mem _)) (tyS_boot _) ha h3 g3 g2 k3 k2)
      · simp only [Bool.and_eq_true] at h4
        obtain ⟨e, k1, k2, k3⟩ := blt_of ok h4.1
        subst e
        obtain ⟨e, l1, l2, l3⟩ := blt_of ok h4.2
        subst e
        exact SE.ro o (se_isi2 _ _ g1 (ok.mg _ (by simp [bnames])) rfl k1 (ok.mg _ (tyS_mem _)) (tyS_boot _) l1 (ok.mg _ (tyS_mem _)) (tyS_boot _) ha h3 g3 g2 k3 k2 l3 l2)
      · cases h4
    · cases h
  | .call f es, o, c, x, X, W, ok, h => by
    simp only [chk] at h
    split at h
    · simp only [Bool.and_eq_true] at h
      obtain ⟨⟨⟨⟨⟨h1, h2⟩, h3⟩, h4⟩, h5⟩, h6⟩ := h
      have e := eqS_iff.mp h1
      subst e
      obtain ⟨g1, g2, g3⟩ := gl_of ok h2
      split at h3
      · rename_i n hn
        obtain ⟨k, a, fd, ps, F, hr, hm, hk, hb, hl, hs⟩ := ok.fs f n hn
        exact SE.ro o (se_call F hr g1 hm hk hb ok.tk (chkAs_sound es c _ ok h4) g2 h5 h6 fun as S q => by rw [hl]; exact hs as S q)
      · cases h3
    · cases h
  | .bi b a, o, c, x, X, W, ok, h => by
    simp only [chk] at h
    split at h
    · simp only [Bool.and_eq_true] at h
      obtain ⟨⟨⟨h1, h2⟩, h3⟩, h4⟩ := h
      obtain ⟨e, g1, g2, g3⟩ := blt_of ok h2
      exact SE.ro o (bi_sound ok.calm ok.un h1 e g1 ok.mg (chk_sound a true c _ ok h3) h4 g2 g3)
    · cases h
  | .bi2 b a d, o, c, x, X, W, ok, h => by
    simp only [chk] at h
    split at h
    · simp only [Bool.and_eq_true] at h
      obtain ⟨⟨⟨⟨⟨h1, h2⟩, h3⟩, h4⟩, h5⟩, h6⟩ := h
      obtain ⟨e, g1, g2, g3⟩ := blt_of ok h2
      exact SE.ro o (bi2_sound ok.calm h1 e g1 ok.mg (chk_sound a true c _ ok h3) (chk_sound d true c _ ok h4) h5 h6 g2 g3)
    · cases h
  | .biIt b it, o, c, x, X, W, ok, h => by simp only [chk] at h; cases h
  | .mth m a es, o, c, x, X, W, ok, h => by
    simp only [chk] at h
    split at h
    · simp only [Bool.and_eq_true] at h
      obtain ⟨⟨⟨⟨⟨h1, h2⟩, h3⟩, h4⟩, h5⟩, h6⟩ := h
      have ha := chk_sound a true c _ ok h2
      have he := chkEs_sound es c _ ok h4
      cases m with
      | join =>
        have e' := eqS_iff.mp h1
        subst e'
        exact SE.ro o (se_join ha he h3 h5 h6)
      | index =>
        have e' := eqS_iff.mp h1
        subst e'
        exact SE.ro o (se_index ok.un ha he h3 h5 h6)
      | _ => cases h1
    · cases h
  | .cellPop i k, o, c, x, X, W, ok, h => by simp only [chk] at h; cases h
  | .lc vs elt (.one tg it cd), o, c, x, X, W, ok, h => by
    simp only [chk, chkG] at h
    split at h
    · rename_i y gs s p
      simp only [Bool.and_eq_true] at h
      obtain ⟨⟨hb, he⟩, h⟩ := h
      split at h
      · rename_i t i ifs a
        simp only [Bool.and_eq_true, decide_eq_true_eq, List.all_eq_true] at h
        obtain ⟨⟨⟨⟨⟨rfl, hi1⟩, hi2⟩, ht⟩, hm⟩, hc⟩ := h
        refine SE.ro o (sn_e (fa := evE Φ (.lc vs elt (.one tg it cd))) (PE.imp (pe_lc ok.calm ok.nd (chkI_sound it true c _ _ ok hi2) (blk_of ok hb) (fun s0 H C cl fp => chkTg_sound (ok.inner hb s0 H C cl fp) ht) (fun s0 H C cl fp => chkOt_sound cd _ _ (ok.inner hb s0 H C cl fp) hc)
          (fun s0 H C cl fp => chk_sound elt false _ _ (ok.inner hb s0 H C cl fp) he) (pln_fold hi1 _)) fun σ H Q q => ?_))
        rw [namesOf_snd]
        exact tLc_D (fun j hj => memN_of (hm j hj)) q
      · cases h
    · cases h
  | .lc vs elt (.more tg it cd (.one tg1 it1 cd1)), o, c, x, X, W, ok, h => by
    simp only [chk, chkG] at h
    split at h
    · rename_i y gs s p
      simp only [Bool.and_eq_true] at h
      obtain ⟨⟨hb, he⟩, h⟩ := h
      split at h
      · rename_i t i ifs a gs'
        simp only [Bool.and_eq_true, decide_eq_true_eq, List.all_eq_true] at h
        obtain ⟨⟨⟨⟨⟨⟨⟨_, rfl⟩, hi1⟩, hi2⟩, ht⟩, hm⟩, hc⟩, h⟩ := h
        split at h
        · rename_i t1 i1 ifs1 a1
          simp only [Bool.and_eq_true, decide_eq_true_eq, List.all_eq_true] at h
          obtain ⟨⟨⟨⟨⟨rfl, hi11⟩, hi12⟩, ht1⟩, hm1⟩, hc1⟩ := h
          refine SE.ro o (sn_e (fa := evE Φ (.lc vs elt (.more tg it cd (.one tg1 it1 cd1)))) (PE.imp (pe_lc2 ok.calm ok.nd (chkI_sound it true c _ _ ok hi2) (blk_of ok hb) (vs1 := tg1) (fun j hj => by rw [namesOf_snd]; exact memN_of (hm1 j hj)) (fun s0 H C cl fp => chkTg_sound (ok.inner hb s0 H C cl fp) ht) (fun s0 H C cl fp => chkOt_sound cd _ _ (ok.inner hb s0 H C cl fp) hc)
            (fun s0 H C cl fp => chkI_sound it1 false _ _ _ (ok.inner hb s0 H C cl fp) hi12) (fun s0 H C cl fp => chkTg_sound (ok.inner hb s0 H C cl fp) ht1) (fun s0 H C cl fp => chkOt_sound cd1 _ _ (ok.inner hb s0 H C cl fp) hc1)
            (fun s0 H C cl fp => chk_sound elt false _ _ (ok.inner hb s0 H C cl fp) he) (pln_fold hi1 _) (pln_fold hi11)) fun σ H Q q => ?_))
          rw [namesOf_snd]
          exact tLc2_D (fun j hj => memN_of (hm j hj)) (fun j hj => memN_of (hm1 j hj)) q
        · cases h
      · cases h
    · cases h
  | .lc vs elt (.more tg it cd (.more tg1 it1 cd1 g)), o, c, x, X, W, ok, h => by
    simp only [chk, chkG] at h
    split at h
    · simp only [Bool.and_eq_true] at h
      obtain ⟨_, h⟩ := h
      split at h
      · simp only [Bool.and_eq_true] at h
        obtain ⟨_, h⟩ := h
        split at h
        · simp at h
        · cases h
      · cases h
    · cases h
theorem chkT_sound : ∀ (t : T) (c : Ck) (x : Expr) {X : Cx} {W : WN}, OkX c Φ ec X W → chkT c t x = true → ST X W x (evT Φ t) ∧ ∀ op ys p, x = .BoolOp op ys p → PW X x (tDT W (evT Φ t))
  | .of e, c, x, X, W, ok, h => by
    simp only [chkT] at h
    split at h
    · split at h
      · rename_i q a b
        simp only [chk] at h
        split at h
        · rename_i heq
          cases heq
          simp only [Bool.and_eq_true, Bool.not_eq_true'] at h
          obtain ⟨⟨⟨h1, h2⟩, h3⟩, h4⟩ := h
          have e := copOk_of h1
          subst e
          exact ⟨st_cmp q ok.un (chk_sound a true c _ ok h2) (chk_sound b true c _ ok h3) h4, fun _ _ _ z => by cases z⟩
        · cases h
      · rename_i q p a b d
        simp only [chk] at h
        split at h
        · rename_i heq
          cases heq
          simp only [Bool.and_eq_true, Bool.not_eq_true'] at h
          obtain ⟨⟨⟨⟨⟨h1, h2⟩, h3⟩, h4⟩, h5⟩, h6⟩ := h
          have e := copOk_of h1
          have e2 := copOk_of h2
          subst e; subst e2
          exact ⟨st_chain q p ok.un (chk_sound a true c _ ok h3) (chk_sound b true c _ ok h4) (chk_sound d true c _ ok h5) h6, fun _ _ _ z => by cases z⟩
        · cases h
      · cases h
    · simp only [Bool.and_eq_true] at h
      refine ⟨st_truth (chk_sound e true c _ ok h.2) (plT_true h.1 _), fun _ _ _ z => ?_⟩
      rw [z] at h
      cases h.1
  | .not t, c, x, X, W, ok, h => by
    simp only [chkT] at h
    split at h
    · exact ⟨st_not (chkT_sound t c _ ok h).1, fun _ _ _ z => by cases z⟩
    · cases h
  | .and t u, c, x, X, W, ok, h => by
    simp only [chkT] at h
    split at h
    · rename_i y z r p
      simp only [Bool.and_eq_true] at h
      obtain ⟨h1, h2⟩ := h
      have key : PW X (.BoolOp .And (y :: z :: r) p) (tDT W (evT Φ (.and t u))) := by
        rcases nil_or r with rfl | ⟨u', s, rfl⟩
        · exact st_and (chkT_sound t c _ ok h1).1 (st_and1 (chkT_sound u c _ ok h2).1)
        · exact st_and (chkT_sound t c _ ok h1).1 ((chkT_sound u c _ ok h2).2 _ _ _ rfl)
      exact ⟨key.pt, fun _ _ _ _ => key⟩
    · cases h
  | .or t u, c, x, X, W, ok, h => by
    simp only [chkT] at h
    split at h
    · rename_i y z r p
      simp only [Bool.and_eq_true] at h
      obtain ⟨h1, h2⟩ := h
      have key : PW X (.BoolOp .Or (y :: z :: r) p) (tDT W (evT Φ (.or t u))) := by
        rcases nil_or r with rfl | ⟨u', s, rfl⟩
        · exact st_or (chkT_sound t c _ ok h1).1 (st_or1 (chkT_sound u c _ ok h2).1)
        · exact st_or (chkT_sound t c _ ok h1).1 ((chkT_sound u c _ ok h2).2 _ _ _ rfl)
      exact ⟨key.pt, fun _ _ _ _ => key⟩
    · cases h
theorem chkOe_sound : ∀ (e : Oe) (c : Ck) (x : Option Expr) {X : Cx} {W : WN}, OkX c Φ ec X W → chkOe c e x = true → SP' X W x (evO Φ e)
  | .no, c, x, X, W, ok, h => by
    simp only [chkOe] at h
    split at h
    · exact so_no
    · cases h
  | .one e, c, x, X, W, ok, h => by
    simp only [chkOe] at h
    split at h
    · exact so_some (chk_sound e true c _ ok h)
    · cases h
theorem chkOt_sound : ∀ (t : Ot) (c : Ck) (x : List Expr) {X : Cx} {W : WN}, OkX c Φ ec X W → chkOt c t x = true → PTs X x (tDT W (evC Φ t))
  | .no, c, x, X, W, ok, h => by
    simp only [chkOt] at h
    split at h
    · refine ⟨fun pins s σ H Q I q => pts_nil.run pins s σ H Q I ?_⟩
      obtain ⟨La, M0, M, ρ, S, R, q⟩ := tDT_iff.mp q
      exact After.here (a := true) q R
    · cases h
  | .one t, c, x, X, W, ok, h => by
    simp only [chkOt] at h
    split at h
    · exact pts_one (chkT_sound t c _ ok h).1
    · cases h
theorem chkEs_sound : ∀ (es : Es) (c : Ck) (x : List Expr) {X : Cx} {W : WN}, OkX c Φ ec X W → chkEs c es x = true → SA X W x (evEs Φ es)
  | .nil, c, x, X, W, ok, h => by
    simp only [chkEs] at h
    split at h
    · exact sa_nil
    · cases h
  | .cons e es, c, x, X, W, ok, h => by
    simp only [chkEs] at h
    split at h
    · simp only [Bool.and_eq_true] at h
      obtain ⟨⟨h1, h2⟩, h3⟩ := h
      exact sa_cons (chk_sound e false c _ ok h1) (chkEs_sound es c _ ok h3) h2
    · cases h
theorem chkAs_sound : ∀ (es : Es) (c : Ck) (x : List Expr) {X : Cx} {W : WN}, OkX c Φ ec X W → chkAs c es x = true → SS X W x (evAs Φ es)
  | .nil, c, x, X, W, ok, h => by
    simp only [chkAs] at h
    split at h
    · exact ss_nil
    · cases h
  | .cons e es, c, x, X, W, ok, h => by
    simp only [chkAs] at h
    split at h
    · simp only [Bool.and_eq_true] at h
      obtain ⟨⟨h1, h2⟩, h3⟩ := h
      split at h1
      · split at h1
        · obtain ⟨k1, k2, k3, k4⟩ := nm_of ok h1
          exact ss_ref k1 k2 k3 k4 (chkAs_sound es c _ ok h3)
        · cases h1
      · rename_i hne
        have ev : evAs Φ (.cons e es) = fun ρ => Mn.bind (evE Φ e ρ) fun d => Mn.bind (evAs Φ es ρ) fun ds => Mn.pure (.val d :: ds) := by
          funext ρ
          cases e <;> first | rfl | exact absurd rfl (hne _)
        rw [ev]
        exact ss_cons (chk_sound e false c _ ok h1) (chkAs_sound es c _ ok h3) h2
    · cases h
theorem chkI_sound : ∀ (it : It) (o : Bool) (c : Ck) (t x : Expr) {X : Cx} {W : WN}, OkX c Φ ec X W → chkI c o it t x = true → SI X W t x o (evIt Φ it)
  | .seq e, o, c, t, x, X, W, ok, h => by
    simp only [chkI] at h
    exact si_seq (chk_sound e o c _ ok h)
  | .range1 a, o, c, t, x, X, W, ok, h => by
    simp only [chkI] at h
    split at h
    · simp only [Bool.and_eq_true] at h
      obtain ⟨⟨h1, h2⟩, h3⟩ := h
      obtain ⟨e, g1, g2, g3⟩ := blt_of ok h1
      subst e
      exact si_range1 g1 (ok.mg _ (by simp [bnames])) (chk_sound a true c _ ok h2) h3
    · cases h
  | .range2 a b, o, c, t, x, X, W, ok, h => by
    simp only [chkI] at h
    split at h
    · simp only [Bool.and_eq_true] at h
      obtain ⟨⟨⟨⟨h1, h2⟩, h3⟩, h4⟩, h5⟩ := h
      obtain ⟨e, g1, g2, g3⟩ := blt_of ok h1
      subst e
      exact si_range2 g1 (ok.mg _ (by simp [bnames])) (chk_sound a true c _ ok h2) (chk_sound b true c _ ok h3) h4 h5
    · cases h
  | .range3 a b d, o, c, t, x, X, W, ok, h => by
    simp only [chkI] at h
    split at h
    · simp only [Bool.and_eq_true] at h
      obtain ⟨⟨⟨⟨⟨⟨h1, h2⟩, h3⟩, h3'⟩, h4⟩, h5⟩, h6⟩ := h
      obtain ⟨e, g1, g2, g3⟩ := blt_of ok h1
      subst e
      exact si_range3 g1 (ok.mg _ (by simp [bnames])) (chk_sound a true c _ ok h2) (chk_sound b true c _ ok h3) (chk_sound d true c _ ok h3') h4 h5 h6
    · cases h
  | .enum a, o, c, t, x, X, W, ok, h => by
    simp only [chkI] at h
    split at h
    · simp only [Bool.and_eq_true] at h
      obtain ⟨⟨h1, h2⟩, h3⟩ := h
      obtain ⟨e, g1, g2, g3⟩ := blt_of ok h1
      subst e
      exact si_enum g1 (ok.mg _ (by simp [bnames])) (chk_sound a o c _ ok h2) h3
    · cases h
  | .zip a b, o, c, t, x, X, W, ok, h => by
    simp only [chkI] at h
    split at h
    · simp only [Bool.and_eq_true] at h
      obtain ⟨⟨⟨⟨h1, h2⟩, h3⟩, h4⟩, h5⟩ := h
      obtain ⟨e, g1, g2, g3⟩ := blt_of ok h1
      subst e
      exact si_zip g1 (ok.mg _ (by simp [bnames])) (chk_sound a o c _ ok h2) (chk_sound b o c _ ok h3) h4 h5
    · cases h
end
end
end L2.DL

set_option maxHeartbeats 4000000
/-! The data layer, twentieth part: the check of statements is right. -/
namespace L2.DL
open PySem PySem.Spec PyProof.Rows L2

theorem blockKind_of {env : PySem.Env} (hk : env.scope.kind = .function) : env.blockKind = .function := by unfold PySem.Env.blockKind; rw [hk]; rfl
theorem swst_two {env : PySem.Env} {x y : Str} {px py pt pt2 : Pos} {kt k2 : Nat} {a b : Expr} (hk : env.scope.kind = .function) (hx : env.scope.names.lookup x = some .local) (hy : env.scope.names.lookup y = some .local) (hl : (py.line == px.line) = true) (hne : x ≠ y)
    (hf : [a, b].all (foldedForSure 8) = false) (hc : [a, b].all (constantsAlone 8) = false) (ha : pln a = true) (hb : pln b = true) : swappedStores [.Tuple [.Name x px, .Name y py] kt pt] (.Tuple [a, b] k2 pt2) env = pure (some [x, y]) := by
  have kx : env.kindOf x = some .local := hx
  have ky : env.kindOf y = some .local := hy
  have bk := blockKind_of hk
  have hst : ([a, b].any fun | .Starred .. => true | _ => false) = false := by
    cases a <;> first | exact absurd ha Bool.false_ne_true | (cases b <;> first | exact absurd hb Bool.false_ne_true | rfl)
  have e1 : List.filterMap (fun (t : Expr) => match t with
      | .Name id pos => if (env.kindOf id == some .local && pos.line == px.line) = true then some id else none
      | _ => none) [.Name x px, .Name y py] = [x, y] := by
    have hl' : py.line = px.line := beq_iff_eq.mp hl
    simp [kx, ky, hl']
  have e2 : ([x, y] : List Str).eraseDups = [x, y] := by
    simp [List.eraseDups_cons, hne, Ne.symm hne]
  unfold swappedStores
  simp only [bk]
  show (do
    if (!([Expr.Name x px, .Name y py].length == 2 || [Expr.Name x px, .Name y py].length == 3) || [a, b].length != [Expr.Name x px, .Name y py].length || (ScopeKind.function != ScopeKind.function)) = true then return none
    if ([a, b].any fun | .Starred .. => true | _ => false) = true then return none
    let names := [Expr.Name x px, .Name y py].filterMap fun
      | .Name id pos => if (env.kindOf id == some .local && pos.line == px.line) = true then some id else none
      | _ => none
    if (names.length != [Expr.Name x px, .Name y py].length || names.eraseDups.length != names.length) = true then return none
    if ([a, b].all (foldedForSure 8)) = true then return none
    if ([a, b].all (constantsAlone 8)) = true then unsupported "assign.tuple-of-constant-expressions:order-of-the-stores"
    return some names : Sem (Option (List Str))) = _
  rw [hst, e1, hf, hc]
  simp only [e2]
  rfl
theorem swst_none {env : PySem.Env} {ts : List Expr} {k k2 : Nat} {q q2 : Pos} {vs : List Expr} (h : vs.all (foldedForSure 8) = true) : swappedStores [.Tuple ts k q] (.Tuple vs k2 q2) env = pure none := by
  unfold swappedStores
  simp only [h]
  show (do
    if (!(ts.length == 2 || ts.length == 3) || vs.length != ts.length || env.blockKind != .function) = true then return none
    if (vs.any fun | .Starred .. => true | _ => false) = true then return none
    let line := (ts.head?.map (·.pos.line)).getD 0
    let names := ts.filterMap fun
      | .Name id pos => if (env.kindOf id == some .local && pos.line == line) = true then some id else none
      | _ => none
    if (names.length != ts.length || names.eraseDups.length != names.length) = true then return none
    if true = true then return none
    if (vs.all (constantsAlone 8)) = true then unsupported "assign.tuple-of-constant-expressions:order-of-the-stores"
    return some names : Sem (Option (List Str))) = _
  split
  · rfl
  · split
    · rfl
    · dsimp only
      split
      · rfl
      · rfl
theorem pln_swapNil {e : Expr} {t : Expr} {l : Nat} {env : PySem.Env} (h : pln e = true) (ht : ∀ x p, t ≠ .Name x p) : swapsWith e (some t) l env = pure false := by
  cases e <;> first | rfl | exact absurd h Bool.false_ne_true | (cases t <;> first | rfl | exact absurd rfl (ht _ _))
theorem pln_swapName {e : Expr} {x : Str} {p : Pos} {l : Nat} {env : PySem.Env} (h : pln e = true) (hn : ∀ a b c d, e ≠ .ListComp a b c d) : swapsWith e (some (.Name x p)) l env = pure false := by
  cases e <;> first | rfl | exact absurd h Bool.false_ne_true | exact absurd rfl (hn _ _ _ _)
theorem swst_sub {e o k : Expr} {p : Pos} {env : PySem.Env} : swappedStores [.Subscript o k p] e env = pure none := by
  cases e <;> rfl
theorem swst_tup {e : Expr} {ts : List Expr} {k : Nat} {p : Pos} {env : PySem.Env} (h : isTup e = false) : swappedStores [.Tuple ts k p] e env = pure none := by
  cases e <;> first | rfl | exact absurd h (fun z => nomatch z)
theorem swst_name {e : Expr} {x : Str} {p : Pos} {env : PySem.Env} : swappedStores [.Name x p] e env = pure none := by
  cases e <;> rfl

section
variable {W : WN} {fa : Env → Mn PyData}
theorem tDN_of {σ : St} {H : Hp} {Q : VK} (h : tD W IsF fa σ H Q) : tDN W fa σ H Q := by
  obtain ⟨La, M0, M, ρ, S, R, h⟩ := tD_iff.mp h
  refine ⟨La, M0, M, ρ, S, R, ?_⟩
  cases w : fa ρ S with
  | exc c S' => rw [w] at h; exact h
  | stuck => rw [w] at h; exact h
  | ok d S' =>
    rw [w] at h
    intro La' M' H' s R' p hp hL ho
    have nM : ¬ M p := fun z => R.dom p z hp
    have nO : ∀ (i : Nat) (e : PyData), ρ[i]? = some (.own e) → σ[i]? ≠ some (some (.ref p)) := fun i e h1 h2 => by
      obtain ⟨b, h3, h4, _⟩ := R.own i e h1
      rw [h3] at h2; cases h2
      exact nM h4.1
    have s' : StepE La La' M (less M' p) H H' :=
      { s with
        mon := fun b z => s.mon b z.1
        up := fun b z => ⟨s.up b z, fun q => nM (q ▸ z)⟩ }
    exact h La' (less M' p) H' s' (R'.drop hL (fun z => nM (R.sub p z)) nO) _ (ho.freeze (fun _ h => h.1) fun z => z.2 rfl)
end
section
variable {Φ : Call} {ec : Nat → Value} {c : Ck} {X : Cx} {W : WN}
/-- a comprehension: as a new list, and stored at once -/
theorem lc_both (ok : OkX c Φ ec X W) {o : Bool} {vs : List Nat} {elt : E} {g : Gs} {x : Expr} (h : chk c o (.lc vs elt g) x = true) : SN X W x (evE Φ (.lc vs elt g)) ∧
    ∀ (i : Nat) (y : Str) (py : Pos) (spos : Pos), X.N[i]? = some y → X.env.scope.names.lookup y = some .local → swapsWith x (some (.Name y py)) spos.line X.env = pure true → PS X (.Assign [.Name y py] x spos) (tAsg (tDN W (evE Φ (.lc vs elt g))) (gName i)) := by
  cases g with
  | one tg it cd =>
    simp only [chk, chkG] at h
    split at h
    · rename_i y gs s p
      simp only [Bool.and_eq_true] at h
      obtain ⟨⟨hb, he⟩, h⟩ := h
      split at h
      · rename_i t i ifs a
        simp only [Bool.and_eq_true, decide_eq_true_eq, List.all_eq_true] at h
        obtain ⟨⟨⟨⟨⟨rfl, hi1⟩, hi2⟩, ht⟩, hm⟩, hc⟩ := h
        have red : ∀ σ H Q, tDN W (evE Φ (.lc vs elt (.one tg it cd))) σ H Q → tLc (tDI W true (evIt Φ it)) (gD tg) (tDT WF (evC Φ cd)) (tD WF IsF (evE Φ elt)) ((namesOf c vs).map (·.2)) σ H Q := fun σ H Q q => by
          rw [namesOf_snd]
          exact tLc_D (fun j hj => memN_of (hm j hj)) q
        refine ⟨PE.imp (pe_lc ok.calm ok.nd (chkI_sound it true c _ _ ok hi2) (blk_of ok hb) (fun s0 H C cl fp => chkTg_sound (ok.inner hb s0 H C cl fp) ht) (fun s0 H C cl fp => chkOt_sound cd _ _ (ok.inner hb s0 H C cl fp) hc)
          (fun s0 H C cl fp => chk_sound elt false _ _ (ok.inner hb s0 H C cl fp) he) (pln_fold hi1 _)) red, fun i y py spos hy hl hsw => ?_⟩
        exact PS.imp (ps_setLc ok.calm ok.nd hy hl hsw (chkI_sound it true c _ _ ok hi2) (blk_of ok hb) (fun s0 H C cl fp => chkTg_sound (ok.inner hb s0 H C cl fp) ht) (fun s0 H C cl fp => chkOt_sound cd _ _ (ok.inner hb s0 H C cl fp) hc)
          (fun s0 H C cl fp => chk_sound elt false _ _ (ok.inner hb s0 H C cl fp) he) (pln_fold hi1 _)) fun D σ H q => red _ _ _ q
      · cases h
    · cases h
  | more tg it cd g =>
    cases g with
    | one tg1 it1 cd1 =>
      simp only [chk, chkG] at h
      split at h
      · rename_i y gs s p
        simp only [Bool.and_eq_true] at h
        obtain ⟨⟨hb, he⟩, h⟩ := h
        split at h
        · rename_i t i ifs a gs'
          simp only [Bool.and_eq_true, decide_eq_true_eq, List.all_eq_true] at h
          obtain ⟨⟨⟨⟨⟨⟨⟨_, rfl⟩, hi1⟩, hi2⟩, ht⟩, hm⟩, hc⟩, h⟩ := h
          split at h
          · rename_i t1 i1 ifs1 a1
            simp only [Bool.and_eq_true, decide_eq_true_eq, List.all_eq_true] at h
            obtain ⟨⟨⟨⟨⟨rfl, hi11⟩, hi12⟩, ht1⟩, hm1⟩, hc1⟩ := h
            have red : ∀ σ H Q, tDN W (evE Φ (.lc vs elt (.more tg it cd (.one tg1 it1 cd1)))) σ H Q → tLc2 (tDI W true (evIt Φ it)) (gD tg) (tDT WF (evC Φ cd)) (tDI WF false (evIt Φ it1)) (gD tg1) (tDT WF (evC Φ cd1)) (tD WF IsF (evE Φ elt)) ((namesOf c vs).map (·.2)) tg1 σ H Q := fun σ H Q q => by
              rw [namesOf_snd]
              exact tLc2_D (fun j hj => memN_of (hm j hj)) (fun j hj => memN_of (hm1 j hj)) q
            refine ⟨PE.imp (pe_lc2 ok.calm ok.nd (chkI_sound it true c _ _ ok hi2) (blk_of ok hb) (vs1 := tg1) (fun j hj => by rw [namesOf_snd]; exact memN_of (hm1 j hj)) (fun s0 H C cl fp => chkTg_sound (ok.inner hb s0 H C cl fp) ht) (fun s0 H C cl fp => chkOt_sound cd _ _ (ok.inner hb s0 H C cl fp) hc)
              (fun s0 H C cl fp => chkI_sound it1 false _ _ _ (ok.inner hb s0 H C cl fp) hi12) (fun s0 H C cl fp => chkTg_sound (ok.inner hb s0 H C cl fp) ht1) (fun s0 H C cl fp => chkOt_sound cd1 _ _ (ok.inner hb s0 H C cl fp) hc1)
              (fun s0 H C cl fp => chk_sound elt false _ _ (ok.inner hb s0 H C cl fp) he) (pln_fold hi1 _) (pln_fold hi11)) red, fun i y py spos hy hl hsw => ?_⟩
            exact PS.imp (ps_setLc2 ok.calm ok.nd hy hl hsw (chkI_sound it true c _ _ ok hi2) (blk_of ok hb) (vs1 := tg1) (fun j hj => by rw [namesOf_snd]; exact memN_of (hm1 j hj)) (fun s0 H C cl fp => chkTg_sound (ok.inner hb s0 H C cl fp) ht) (fun s0 H C cl fp => chkOt_sound cd _ _ (ok.inner hb s0 H C cl fp) hc)
              (fun s0 H C cl fp => chkI_sound it1 false _ _ _ (ok.inner hb s0 H C cl fp) hi12) (fun s0 H C cl fp => chkTg_sound (ok.inner hb s0 H C cl fp) ht1) (fun s0 H C cl fp => chkOt_sound cd1 _ _ (ok.inner hb s0 H C cl fp) hc1)
              (fun s0 H C cl fp => chk_sound elt false _ _ (ok.inner hb s0 H C cl fp) he) (pln_fold hi1 _) (pln_fold hi11)) fun D σ H q => red _ _ _ q
          · cases h
        · cases h
      · cases h
    | more tg1 it1 cd1 g =>
      simp only [chk, chkG] at h
      split at h
      · simp only [Bool.and_eq_true] at h
        obtain ⟨_, h⟩ := h
        split at h
        · simp only [Bool.and_eq_true] at h
          obtain ⟨_, h⟩ := h
          split at h
          · simp at h
          · cases h
        · cases h
      · cases h
theorem chkN_sound (ok : OkX c Φ ec X W) {e : E} {x : Expr} (hn : isN e = true) (h : chk c false e x = true) : SN X W x (evE Φ e) := by
  cases e with
  | lst es =>
    simp only [chk] at h
    split at h
    · simp only [Bool.and_eq_true, decide_eq_true_eq] at h
      exact sn_lst (chkEs_sound es c _ ok h.1) h.2 fun ρ S ds S' q => by rw [evEs_len q, chkEs_len h.1]
    · cases h
  | bi b a =>
    cases b with
    | list =>
      simp only [chk] at h
      split at h
      · simp only [Bool.and_eq_true] at h
        obtain ⟨⟨⟨h1, h2⟩, h3⟩, h4⟩ := h
        obtain ⟨e, g1, g2, g3⟩ := blt_of ok h2
        exact sn_list e g1 (ok.mg _ (by subst e; simp [biS, bnames])) (by subst e; rfl) (chk_sound a true c _ ok h3) h4 g3 g2
      · cases h
    | _ => cases hn
  | lc vs elt g => exact (lc_both ok h).1
  | _ => cases hn
theorem chk_notLc {o : Bool} {e : E} {a : Expr} {b : List Comprehension} {s : Scope} {p : Pos} (h : chk c o e (.ListComp a b s p) = true) : ∃ vs elt g, e = .lc vs elt g := by
  cases e <;> first | exact ⟨_, _, _, rfl⟩ | (simp only [chk] at h; cases h)
/-- name = v, from a reading of v -/
theorem asg_sound (ok : OkX c Φ ec X W) {i : Nat} {x : Str} {px pos : Pos} {e : E} {v : Expr} {te : TE} (hx : nmS c i x = true) (hp : pln v = true) (h : chk c false e v = true) (hv : PE X v te) (hte : ∀ σ H Q, te σ H Q → tDN W (evE Φ e) σ H Q) :
    PS X (.Assign [.Name x px] v pos) (tAsg te (gName i)) := by
  have N := nmS_of ok hx
  by_cases hl : ∃ a b s p, v = .ListComp a b s p
  · obtain ⟨a, b, s, p, rfl⟩ := hl
    obtain ⟨vs, elt, g, rfl⟩ := chk_notLc h
    have hb : X.env.blockKind = .function := blockKind_of ok.kind
    cases hs : (X.env.blockKind == .function && X.env.kindOf x == some .local && px.line == p.line && !(s.names.any fun (n, k) => n == x && (k == .local || k == .cell))) with
    | true =>
      have hsw : swapsWith (.ListComp a b s p) (some (.Name x px)) pos.line X.env = pure true := by
        show (pure (X.env.blockKind == .function && X.env.kindOf x == some .local && px.line == p.line && !(s.names.any fun (n, k) => n == x && (k == .local || k == .cell))) : Sem Bool) = _
        rw [hs]
      have hloc : X.env.scope.names.lookup x = some .local := by
        simp only [Bool.and_eq_true] at hs
        exact beq_iff_eq.mp hs.1.1.2
      exact PS.imp ((lc_both ok h).2 i x px pos N.ix hloc hsw) fun D σ H q => hte _ _ _ q
    | false =>
      have hsw : swapsWith (.ListComp a b s p) (some (.Name x px)) pos.line X.env = pure false := by
        show (pure (X.env.blockKind == .function && X.env.kindOf x == some .local && px.line == p.line && !(s.names.any fun (n, k) => n == x && (k == .local || k == .cell))) : Sem Bool) = _
        rw [hs]
      exact ps_set ok.nd N.ix N.loc hv hsw N.fn
  · exact ps_set ok.nd N.ix N.loc hv (pln_swapName hp fun a b s p z => hl ⟨a, b, s, p, z⟩) N.fn
end
end L2.DL

set_option maxHeartbeats 4000000
/-! The data layer, twenty-first part: statements, all. -/
namespace L2.DL
open PySem PySem.Spec PyProof.Rows L2

/-- what is known of a class that is raised -/
def RaiseOk (X : Cx) (ec : Nat → Value) (x : Str) (k : Nat) : Prop := k < 2 ∧ ∃ (C : Addr) (bmB : List Value) (B newId initId : String), ec k = .ref C ∧ X.mg x = some (.ref C) ∧ ExcBaseFacts B newId initId bmB ∧ PySem.W.excIn X.K C bmB newId = true ∧ PySem.W.keepIn X.K (.ref C) = true ∧ Raises X (.ref C)
structure OkS (c : Ck) (Φ : Call) (ec : Nat → Value) (X : Cx) (W : WN) : Prop extends OkX c Φ ec X W where
  stk : X.stack = X.env :: X.outer
  frm : X.env.frame = some X.env.locals
  po : PassesOwn (model X.prog X.w) X.A X.env X.xe
  exs : Excs X.K ec
  rs : ∀ x k, lkS c.ex x = some k → RaiseOk X ec x k
section
variable {Φ : Call} {ec : Nat → Value} {c : Ck} {X : Cx} {W : WN}
theorem OkS.tr (ok : OkS c Φ ec X W) {W' : WN} {pn : List (Addr × Obj)} {xe : Value → Shared → Prop} (tk : Takes (X.tr pn xe) (wx ec W')) (po : PassesOwn (model X.prog X.w) X.A X.env xe) : OkS c Φ ec (X.tr pn xe) W' :=
  { N := ok.N, nd := ok.nd, kind := ok.kind, sc := ok.sc, fn := ok.fn, calm := ok.calm, un := ok.un, mg := ok.mg, fs := ok.fs, tk := tk, stk := ok.stk, frm := ok.frm, po := po, exs := ok.exs, rs := ok.rs }
theorem nmN_local (ok : OkX c Φ ec X W) {i : Nat} {x : Str} (h : nmN c i x = true) (hl : isLocal (lkS c.sc x) = true) : X.N[i]? = some x ∧ X.env.scope.names.lookup x = some .local :=
  ⟨nmN_of ok h, by rw [ok.sc, lkS_eq]; exact isLocal_of hl⟩
theorem suite_sound (ok : OkS c Φ ec X W) {i : Nat} {n : Str} {b : Hb} {st : List Stmt} (hi : X.N[i]? = some n) (hl : X.env.scope.names.lookup n = some .local) (hp : plainN n = true) (h : suiteOk c n b st = true) :
    ∃ b₀ r, st = b₀ :: r ∧ ∀ (a : Addr) (oe : Obj) (cls : Value) (d : Option Addr) (pn : List (Addr × Obj)), Zc cls d oe → (∃ vs, oe.data = .fields vs) → PSs (X.suite a ((a, oe) :: pn)) (b₀ :: r) (tsD X.K b i a cls d) := by
  obtain ⟨p1, p2, _⟩ := plainN_of hp
  cases b with
  | unit =>
    simp only [suiteOk] at h
    split at h
    · simp only [Bool.and_eq_true] at h
      obtain ⟨⟨h1, h2⟩, h3⟩ := h
      obtain ⟨e, g1, g2, g3⟩ := blt_of ok.toOkX h1
      obtain ⟨e2, k1, k2, k3⟩ := blt_of ok.toOkX h3
      have e3 := eqS_iff.mp h2
      subst e3; subst e; subst e2
      exact ⟨_, _, rfl, fun a oe cls d pn hz hf => suite_unit hi (.inl hl) p1 p2 g1 (ok.mg _ (by simp [bnames])) rfl k1 (ok.mg _ (by simp [bnames])) rfl g3 g2 k3 k2 a oe cls d pn hz hf⟩
    · cases h
  | go =>
    simp only [suiteOk] at h
    split at h
    · simp only [Bool.and_eq_true] at h
      obtain ⟨⟨h1, h2⟩, h3⟩ := h
      obtain ⟨e, g1, g2, g3⟩ := blt_of ok.toOkX h1
      obtain ⟨e2, k1, k2, k3⟩ := blt_of ok.toOkX h3
      have e3 := eqS_iff.mp h2
      subst e3; subst e; subst e2
      exact ⟨_, _, rfl, fun a oe cls d pn hz hf => suite_go hi (.inl hl) p1 p2 g1 (ok.mg _ (by simp [bnames])) rfl k1 (ok.mg _ (by simp [bnames])) rfl g3 g2 k3 k2 a oe cls d pn hz hf⟩
    · cases h
theorem hs_sound (ok : OkS c Φ ec X W) : ∀ {h : Hs} {hd : List ExceptHandler}, chkHs c h hd = true → ∃ l, HsOk X ec hd h l
  | .nil, hd, q => by
    unfold chkHs at q
    split at q
    · exact ⟨[], .nil⟩
    · cases q
  | .cons k i b h, hd, q => by
    unfold chkHs at q
    split at q
    · simp only [Bool.and_eq_true] at q
      obtain ⟨⟨⟨⟨⟨⟨q1, q2⟩, q3⟩, q4⟩, q5⟩, q6⟩, q7⟩ := q
      split at q1
      · rename_i k' hk
        have e := nat_beq q1
        subst e
        obtain ⟨g1, g2, g3⟩ := gl_of ok.toOkX q2
        obtain ⟨n1, n2⟩ := nmN_local ok.toOkX q3 q4
        obtain ⟨hk2, C, _, _, _, _, e1, e2, _⟩ := ok.rs _ _ hk
        obtain ⟨l, hl⟩ := hs_sound ok q7
        obtain ⟨b₀, r, rfl, hsu⟩ := suite_sound ok n1 n2 q5 q6
        exact ⟨_, .cons hk2 n1 n2 ⟨g1, g2, .inl (by rw [e1]; exact e2)⟩ hsu hl⟩
      · cases q1
    · cases q
theorem nm_ne (ok : OkX c Φ ec X W) {i j : Nat} {x y : Str} (hi : X.N[i]? = some x) (hj : X.N[j]? = some y) (h : eqS x y = false) : i ≠ j ∧ x ≠ y := by
  have ne : x ≠ y := fun z => by rw [eqS_iff.mpr z] at h; cases h
  refine ⟨fun z => ?_, ne⟩
  subst z
  rw [hi] at hj
  exact ne (Option.some.inj hj)
theorem tg_cases {t : Expr} {tg : List Nat} (h : chkTg c tg t = true) : (∃ x p, t = .Name x p) ∨ ∃ ts k p, t = .Tuple ts k p := by
  unfold chkTg at h
  split at h
  · exact .inl ⟨_, _, rfl⟩
  · exact .inr ⟨_, _, _, rfl⟩
  · cases h
theorem nms_star1 {t : Expr} {tg : List Nat} {env : PySem.Env} (h : chkTg c tg t = true) : (assignEach [t] env).map (·.2) = [assign t env] := by
  rcases tg_cases h with ⟨x, p, rfl⟩ | ⟨ts, k, p, rfl⟩ <;> rfl
theorem sole_nil {e t : Expr} {l : Nat} {env : PySem.Env} (h : pln e = true) (ht : ∀ x p, t ≠ .Name x p) : swapsWithSole [t] e l env = pure false := pln_swapNil h ht
theorem tg_swap {t v : Expr} {tg : List Nat} {l : Nat} {env : PySem.Env} (h : chkTg c tg t = true) (hv : ∀ a b c d, v ≠ .ListComp a b c d) (hp : pln v = true) : swapsWithSole [t] v l env = pure false := by
  rcases tg_cases h with ⟨x, p, rfl⟩ | ⟨ts, k, p, rfl⟩
  · exact pln_swapName (l := l) hp hv
  · exact sole_nil hp (by intro x p z; cases z)
theorem tg_stores {t v : Expr} {tg : List Nat} {env : PySem.Env} (h : chkTg c tg t = true) (hv : isTup v = false) : swappedStores [t] v env = pure none := by
  rcases tg_cases h with ⟨x, p, rfl⟩ | ⟨ts, k, p, rfl⟩
  · exact swst_name
  · exact swst_tup hv
end
mutual
theorem chkS_sound {Φ : Call} {ec : Nat → Value} : ∀ (s : S) (c : Ck) (st : Stmt) {X : Cx} {W : WN}, OkS c Φ ec X W → chkS c s st = true → SS1 X W st (evS Φ s)
  | .set i e, c, st, X, W, ok, h => by
    simp only [chkS] at h
    split at h
    · simp only [Bool.and_eq_true] at h
      obtain ⟨⟨h1, h2⟩, h3⟩ := h
      exact s_set (asg_sound ok.toOkX h1 h2 h3 (chk_sound e false c _ ok.toOkX h3) fun _ _ _ q => tDN_of q) fun _ _ _ q => q
    · cases h
  | .setOwn i e, c, st, X, W, ok, h => by
    simp only [chkS] at h
    split at h
    · simp only [Bool.and_eq_true] at h
      obtain ⟨⟨⟨h1, h2⟩, h4⟩, h3⟩ := h
      exact s_setOwn (asg_sound ok.toOkX h1 h2 h3 (chkN_sound ok.toOkX h4 h3) fun _ _ _ q => q) fun _ _ _ q => q
    · cases h
  | .newCell i e, c, st, X, W, ok, h => by
    simp only [chkS] at h
    split at h
    · simp only [Bool.and_eq_true] at h
      obtain ⟨⟨⟨h1, h2⟩, h4⟩, h3⟩ := h
      exact s_newCell (asg_sound ok.toOkX h1 h2 h3 (chkN_sound ok.toOkX h4 h3) fun _ _ _ q => q) fun _ _ _ q => q
    · cases h
  | .unp tg e, c, st, X, W, ok, h => by
    simp only [chkS] at h
    split at h
    · rename_i ts k q v p
      simp only [Bool.and_eq_true] at h
      obtain ⟨⟨⟨h1, h2⟩, h3⟩, h4⟩ := h
      refine s_unp (tgt := .Tuple ts k q) (ps_asg (chk_sound e false c _ ok.toOkX h3) (chkTg_sound ok.toOkX h1) (sole_nil h2 fun _ _ z => nomatch z) ?_ rfl)
      split at h4
      · exact swst_none h4
      · rename_i hn
        refine swst_tup ?_
        cases v <;> first | rfl | exact absurd rfl (hn _ _ _)
    · cases h
  | .par i j es, c, st, X, W, ok, h => by
    simp only [chkS] at h
    split at h
    · rename_i x px y py kt pt a b k2 pt2 p
      simp only [Bool.and_eq_true, Bool.not_eq_true'] at h
      obtain ⟨⟨⟨⟨⟨⟨⟨⟨h1, h2⟩, h3⟩, h4⟩, h5⟩, h6⟩, h7⟩, h8⟩, h9⟩ := h
      obtain ⟨n1, n2⟩ := nmN_local ok.toOkX h1 h3
      obtain ⟨m1, m2⟩ := nmN_local ok.toOkX h2 h4
      obtain ⟨ne1, ne2⟩ := nm_ne ok.toOkX n1 m1 h5
      have hpl : pln a = true ∧ pln b = true := by
        cases es with
        | nil => simp only [chkEs] at h7; cases h7
        | cons e1 es =>
          cases es with
          | nil => simp [chkEs] at h7
          | cons e2 es => simp only [chkEs, Bool.and_eq_true] at h7; exact ⟨h7.1.2, h7.2.1.2⟩
      exact s_par (ps_par ok.calm ok.nd n1 m1 ne1 n2 m2 (chkEs_sound es c _ ok.toOkX h7) (swst_two ok.kind n2 m2 h6 ne2 h8 h9 hpl.1 hpl.2) rfl)
    · cases h
  | .aug i op e, c, st, X, W, ok, h => by
    simp only [chkS] at h
    split at h
    · simp only [Bool.and_eq_true] at h
      obtain ⟨⟨⟨h1, h2⟩, h3⟩, h4⟩ := h
      have N := nmS_of ok.toOkX h1
      have e' := bopOk_of h3
      subst e'
      exact s_aug (ps_aug ok.nd N.ix N.loc (chk_sound e true c _ ok.toOkX h4) (ip_augD op) N.fn)
    · cases h
  | .frz i, c, st, X, W, ok, h => by simp only [chkS] at h; cases h
  | .push i e, c, st, X, W, ok, h => by
    simp only [chkS] at h
    split at h
    · simp only [Bool.and_eq_true] at h
      obtain ⟨⟨⟨⟨h1, h2⟩, h3⟩, h4⟩, h5⟩ := h
      obtain ⟨k1, k2, k3, k4⟩ := nm_of ok.toOkX h2
      have e' := eqS_iff.mp h1
      subst e'
      exact s_push k1 k2 k3 k4 (chk_sound e false c _ ok.toOkX h3) h4 h5
    · cases h
  | .setIx i k e, c, st, X, W, ok, h => by
    simp only [chkS] at h
    split at h
    · simp only [Bool.and_eq_true] at h
      obtain ⟨⟨⟨⟨h1, h2⟩, h3⟩, h4⟩, h5⟩ := h
      obtain ⟨k1, k2, k3, k4⟩ := nm_of ok.toOkX h1
      exact s_setIx k1 k2 k3 k4 (chk_sound e false c _ ok.toOkX h4) (chk_sound k true c _ ok.toOkX h2) h3 (sole_nil h5 fun _ _ z => nomatch z) swst_sub
    · cases h
  | .cellSet i k e, c, st, X, W, ok, h => by
    simp only [chkS] at h
    split at h
    · simp only [Bool.and_eq_true] at h
      obtain ⟨⟨⟨⟨h1, h2⟩, h3⟩, h4⟩, h5⟩ := h
      obtain ⟨k1, k2, k3, k4⟩ := nm_of ok.toOkX h1
      exact s_cellSet k1 k2 k3 k4 (chk_sound e false c _ ok.toOkX h4) (chk_sound k true c _ ok.toOkX h2) h3 (sole_nil h5 fun _ _ z => nomatch z) swst_sub
    · cases h
  | .cellAug i k op e, c, st, X, W, ok, h => by
    simp only [chkS] at h
    split at h
    · simp only [Bool.and_eq_true] at h
      obtain ⟨⟨⟨⟨h1, h2⟩, h3⟩, h4⟩, h5⟩ := h
      obtain ⟨k1, k2, k3, k4⟩ := nm_of ok.toOkX h1
      have e' := bopOk_of h2
      subst e'
      exact s_cellAug k1 k2 k3 k4 (chk_sound e true c _ ok.toOkX h5) (chk_sound k true c _ ok.toOkX h3) h4
    · cases h
  | .pop tg i, c, st, X, W, ok, h => by
    simp only [chkS] at h
    split at h
    · simp only [Bool.and_eq_true] at h
      obtain ⟨⟨⟨h1, h2⟩, h3⟩, h4⟩ := h
      obtain ⟨k1, k2, k3, k4⟩ := nm_of ok.toOkX h2
      have e' := eqS_iff.mp h1
      subst e'
      exact s_pop k1 k2 k3 k4 (chkTg_sound ok.toOkX h3) h4 (tg_swap h3 (fun _ _ _ _ z => nomatch z) rfl) (tg_stores h3 rfl) (nms_star1 h3)
    · cases h
  | .popAt tg i k, c, st, X, W, ok, h => by
    simp only [chkS] at h
    split at h
    · simp only [Bool.and_eq_true] at h
      obtain ⟨⟨⟨⟨⟨h1, h2⟩, h3⟩, h4⟩, h5⟩, h6⟩ := h
      obtain ⟨k1, k2, k3, k4⟩ := nm_of ok.toOkX h2
      have e' := eqS_iff.mp h1
      subst e'
      exact s_popAt k1 k2 k3 k4 (chk_sound k true c _ ok.toOkX h4) h5 (chkTg_sound ok.toOkX h3) h6 (tg_swap h3 (fun _ _ _ _ z => nomatch z) rfl) (tg_stores h3 rfl) (nms_star1 h3)
    · cases h
  | .ex e, c, st, X, W, ok, h => by
    simp only [chkS] at h
    split at h
    · simp only [Bool.and_eq_true] at h
      obtain ⟨h1, h2⟩ := h
      split at h1
      · exact s_ex (ps_expr (chk_sound e true c _ ok.toOkX h2) rfl)
      · cases h1
    · cases h
  | .ite t a b, c, st, X, W, ok, h => by
    simp only [chkS] at h
    split at h
    · simp only [Bool.and_eq_true] at h
      obtain ⟨⟨h1, h2⟩, h3⟩ := h
      exact s_if (chkT_sound t c _ ok.toOkX h1).1 (chkSs_sound a c _ ok h2) (chkSs_sound b c _ ok h3)
    · cases h
  | .forr tg it b, c, st, X, W, ok, h => by
    simp only [chkS] at h
    split at h
    · simp only [Bool.and_eq_true] at h
      obtain ⟨⟨⟨h1, h2⟩, h3⟩, h4⟩ := h
      exact s_for ok.po ok.calm (chkI_sound it false c _ _ ok.toOkX h2) (chkTg_sound ok.toOkX h3) (chkSs_sound b c _ ok h4) (pln_fold h1 _)
    · cases h
  | .whil t b, c, st, X, W, ok, h => by
    simp only [chkS] at h
    split at h
    · simp only [Bool.and_eq_true] at h
      obtain ⟨h1, h2⟩ := h
      exact s_while ok.po (chkT_sound t c _ ok.toOkX h1).1 (chkSs_sound b c _ ok h2) whileFuel
    · cases h
  | .ret e, c, st, X, W, ok, h => by
    simp only [chkS] at h
    split at h
    · exact s_ret (ps_ret (chk_sound e false c _ ok.toOkX h)) fun _ _ _ q => q
    · cases h
  | .raise k, c, st, X, W, ok, h => by
    simp only [chkS] at h
    split at h
    · simp only [Bool.and_eq_true] at h
      obtain ⟨h1, h2⟩ := h
      split at h1
      · rename_i k' hk
        have e := nat_beq h1
        subst e
        obtain ⟨g1, g2, g3⟩ := gl_of ok.toOkX h2
        obtain ⟨hk2, C, bmB, B, nI, iI, e1, e2, F, q, kC, r⟩ := ok.rs _ _ hk
        exact s_raise (C := C) (ps_raise ok.calm ok.tk (pmk_own F q e2 kC r g1 g2)) e1
      · cases h1
    · cases h
  | .cont, c, st, X, W, ok, h => by
    simp only [chkS] at h
    split at h
    · exact s_cont
    · cases h
  | .brk, c, st, X, W, ok, h => by
    simp only [chkS] at h
    split at h
    · exact s_brk
    · cases h
  | .pass, c, st, X, W, ok, h => by
    simp only [chkS] at h
    split at h
    · exact s_pass
    · exact s_doc
    · cases h
  | .tryy b hh, c, st, X, W, ok, h => by
    simp only [chkS] at h
    split at h
    · simp only [Bool.and_eq_true] at h
      obtain ⟨h1, h2⟩ := h
      obtain ⟨l, hl⟩ := hs_sound ok h2
      exact s_try ok.exs ok.stk ok.frm ok.nd ok.tk (fun W' pn xe tk po => chkSs_sound b c _ (ok.tr tk po) h1) hl
    · cases h
theorem chkSs_sound {Φ : Call} {ec : Nat → Value} : ∀ (s : Ss) (c : Ck) (st : List Stmt) {X : Cx} {W : WN}, OkS c Φ ec X W → chkSs c s st = true → SSs X W st (evSs Φ s)
  | .nil, c, st, X, W, ok, h => by
    simp only [chkSs] at h
    split at h
    · exact ss_nilS
    · cases h
  | .cons s r, c, st, X, W, ok, h => by
    by_cases hf : ∃ i, s = .frz i
    · obtain ⟨i, rfl⟩ := hf
      simp only [chkSs] at h
      exact ss_frz (i := i) (chkSs_sound r c _ ok h)
    · have h' : ∃ x xs, st = x :: xs ∧ chkS c s x = true ∧ chkSs c r xs = true := by
        cases st with
        | nil => cases s <;> first | (exfalso; exact hf ⟨_, rfl⟩) | (simp only [chkSs] at h; exact absurd h Bool.false_ne_true)
        | cons x xs =>
          refine ⟨x, xs, rfl, ?_⟩
          cases s <;> first | (exfalso; exact hf ⟨_, rfl⟩) | (simp only [chkSs, Bool.and_eq_true] at h; exact h)
      obtain ⟨x, xs, rfl, h1, h2⟩ := h'
      exact ss_consS (chkS_sound s c _ ok h1) (chkSs_sound r c _ ok h2)
end
end L2.DL

set_option maxHeartbeats 4000000
/-! The data layer, twenty-second part: defs. -/
namespace L2.DL
open PySem PySem.Spec PyProof.Rows L2

/-- a def: its text, its slots, its parameters, what it means -/
structure DefI where
  x : Str
  st : Stmt
  N : List Str
  ps : List Str
  fd : FDef
def exNames : List (Str × Nat) := [("UnfitOrder", 0), ("TooWide", 1)]
def ckOf (ds : List DefI) (d : DefI) : Ck := { N := d.N, sc := (defScope d.st).names, own := [], all := true, fs := ds.map fun e => (e.x, e.ps.length), ex := exNames }
def nodupS : List Str → Bool
  | [] => true
  | x :: r => !inL x r && nodupS r
def eqLS : List Str → List Str → Bool
  | [], [] => true
  | x :: r, y :: s => eqS x y && eqLS r s
  | _, _ => false
def scOk (d : DefI) : Bool := (match (defScope d.st).kind with | .function => true | _ => false) && !(defScope d.st).isCoroutine && !(defScope d.st).isGenerator && nodupS d.N && eqLS (d.N.take d.ps.length) d.ps &&
  (d.ps.all fun x => isLocal (lkS (defScope d.st).names x) || isCell (lkS (defScope d.st).names x)) && ((defScope d.st).names.all fun y => match y.2 with | .free => false | _ => true)
def okDef (ds : List DefI) (d : DefI) : Bool := chkSs (ckOf ds d) d.fd.body (defBody d.st) && scOk d && Nat.beq d.fd.np d.ps.length && Nat.beq d.fd.ns d.N.length
def tabOf (ds : List DefI) : Tab := fun f => lkS (ds.map fun e => (e.x, e.fd)) f
def lkD : List DefI → Str → Option DefI
  | [], _ => none
  | d :: r, x => match eqS x d.x with
    | true => some d
    | false => lkD r x
theorem nodupS_of : ∀ {l : List Str}, nodupS l = true → l.Nodup
  | [], _ => List.nodup_nil
  | x :: r, h => by
    unfold nodupS at h
    simp only [Bool.and_eq_true, Bool.not_eq_true'] at h
    refine List.nodup_cons.mpr ⟨fun z => ?_, nodupS_of h.2⟩
    rw [inL_iff.mpr z] at h
    cases h.1
theorem eqLS_of : ∀ {l m : List Str}, eqLS l m = true → l = m
  | [], [], _ => rfl
  | [], _ :: _, h => by cases h
  | _ :: _, [], h => by cases h
  | x :: r, y :: s, h => by
    unfold eqLS at h
    simp only [Bool.and_eq_true] at h
    rw [eqS_iff.mp h.1, eqLS_of h.2]
theorem scOk_of {d : DefI} (h : scOk d = true) : FnScope d.N d.ps (defScope d.st) := by
  unfold scOk at h
  simp only [Bool.and_eq_true, Bool.not_eq_true', List.all_eq_true, Bool.or_eq_true] at h
  obtain ⟨⟨⟨⟨⟨⟨h1, h2⟩, h3⟩, h4⟩, h5⟩, h6⟩, h7⟩ := h
  refine ⟨?_, h2, h3, nodupS_of h4, eqLS_of h5, fun x hx => ?_, fun y hy z => ?_⟩
  · split at h1
    · assumption
    · cases h1
  · rw [lkS_eq]
    rcases h6 x hx with q | q
    · exact .inl (isLocal_of q)
    · exact .inr (isCell_of q)
  · have := h7 y hy
    rw [z] at this
    cases this
theorem lkD_some : ∀ {ds : List DefI} {x : Str} {d : DefI}, lkD ds x = some d → d ∈ ds ∧ d.x = x ∧ lkS (ds.map fun e => (e.x, e.fd)) x = some d.fd ∧ lkS (ds.map fun e => (e.x, e.ps.length)) x = some d.ps.length
  | [], _, _, h => by cases h
  | e :: r, x, d, h => by
    unfold lkD at h
    cases q : eqS x e.x with
    | true =>
      rw [q] at h
      cases h
      refine ⟨List.mem_cons_self, (eqS_iff.mp q).symm, ?_, ?_⟩ <;> (simp only [List.map_cons, lkS, q])
    | false =>
      rw [q] at h
      obtain ⟨h1, h2, h3, h4⟩ := lkD_some h
      refine ⟨List.mem_cons_of_mem _ h1, h2, ?_, ?_⟩ <;> simp only [List.map_cons, lkS, q] <;> assumption
theorem lkD_of : ∀ {ds : List DefI} {x : Str} {n : Nat}, lkS (ds.map fun e => (e.x, e.ps.length)) x = some n → ∃ d, lkD ds x = some d ∧ d.ps.length = n
  | [], _, _, h => by cases h
  | e :: r, x, n, h => by
    simp only [List.map_cons, lkS] at h
    unfold lkD
    cases q : eqS x e.x with
    | true => rw [q] at h; cases h; exact ⟨e, rfl, rfl⟩
    | false => rw [q] at h; exact lkD_of h
/-- a class that is raised, in the written part -/
def RaiseK (K : PySem.W.Frag) (mg : Str → Option Value) (ec : Nat → Value) (x : Str) (k : Nat) : Prop := k < 2 ∧ ∃ (C : Addr) (bmB : List Value) (B newId initId : String), ec k = .ref C ∧ mg x = some (.ref C) ∧ ExcBaseFacts B newId initId bmB ∧ PySem.W.excIn K C bmB newId = true ∧ PySem.W.keepIn K (.ref C) = true ∧
  PySem.W.subIn K (.ref C) (.type "BaseException") = some true ∧ PySem.W.typeIn K (.ref C) = some (.type "type")
/-- what the written part has of a def -/
def DefF (K : PySem.W.Frag) (mg : Str → Option Value) (d : DefI) : Prop := ∃ f fd, Fun K d.x d.x d.st f fd ∧ mg d.x = some (.ref f) ∧ Binds K fd d.ps []
section
variable {P : Program} {w : World} {K : PySem.W.Frag} {mg : Str → Option Value} {base : Heap} {ec : Nat → Value} {ds : List DefI}
theorem callF_len {n : Nat} {x : Str} {d : DefI} (hd : lkD ds x = some d) (hnp : d.fd.np = d.ps.length) {as : List Slot} {S : Store} (h : callF (tabOf ds) n x as S ≠ .stuck) : as.length = d.ps.length := by
  cases n with
  | zero => exact absurd rfl h
  | succ n =>
    unfold callF at h
    rw [show tabOf ds x = some d.fd from (lkD_some hd).2.2.1] at h
    dsimp only at h
    unfold runDef at h
    by_cases q : as.length = d.fd.np
    · rw [q, hnp]
    · rw [if_neg q] at h
      exact absurd rfl h
theorem start_get {N : List Str} {vs : List V} {i : Nat} {v : V} (h : vs[i]? = some v) : (start N vs)[i]? = some (some v) := by
  unfold start
  rw [List.getElem?_append_left (by rw [List.length_map]; exact (List.getElem?_eq_some_iff.mp h).1), List.getElem?_map, h]
  rfl
theorem paired_get {α β : Type} {F : α → β → Prop} : ∀ {xs : List α} {ys : List β} {i : Nat} {y : β}, Paired F xs ys → ys[i]? = some y → ∃ x, xs[i]? = some x ∧ F x y
  | _, _, _, _, .nil, h => by simp at h
  | _, _, 0, _, .cons r _, h => by simp at h; subst h; exact ⟨_, rfl, r⟩
  | _, _, i + 1, _, .cons _ t, h => by
    obtain ⟨x, h1, h2⟩ := paired_get (i := i) t (by simpa using h)
    exact ⟨x, by simpa using h1, h2⟩
/-- the frame at a def's entry -/
theorem rel_start {N : List Str} {La : List Addr} {M : Addr → Prop} {H : Hp} {S : Store} {vs : List V} {as : List Slot} {k : Nat} (C : Cells La M H S) (hp : Paired (ArgR La M H) vs as) (hl : vs.length + k = N.length) :
    RelF La M M H (start N vs) (as ++ List.replicate k .no) S := by
  have hlen : vs.length = as.length := hp.length
  have get : ∀ {i : Nat} {s : Slot}, (as ++ List.replicate k Slot.no)[i]? = some s → s ≠ .no → as[i]? = some s := fun {i s} h hs => by
    by_cases hi : i < as.length
    · rwa [List.getElem?_append_left hi] at h
    · rw [List.getElem?_append_right (by omega)] at h
      obtain ⟨h1, h2⟩ := List.getElem?_eq_some_iff.mp h
      rw [List.getElem_replicate] at h2
      exact absurd h2.symm hs
  have noown : ∀ {i : Nat} {d : PyData}, (as ++ List.replicate k Slot.no)[i]? ≠ some (.own d) := fun {i d} h => by
    obtain ⟨v, _, h2⟩ := paired_get hp (get h (fun z => by cases z))
    exact h2
  exact {
    len := by
      unfold start
      rw [List.length_append, List.length_append, List.length_replicate, List.length_replicate, List.length_map]
      omega
    val := fun i d h => by
      obtain ⟨v, h1, h2⟩ := paired_get hp (get h (fun z => by cases z))
      exact ⟨v, start_get h1, h2⟩
    own := fun i d h => absurd h noown
    ref := fun i n h => by
      obtain ⟨v, h1, a, rfl, h2⟩ := paired_get hp (get h (fun z => by cases z))
      exact ⟨a, start_get h1, h2⟩
    dist := fun i j d e a h => absurd h noown
    sub := fun _ h => h
    dom := C.dom
    laM := C.laM
    nd := C.nd
    szs := C.szs
    cells := C.cells }
theorem defs_ok (hd : ∀ d ∈ ds, okDef ds d = true) (hF : ∀ d ∈ ds, DefF K mg d) (hb : ∀ x ∈ bnames, mg x = none) (hx : Excs K ec) (hr : ∀ x k, lkS exNames x = some k → RaiseK K mg ec x k) :
    ∀ (n : Nat) (x : Str) (d : DefI), lkD ds x = some d → ∀ (f : Addr) (fd : FuncData), Fun K d.x d.x d.st f fd → FnOk P w K mg base (L2.CX P w) n f fd d.ps (spD ec d.ps.length (callF (tabOf ds) n x)) := by
  intro n
  induction n with
  | zero =>
    intro x d hxd f fd F
    refine ⟨fun vs H Q E h => h.1, fun A outer s H args us vs Q E hr he hbd hv h => ?_⟩
    obtain ⟨_, La, M, S, as, _, _, h⟩ := h
    exact h.elim
  | succ n ih =>
    intro x d hxd f fd F
    obtain ⟨hm, hdx, htab, hfs⟩ := lkD_some hxd
    have hok := hd d hm
    unfold okDef at hok
    simp only [Bool.and_eq_true] at hok
    obtain ⟨⟨⟨hchk, hsc⟩, hnp⟩, hns⟩ := hok
    have hnp := nat_beq hnp
    have hns := nat_beq hns
    have sc := scOk_of hsc
    refine F.okX sc (fun vs H Q E h => h.1) fun cdv A outer s H vs Q E hroom h => ?_
    obtain ⟨hl, La, M, S, as, C, hp, h⟩ := h
    have hlen : vs.length = as.length := hp.length
    let X := cxOf (L2.CX P w) P w K mg base d.N d.x (defScope d.st) f cdv A outer s H E
    have tk : Takes X (wx ec fun c _ H' => E (ec c) none H') := (takes_of (X := X) (E := E) rfl rfl rfl rfl).imp fun cls dd σ H' ⟨c, e1, e2, q⟩ => by subst e1; subst e2; exact q
    have po : PassesOwn (model X.prog X.w) X.A X.env X.xe := passes_of (X := X) rfl
    have ok : OkS (ckOf ds d) (callF (tabOf ds) n) ec X (fun c _ H' => E (ec c) none H') :=
      { N := rfl, nd := sc.nd, kind := sc.kind, sc := rfl, fn := fun _ _ => rfl, calm := rfl
        un := by
          show (A.deeper (envOfC d.x (defScope d.st) s.heap.objs.size f cdv)).units + 65 < cLine
          have := hroom.un
          omega
        mg := hb
        fs := fun g m hg => by
          obtain ⟨e, he, hem⟩ := lkD_of hg
          obtain ⟨em, ex, _, _⟩ := lkD_some he
          obtain ⟨a, fde, Fe, ge, be⟩ := hF e em
          have hoke := hd e em
          unfold okDef at hoke
          simp only [Bool.and_eq_true] at hoke
          have hnpe := nat_beq hoke.1.2
          exact ⟨n, a, fde, e.ps, ih g e he a fde Fe, hroom, by rw [← ex]; exact ge, Fe.kp, be, hem, fun as S q => by rw [← hem]; exact callF_len he hnpe q⟩
        tk := tk, stk := rfl, frm := rfl, po := po, exs := hx
        rs := fun y k hy => by
          obtain ⟨k2, Ca, bmB, B, nI, iI, e1, e2, e3, e4, e5, e6, e7⟩ := hr y k hy
          exact ⟨k2, Ca, bmB, B, nI, iI, e1, e2, e3, e4, e5, raises_own e6 e7⟩ }
    refine ⟨_, chkSs_sound d.fd.body (ckOf ds d) (defBody d.st) ok hchk, ?_⟩
    have hk : vs.length + (d.fd.ns - d.fd.np) = d.N.length := by
      have h1 : d.ps.length ≤ d.N.length := by
        have := congrArg List.length sc.pre
        rw [List.length_take] at this
        omega
      rw [hns, hnp, hl]
      omega
    have R := rel_start (N := d.N) (k := d.fd.ns - d.fd.np) C hp hk
    refine ⟨La, M, H, M, H, La, M, as ++ List.replicate (d.fd.ns - d.fd.np) .no, S, ⟨R, StepE.refl C.laM, .refl, fun i e a h1 h2 => ?_⟩, ?_⟩
    · obtain ⟨b, h3, h4, h5, h6⟩ := R.own i e h1
      exact absurd h4.1 h5
    · unfold callF at h
      rw [show tabOf ds x = some d.fd from htab] at h
      dsimp only at h
      unfold runDef at h
      rw [if_pos (by rw [← hlen, hl, hnp])] at h
      cases q : evSs (callF (tabOf ds) n) d.fd.body (as ++ List.replicate (d.fd.ns - d.fd.np) .no) S with
      | stuck => rw [q] at h; exact h
      | exc c ρ' S' => rw [q] at h; exact fun La' M' σ' H' R' => h La' M' H' R'.st R'.R.cs
      | fin fl ρ' S' =>
        rw [q] at h
        cases fl with
        | next => exact fun La' M' σ' H' R' => h .non La' M' H' R'.st R'.R.cs .non
        | ret v => exact fun La' M' σ' H' u R' hu => h u La' M' H' R'.st R'.R.cs hu
        | brk => exact h.elim
        | cont => exact h.elim
end
end L2.DL

set_option maxHeartbeats 4000000
/-! The data layer: the end of a law. -/
namespace L2.DL
open PySem PySem.Spec PyProof.Rows L2

/-- the classes that are raised, by their numbers -/
def ecOf (K : PySem.W.Frag) (c : Nat) : Value := match c with
  | 0 => (match PySem.W.nsIn K mainGlobals "UnfitOrder" with | some (some v) => v | _ => .none)
  | _ => (match PySem.W.nsIn K mainGlobals "TooWide" with | some (some v) => v | _ => .none)
def noList (K : PySem.W.Frag) : Bool := K.all fun p => match p.2.cls with | .type n => !decide (n = "list") | _ => true
theorem noList_of {K : PySem.W.Frag} (h : noList K = true) {a : Addr} {o : Obj} (e : K.lookup a = some o) : o.cls ≠ .type "list" := fun z => by
  have key : ∀ (l : List (Addr × Obj)), l.lookup a = some o → (a, o) ∈ l := by
    intro l
    induction l with
    | nil => intro q; cases q
    | cons p r ih =>
      intro q
      obtain ⟨b, u⟩ := p
      rw [List.lookup_cons] at q
      cases hb : a == b with
      | true =>
        rw [hb] at q
        cases q
        rw [beq_iff_eq.mp hb]
        exact List.mem_cons_self
      | false => rw [hb] at q; exact List.mem_cons_of_mem _ (ih q)
  have hm : (a, o) ∈ K := key K e
  have := List.all_eq_true.mp h _ hm
  rw [show (a, o).2.cls = Value.type "list" from z] at this
  simp at this
section
variable {K : PySem.W.Frag} {h : Heap} {mg : Str → Option Value}
theorem def_mk (X : K.In h) (G : h.Ns mainGlobals mg) {d : DefI} {f : Addr} {oc : Value} {od an : Option Addr} {osl : Array (Option Value)} {kV doc pm cdv ct : Value}
    (a : PySem.W.nsIn K mainGlobals d.x = some (some (.ref f))) (l : K.lookup f = some ⟨oc, od, .func (PySem.W.fnOf d.x d.x (defArgs d.st) (defBody d.st) (defScope d.st) .none kV doc pm an cdv ct), osl⟩) (c : PySem.W.codeIn K cdv d.x = true) (k : PySem.W.keepIn K (.ref f) = true)
    (hb : ∀ (kV doc pm : Value) (an : Option Addr) (cdv ct : Value) (us : List Value), us.length = d.ps.length → bindArgs (PySem.W.fnOf d.x d.x (defArgs d.st) (defBody d.st) (defScope d.st) .none kV doc pm an cdv ct) ⟨us, []⟩ = pure (d.ps.zip us)) : DefF K mg d := by
  have F := fun_mk (x := d.x) (qual := d.x) (st := d.st) l c k
  exact ⟨f, _, F, PySem.W.mg_of X G a, F.binds hb⟩
/-- what is asked of a class -/
structure ExF (K : PySem.W.Frag) (x : Str) (C : Addr) : Prop where
  a : PySem.W.nsIn K mainGlobals x = some (some (.ref C))
  q : PySem.W.excIn K C [.type "ValueError", .type "Exception", .type "BaseException", .type "object"] "ValueError.__new__" = true
  k : PySem.W.keepIn K (.ref C) = true
  s : PySem.W.subIn K (.ref C) (.type "BaseException") = some true
  t : PySem.W.typeIn K (.ref C) = some (.type "type")
  e : ExcC K C
  v : PySem.W.kitOne K (.ref C) (.type "ValueError") = some true
theorem ec0 {C : Addr} (a : PySem.W.nsIn K mainGlobals "UnfitOrder" = some (some (.ref C))) : ecOf K 0 = .ref C := by
  show (match PySem.W.nsIn K mainGlobals "UnfitOrder" with | some (some v) => v | _ => .none) = _
  rw [a]
theorem ec1 {C : Addr} (a : PySem.W.nsIn K mainGlobals "TooWide" = some (some (.ref C))) : ecOf K 1 = .ref C := by
  show (match PySem.W.nsIn K mainGlobals "TooWide" with | some (some v) => v | _ => .none) = _
  rw [a]
theorem excs_mk {C D : Addr} (U : ExF K "UnfitOrder" C) (T : ExF K "TooWide" D) (e00 : PySem.W.exmOne K (.ref C) (.ref C) = some true) (e01 : PySem.W.exmOne K (.ref C) (.ref D) = some false) (e10 : PySem.W.exmOne K (.ref D) (.ref C) = some false) (e11 : PySem.W.exmOne K (.ref D) (.ref D) = some true) : Excs K (ecOf K) := by
  refine ⟨fun c hc => ?_, fun c d hc hd => ?_⟩
  · match c, hc with
    | 0, _ => exact ⟨C, ec0 U.a, U.e, U.v⟩
    | 1, _ => exact ⟨D, ec1 T.a, T.e, T.v⟩
  · match c, hc, d, hd with
    | 0, _, 0, _ => rw [ec0 U.a]; exact e00
    | 0, _, 1, _ => rw [ec0 U.a, ec1 T.a]; exact e01
    | 1, _, 0, _ => rw [ec0 U.a, ec1 T.a]; exact e10
    | 1, _, 1, _ => rw [ec1 T.a]; exact e11
theorem raise_mk (X : K.In h) (G : h.Ns mainGlobals mg) {C D : Addr} (U : ExF K "UnfitOrder" C) (T : ExF K "TooWide" D) : ∀ x k, lkS exNames x = some k → RaiseK K mg (ecOf K) x k := by
  intro x k hk
  unfold exNames at hk
  simp only [lkS] at hk
  cases q : eqS x "UnfitOrder" with
  | true =>
    rw [q] at hk
    cases hk
    have e := eqS_iff.mp q
    subst e
    exact ⟨by decide, C, _, _, _, _, ec0 U.a, PySem.W.mg_of X G U.a, PySem.F.excBase_ValueError, U.q, U.k, U.s, U.t⟩
  | false =>
    rw [q] at hk
    cases q2 : eqS x "TooWide" with
    | true =>
      rw [q2] at hk
      cases hk
      have e := eqS_iff.mp q2
      subst e
      exact ⟨by decide, D, _, _, _, _, ec1 T.a, PySem.W.mg_of X G T.a, PySem.F.excBase_ValueError, T.q, T.k, T.s, T.t⟩
    | false => rw [q2] at hk; cases hk
theorem fin_mk {P : Program} {w : World} {ds : List DefI} {fa : Addr} (hfa : mg "law" = some (.ref fa)) (hd : ∀ d ∈ ds, okDef ds d = true) (hF : ∀ d ∈ ds, DefF K mg d) (hb : ∀ x ∈ bnames, mg x = none) (hx : Excs K (ecOf K)) (hr : ∀ x k, lkS exNames x = some k → RaiseK K mg (ecOf K) x k)
    (n : Nat) {dl : DefI} (hl : lkD ds "law" = some dl) (hps : dl.ps = [("script" : Str)])
    (hbind : ∀ (kV doc pm : Value) (an : Option Addr) (cdv ct v : Value), bindArgs (PySem.W.fnOf dl.x dl.x (defArgs dl.st) (defBody dl.st) (defScope dl.st) .none kV doc pm an cdv ct) ⟨[v], []⟩ = pure [(("script" : Str), v)]) :
    ∃ fd : FuncData, (∀ (s : Shared) (v : Value), BindsTo s fd ⟨[v], []⟩ [(("script" : Str), v)]) ∧ ∀ base : Heap, K.In base → base.Ns mainGlobals mg → FnOk P w K mg base (L2.CX P w) n fa fd [("script" : Str)] (spD (ecOf K) 1 (callF (tabOf ds) n "law")) := by
  obtain ⟨hm, hx2, _, _⟩ := lkD_some hl
  obtain ⟨f, fd, F, g, b⟩ := hF dl hm
  rw [hx2, hfa] at g
  cases g
  refine ⟨fd, fun s v => ?_, fun base _ _ => ?_⟩
  · obtain ⟨oc, od, kV, doc, pm, an, cdv, ct, osl, rfl, lk, hcd⟩ := F.ex
    exact .of_eq (hbind kV doc pm an cdv ct v)
  · have := defs_ok (P := P) (w := w) (base := base) hd hF hb hx hr n "law" dl hl fa fd F
    rw [hps] at this
    exact this
end
theorem kit_val {K : PySem.W.Frag} {C : Addr} (h : PySem.W.subIn K (.ref C) (.type "ValueError") = some true) : PySem.W.kitOne K (.ref C) (.type "ValueError") = some true := by
  have hm : PySem.W.kitMeta "ValueError" = true := by first | rfl | decide +kernel
  have hne : ¬ ((Value.ref C == Value.type "ValueError") = true) := by intro z; exact nomatch (beq_iff_eq.mp z)
  unfold PySem.W.kitOne PySem.W.kitCls
  rw [if_neg hne]
  show (if PySem.W.kitMeta "ValueError" = true then PySem.W.subIn K (.ref C) (.type "ValueError") else none) = some true
  rw [if_pos hm]
  exact h
theorem is_ints {M : Addr → Prop} {H : Hp} : ∀ (ns : List Int), IsAll M H (ns.map V.int) (ns.map PyData.int)
  | [] => .nil
  | n :: r => .cons (.int n) (is_ints r)
theorem sp_law {K : PySem.W.Frag} {ec : Nat → Value} {g : List Slot → Mn PyData} (hK : noList K = true) {H : Hp} {a : Addr} {ns : List Int} {E : XK} (hS : SqL K H a (ns.map V.int)) (hg : ∃ S, g [.val (.list (ns.map PyData.int))] [] = .ok (.bool true) S) : spD ec 1 g [.ref a] H (fun v _ => v = .bl true) E := by
  obtain ⟨S, hg⟩ := hg
  have hr : Rd H a (.lst (ns.map V.int)) := by
    rcases hS with hS | ⟨o, its, n, h1, h2, _⟩
    · exact hS
    · exact absurd h2 (noList_of hK h1)
  refine ⟨rfl, [], fun _ => False, [], [.val (.list (ns.map PyData.int))], ⟨fun _ z => z.elim, fun _ z => by (cases z), List.nodup_nil, rfl, fun n a ds h => by simp at h⟩, .cons (.lst (fun z => z) hr (is_ints ns)) .nil, ?_⟩
  rw [hg]
  exact fun v La' M' H' _ _ hv => (IsB.of hv).bool
theorem cx_none {P : Program} {w : World} {H : Hp} {s : Shared} {e : Value} {s' : Shared} (h : L2.CX P w [] H s (fun _ _ _ => False) e s') : False := by
  obtain ⟨_, _, _, _, _, _, _, _, _, _, _, _, q⟩ := h
  exact q
theorem walk_D {l : PySem.W.OpenLaw} {k : Nat} {q : Program} {loose : List Str} {XP : (Str → Option Value) → Heap → Prop} {YP : World → Heap → Prop} {d : DefRec} {K : Params → PySem.W.Frag} {g : List Slot → Mn PyData} {x : Str}
    (hn : l.most = some 63) (hdf : d.params.defaults = []) (hr : Room k callerA)
    (hY : ∀ (w : World) (h : Heap), YP w h → (K w.params).In h)
    (F : ∀ (w : World) (mg : Str → Option Value) (fa : Addr) (h : Heap), (K w.params).In h → h.Ns mainGlobals mg → mg d.name = some (.ref fa) →
      ∃ fd : FuncData, (∀ (s : Shared) (u : Value), BindsTo s fd ⟨[u], []⟩ [(x, u)]) ∧
        ∀ base : Heap, (K w.params).In base → base.Ns mainGlobals mg → FnOk l.prog w (K w.params) mg base (L2.CX l.prog w) k fa fd [x] (spD (ecOf (K w.params)) 1 g))
    (hK : ∀ w : World, noList (K w.params) = true) (hg : ∀ ns : List Int, ns.length ≤ 63 → ∃ S, g [.val (.list (ns.map PyData.int))] [] = .ok (.bool true) S) :
    PySem.W.WalkO q loose XP YP l.row.toRowW d [] (fun f vs => PySem.call f vs) :=
  walk_of (CX := fun w => L2.CX l.prog w) (sp := fun w => spD (ecOf (K w.params)) 1 g) hn (by decide) hdf hr hY F (fun w H a ns hl _ hS => sp_law (hK w) hS (hg ns hl)) fun w H s e s' q => cx_none q
end L2.DL

set_option maxHeartbeats 1000000
/-! The plain laws, first part: the helper defs that all laws share, and a kit for reasoning about the evaluator. The FDefs are printed by gen/helpers.py. -/
namespace L2.DL
open PySem PyProof.Rows

/-- is_whole: value -/
def fd_is_whole : FDef := { np := 1, ns := 1, body := (.cons (.ret (.and (.isi (.var 0) [.int]) (.not (.isi (.var 0) [.bool])))) .nil) }
/-- is_told: told, word, count -/
def fd_is_told : FDef := { np := 3, ns := 3, body := (.cons (.ite (.or (.not (.of (.isi (.var 0) [.tuple]))) (.of (.cmp .ne (.bi .len (.var 0)) (.var 2)))) (.cons (.ret (.cst (.bool false))) .nil) .nil) (.cons (.ret (.and (.isi (.idx (.var 0) (.cst (.int 0))) [.str]) (.cmp .eq (.idx (.var 0) (.cst (.int 0))) (.var 1)))) .nil)) }
/-- are_places: value, most, part -/
def fd_are_places : FDef := { np := 2, ns := 3, body := (.cons (.ret (.and (.isi (.var 0) [.tuple]) (.cmp .notin (.cst (.bool false)) (.lc [2] (.and (.call "is_whole" (.cons (.var 2) .nil)) (.chain .le .lt (.cst (.int 0)) (.var 2) (.var 1))) (.one [2] (.seq (.var 0)) .no))))) .nil) }
/-- _law_next: state, limit, cell, value -/
def fd_law_next : FDef := { np := 2, ns := 4, body := (.cons (.ite (.and (.of (.cmp .eq (.cell 0 (.cst (.int 2))) (.cst (.int 0)))) (.of (.cmp .lt (.cell 0 (.cst (.int 1))) (.bi .len (.cell 0 (.cst (.int 0))))))) (.cons (.set 2 (.idx (.cell 0 (.cst (.int 0))) (.cell 0 (.cst (.int 1))))) (.cons (.cellAug 0 (.cst (.int 1)) .add (.cst (.int 1))) (.cons (.ite (.of (.cmp .ge (.var 2) (.bin .pow (.cst (.int 10)) (.cst (.int 18))))) (.cons (.cellSet 0 (.cst (.int 2)) (.var 2)) .nil) (.cons (.cellSet 0 (.cst (.int 3)) (.bin .mod (.bi .int (.bin .add (.bin .add (.bin .mul (.cell 0 (.cst (.int 3))) (.cst (.int 48271))) (.bin .mod (.bi .int (.var 2)) (.cst (.int 2147483647)))) (.cst (.int 7)))) (.cst (.int 2147483647)))) .nil)) .nil))) .nil) (.cons (.ite (.of (.cmp .gt (.cell 0 (.cst (.int 2))) (.cst (.int 0)))) (.cons (.set 3 (.bin .mod (.bi .int (.cell 0 (.cst (.int 2)))) (.var 1))) (.cons (.cellSet 0 (.cst (.int 2)) (.bin .fdiv (.cell 0 (.cst (.int 2))) (.var 1))) (.cons (.ret (.var 3)) .nil))) .nil) (.cons (.cellSet 0 (.cst (.int 3)) (.bin .mod (.bi .int (.bin .add (.bin .mul (.cell 0 (.cst (.int 3))) (.cst (.int 69621))) (.cst (.int 12345)))) (.cst (.int 2147483647)))) (.cons (.ret (.bin .mod (.bi .int (.bin .fdiv (.cell 0 (.cst (.int 3))) (.cst (.int 7)))) (.var 1))) .nil)))) }
/-- _law_same: actual, expected, k -/
def fd_law_same : FDef := { np := 2, ns := 3, body := (.cons (.ite (.of (.cmp .isNone (.var 1) (.cst .none))) (.cons (.ret (.cmp .isNone (.var 0) (.cst .none))) .nil) .nil) (.cons (.ite (.of (.isi (.var 1) [.bool])) (.cons (.ret (.and (.isi (.var 0) [.bool]) (.cmp .eq (.var 0) (.var 1)))) .nil) .nil) (.cons (.ite (.of (.isi (.var 1) [.int])) (.cons (.ret (.and (.isi (.var 0) [.int]) (.and (.not (.isi (.var 0) [.bool])) (.cmp .eq (.var 0) (.var 1))))) .nil) .nil) (.cons (.ite (.of (.isi (.var 1) [.str])) (.cons (.ret (.and (.isi (.var 0) [.str]) (.cmp .eq (.var 0) (.var 1)))) .nil) .nil) (.cons (.ite (.and (.of (.isi (.var 1) [.tuple])) (.not (.of (.isi (.var 0) [.tuple])))) (.cons (.ret (.cst (.bool false))) .nil) .nil) (.cons (.ite (.and (.of (.isi (.var 1) [.list])) (.not (.of (.isi (.var 0) [.list])))) (.cons (.ret (.cst (.bool false))) .nil) .nil) (.cons (.ite (.of (.cmp .ne (.bi .len (.var 0)) (.bi .len (.var 1)))) (.cons (.ret (.cst (.bool false))) .nil) .nil) (.cons (.forr [2] (.range1 (.bi .len (.var 1))) (.cons (.ite (.not (.of (.call "_law_same" (.cons (.idx (.var 0) (.var 2)) (.cons (.idx (.var 1) (.var 2)) .nil))))) (.cons (.ret (.cst (.bool false))) .nil) .nil) .nil)) (.cons (.ret (.cst (.bool true))) .nil))))))))) }
/-- _law_is_whole: value -/
def fd_law_is_whole : FDef := { np := 1, ns := 1, body := (.cons (.ret (.and (.isi (.var 0) [.int]) (.not (.isi (.var 0) [.bool])))) .nil) }
/-- _law_is_place: value, most -/
def fd_law_is_place : FDef := { np := 2, ns := 2, body := (.cons (.ret (.and (.call "_law_is_whole" (.cons (.var 0) .nil)) (.chain .le .lt (.cst (.int 0)) (.var 0) (.var 1)))) .nil) }
/-- _law_are_places: value, most, part -/
def fd_law_are_places : FDef := { np := 2, ns := 3, body := (.cons (.ret (.and (.isi (.var 0) [.tuple]) (.cmp .eq (.lc [2] (.var 2) (.one [2] (.seq (.var 0)) (.one (.not (.of (.call "_law_is_place" (.cons (.var 2) (.cons (.var 1) .nil)))))))) (.lst .nil)))) .nil) }
/-- _law_is: told, word, count -/
def fd_law_is : FDef := { np := 3, ns := 3, body := (.cons (.ret (.and (.isi (.var 0) [.tuple]) (.and (.cmp .eq (.bi .len (.var 0)) (.var 2)) (.and (.isi (.idx (.var 0) (.cst (.int 0))) [.str]) (.cmp .eq (.idx (.var 0) (.cst (.int 0))) (.var 1)))))) .nil) }
/-- _law_changed: state, value, k, j, more, others, turn -/
def fd_law_changed : FDef := { np := 2, ns := 7, body := (.cons (.ite (.of (.isi (.var 1) [.bool])) (.cons (.ret (.idx (.lst (.cons (.not (.var 1)) (.cons (.bi .int (.var 1)) .nil))) (.call "_law_next" (.cons (.rf 0) (.cons (.cst (.int 2)) .nil))))) .nil) .nil) (.cons (.ite (.or (.of (.cmp .isNone (.var 1) (.cst .none))) (.of (.isi (.var 1) [.int]))) (.cons (.ret (.idx (.lst (.cons (.bin .add (.orv (.var 1) (.cst (.int 0))) (.cst (.int 1))) (.cons (.bin .sub (.orv (.var 1) (.cst (.int 0))) (.cst (.int 1))) (.cons (.cst (.int 0)) (.cons (.cst .none) (.cons (.cmp .eq (.var 1) (.cst (.int 1))) (.cons (.bi .str (.var 1)) (.cons (.bin .mul (.cst (.int 2)) (.orv (.var 1) (.cst (.int 1)))) .nil)))))))) (.call "_law_next" (.cons (.rf 0) (.cons (.cst (.int 7)) .nil))))) .nil) .nil) (.cons (.ite (.of (.isi (.var 1) [.str])) (.cons (.set 5 (.lst (.cons (.sli (.var 1) (.one (.cst (.int 1))) .no) (.cons (.bin .add (.var 1) (.cst (.str "a"))) (.cons (.rev (.var 1)) (.cons (.bin .add (.cst (.str "b")) (.var 1)) (.cons (.cst (.str "")) (.cons (.sli (.var 1) .no (.one (.neg (.cst (.int 1))))) (.cons (.cst (.str "left")) (.cons (.cst (.int 3)) (.cons (.cst (.str "in")) .nil))))))))))) (.cons (.ret (.idx (.var 5) (.call "_law_next" (.cons (.rf 0) (.cons (.bi .len (.var 5)) .nil))))) .nil)) .nil) (.cons (.ite (.and (.of (.isi (.var 1) [.tuple])) (.and (.of (.cmp .ne (.var 1) (.tup .nil))) (.of (.cmp .gt (.call "_law_next" (.cons (.rf 0) (.cons (.cst (.int 4)) .nil))) (.cst (.int 0)))))) (.cons (.set 2 (.call "_law_next" (.cons (.rf 0) (.cons (.bi .len (.var 1)) .nil)))) (.cons (.ret (.bin .add (.bin .add (.sli (.var 1) .no (.one (.var 2))) (.tup (.cons (.call "_law_changed" (.cons (.rf 0) (.cons (.idx (.var 1) (.var 2)) .nil))) .nil))) (.sli (.var 1) (.one (.bin .add (.var 2) (.cst (.int 1)))) .no))) .nil)) .nil) (.cons (.ite (.not (.of (.isi (.var 1) [.tuple]))) (.cons (.ret (.tup .nil)) .nil) .nil) (.cons (.set 2 (.call "_law_next" (.cons (.rf 0) (.cons (.bin .add (.bi .len (.var 1)) (.cst (.int 1))) .nil)))) (.cons (.set 3 (.call "_law_next" (.cons (.rf 0) (.cons (.bin .add (.bi .len (.var 1)) (.cst (.int 1))) .nil)))) (.cons (.set 4 (.lst (.cons (.bin .add (.sli (.var 1) .no (.one (.var 2))) (.sli (.var 1) (.one (.bin .add (.var 2) (.cst (.int 1)))) .no)) (.cons (.bin .add (.var 1) (.sli (.var 1) .no (.one (.cst (.int 1))))) (.cons (.rev (.var 1)) (.cons (.bin .add (.sli (.var 1) (.one (.var 2)) .no) (.sli (.var 1) .no (.one (.var 2)))) (.cons (.bi .list (.var 1)) (.cons (.sli (.var 1) .no (.one (.var 2))) (.cons (.tup .nil) (.cons (.bin .add (.var 1) (.tup (.cons (.cst (.int 0)) .nil))) .nil)))))))))) (.cons (.ite (.of (.chain .lt .lt (.var 2) (.var 3) (.bi .len (.var 1)))) (.cons (.set 4 (.bin .add (.var 4) (.lc [6] (.bin .add (.bin .add (.bin .add (.bin .add (.sli (.var 1) .no (.one (.var 2))) (.sli (.var 1) (.one (.var 3)) (.one (.bin .add (.var 3) (.cst (.int 1)))))) (.sli (.var 1) (.one (.bin .add (.var 2) (.cst (.int 1)))) (.one (.var 3)))) (.sli (.var 1) (.one (.var 2)) (.one (.bin .add (.var 2) (.cst (.int 1)))))) (.sli (.var 1) (.one (.bin .add (.var 3) (.cst (.int 1)))) .no)) (.one [6] (.range1 (.cst (.int 3))) .no)))) .nil) .nil) (.cons (.ret (.idx (.var 4) (.call "_law_next" (.cons (.rf 0) (.cons (.bi .len (.var 4)) .nil))))) .nil)))))))))) }
/-- _law_ints: value, found, part, number -/
def fd_law_ints : FDef := { np := 1, ns := 4, body := (.cons (.ite (.or (.of (.isi (.var 0) [.bool])) (.not (.of (.isi (.var 0) [.int, .tuple])))) (.cons (.ret (.lst .nil)) .nil) .nil) (.cons (.ite (.of (.isi (.var 0) [.int])) (.cons (.ret (.lst (.cons (.var 0) .nil))) .nil) .nil) (.cons (.set 1 (.lst .nil)) (.cons (.forr [2] (.seq (.var 0)) (.cons (.set 1 (.bin .add (.var 1) (.lc [3] (.var 3) (.one [3] (.seq (.call "_law_ints" (.cons (.var 2) .nil))) (.one (.of (.cmp .notin (.var 3) (.var 1)))))))) .nil)) (.cons (.ret (.var 1)) .nil))))) }
/-- _law_exchanged: value, one, other, part -/
def fd_law_exchanged : FDef := { np := 3, ns := 4, body := (.cons (.ite (.or (.of (.isi (.var 0) [.bool])) (.not (.of (.isi (.var 0) [.int, .tuple])))) (.cons (.ret (.var 0)) .nil) .nil) (.cons (.ite (.of (.isi (.var 0) [.int])) (.cons (.ret (.ite (.of (.cmp .eq (.var 0) (.var 1))) (.var 2) (.ite (.of (.cmp .eq (.var 0) (.var 2))) (.var 1) (.var 0)))) .nil) .nil) (.cons (.ret (.bi .tuple (.lc [3] (.call "_law_exchanged" (.cons (.var 3) (.cons (.var 1) (.cons (.var 2) .nil)))) (.one [3] (.seq (.var 0)) .no)))) .nil))) }
/-- _law_cut: state, value, k, at, ways, part -/
def fd_law_cut : FDef := { np := 2, ns := 6, body := (.cons (.ite (.or (.not (.of (.isi (.var 1) [.tuple]))) (.of (.cmp .eq (.var 1) (.tup .nil)))) (.cons (.ret (.var 1)) .nil) .nil) (.cons (.ite (.of (.cmp .ne (.lc [5] (.var 5) (.one [5] (.seq (.var 1)) (.one (.not (.of (.isi (.var 5) [.str])))))) (.lst .nil))) (.cons (.set 2 (.call "_law_next" (.cons (.rf 0) (.cons (.bi .len (.var 1)) .nil)))) (.cons (.ret (.bin .add (.bin .add (.sli (.var 1) .no (.one (.var 2))) (.tup (.cons (.call "_law_cut" (.cons (.rf 0) (.cons (.idx (.var 1) (.var 2)) .nil))) .nil))) (.sli (.var 1) (.one (.bin .add (.var 2) (.cst (.int 1)))) .no))) .nil)) .nil) (.cons (.set 2 (.call "_law_next" (.cons (.rf 0) (.cons (.bi .len (.var 1)) .nil)))) (.cons (.set 3 (.call "_law_next" (.cons (.rf 0) (.cons (.bin .add (.bi .len (.idx (.var 1) (.var 2))) (.cst (.int 1))) .nil)))) (.cons (.set 4 (.lst (.cons (.bin .add (.bin .add (.sli (.var 1) .no (.one (.var 2))) (.tup (.cons (.sli (.idx (.var 1) (.var 2)) .no (.one (.var 3))) (.cons (.sli (.idx (.var 1) (.var 2)) (.one (.var 3)) .no) .nil)))) (.sli (.var 1) (.one (.bin .add (.var 2) (.cst (.int 1)))) .no)) (.cons (.bin .add (.bin .add (.sli (.var 1) .no (.one (.var 2))) (.tup (.cons (.mth .join (.cst (.str "")) (.cons (.sli (.var 1) (.one (.var 2)) (.one (.bin .add (.var 2) (.cst (.int 2))))) .nil)) .nil))) (.sli (.var 1) (.one (.bin .add (.var 2) (.cst (.int 2)))) .no)) .nil)))) (.cons (.set 4 (.bin .add (.var 4) (.lst (.cons (.tup (.cons (.mth .join (.cst (.str "")) (.cons (.var 1) .nil)) .nil)) (.cons (.bi .tuple (.mth .join (.cst (.str "")) (.cons (.var 1) .nil))) (.cons (.bin .add (.bin .add (.sli (.var 1) .no (.one (.var 2))) (.tup (.cons (.cst (.str "")) .nil))) (.sli (.var 1) (.one (.var 2)) .no)) (.cons (.bin .add (.bin .add (.sli (.var 1) .no (.one (.var 2))) (.rev (.sli (.var 1) (.one (.var 2)) (.one (.bin .add (.var 2) (.cst (.int 2))))))) (.sli (.var 1) (.one (.bin .add (.var 2) (.cst (.int 2)))) .no)) .nil))))))) (.cons (.ret (.idx (.var 4) (.call "_law_next" (.cons (.rf 0) (.cons (.bi .len (.var 4)) .nil))))) .nil))))))) }
/-- _law_turned_about: state, told, numbers, pick, one, other, k, j, part -/
def fd_law_turned_about : FDef := { np := 2, ns := 9, body := (.cons (.set 2 (.call "_law_ints" (.cons (.var 1) .nil))) (.cons (.set 3 (.call "_law_next" (.cons (.rf 0) (.cons (.cst (.int 5)) .nil)))) (.cons (.ite (.and (.of (.cmp .lt (.var 3) (.cst (.int 3)))) (.of (.cmp .ne (.var 2) (.lst .nil)))) (.cons (.set 4 (.idx (.var 2) (.call "_law_next" (.cons (.rf 0) (.cons (.bi .len (.var 2)) .nil))))) (.cons (.set 5 (.ite (.of (.cmp .eq (.var 3) (.cst (.int 0)))) (.bin .add (.var 4) (.cst (.int 1))) (.idx (.var 2) (.call "_law_next" (.cons (.rf 0) (.cons (.bi .len (.var 2)) .nil)))))) (.cons (.ret (.call "_law_exchanged" (.cons (.var 1) (.cons (.var 4) (.cons (.var 5) .nil))))) .nil))) .nil) (.cons (.ite (.of (.cmp .eq (.var 3) (.cst (.int 3)))) (.cons (.ret (.bin .add (.sli (.var 1) .no (.one (.cst (.int 1)))) (.ite (.of (.cmp .gt (.bi .len (.var 1)) (.cst (.int 2)))) (.call "_law_cut" (.cons (.rf 0) (.cons (.sli (.var 1) (.one (.cst (.int 1))) .no) .nil))) (.bi .tuple (.lc [8] (.call "_law_cut" (.cons (.rf 0) (.cons (.var 8) .nil))) (.one [8] (.seq (.sli (.var 1) (.one (.cst (.int 1))) .no)) .no)))))) .nil) .nil) (.cons (.par 6 7 (.cons (.call "_law_next" (.cons (.rf 0) (.cons (.bi .len (.var 1)) .nil))) (.cons (.call "_law_next" (.cons (.rf 0) (.cons (.bi .len (.var 1)) .nil))) .nil))) (.cons (.ite (.and (.of (.cmp .eq (.bi .len (.var 1)) (.cst (.int 2)))) (.and (.of (.isi (.idx (.var 1) (.cst (.int 1))) [.tuple])) (.of (.cmp .ne (.idx (.var 1) (.cst (.int 1))) (.tup .nil))))) (.cons (.par 6 7 (.cons (.call "_law_next" (.cons (.rf 0) (.cons (.bi .len (.idx (.var 1) (.cst (.int 1)))) .nil))) (.cons (.call "_law_next" (.cons (.rf 0) (.cons (.bi .len (.idx (.var 1) (.cst (.int 1)))) .nil))) .nil))) (.cons (.ret (.tup (.cons (.idx (.var 1) (.cst (.int 0))) (.cons (.bin .add (.bin .add (.sli (.idx (.var 1) (.cst (.int 1))) .no (.one (.var 6))) (.sli (.idx (.var 1) (.cst (.int 1))) (.one (.var 7)) (.one (.bin .add (.var 7) (.cst (.int 1)))))) (.sli (.idx (.var 1) (.cst (.int 1))) (.one (.bin .add (.var 6) (.cst (.int 1)))) .no)) .nil)))) .nil)) .nil) (.cons (.ret (.ite (.and (.of (.cmp .gt (.var 6) (.cst (.int 0)))) (.of (.cmp .gt (.var 7) (.cst (.int 0))))) (.bin .add (.bin .add (.sli (.var 1) .no (.one (.var 6))) (.sli (.var 1) (.one (.var 7)) (.one (.bin .add (.var 7) (.cst (.int 1)))))) (.sli (.var 1) (.one (.bin .add (.var 6) (.cst (.int 1)))) .no)) (.var 1))) .nil))))))) }
/-- _law_odd: state, told, odd, pick -/
def fd_law_odd : FDef := { np := 2, ns := 4, body := (.cons (.set 2 (.lst (.cons (.cst .none) (.cons (.cst (.str "")) (.cons (.cst (.str "yes")) (.cons .edict (.cons (.tup .nil) (.cons (.sli (.var 1) .no (.one (.cst (.int 1)))) (.cons (.bi .list (.var 1)) (.cons (.bin .add (.var 1) (.tup (.cons (.cst (.int 0)) .nil))) (.cons (.bin .add (.tup (.cons (.lst (.cons (.idx (.var 1) (.cst (.int 0))) .nil)) .nil)) (.sli (.var 1) (.one (.cst (.int 1))) .no)) (.cons (.bin .add (.tup (.cons (.cst (.str "none such")) .nil)) (.sli (.var 1) (.one (.cst (.int 1))) .no)) (.cons (.cst (.int 7)) .nil))))))))))))) (.cons (.set 3 (.call "_law_next" (.cons (.rf 0) (.cons (.cst (.int 9)) .nil)))) (.cons (.ite (.of (.cmp .gt (.var 3) (.cst (.int 4)))) (.cons (.ret (.call "_law_turned_about" (.cons (.rf 0) (.cons (.var 1) .nil)))) .nil) .nil) (.cons (.ret (.ite (.of (.cmp .eq (.var 3) (.cst (.int 0)))) (.idx (.var 2) (.call "_law_next" (.cons (.rf 0) (.cons (.bi .len (.var 2)) .nil)))) (.call "_law_changed" (.cons (.rf 0) (.cons (.var 1) .nil))))) .nil)))) }
/-- _law_are_pairs_in: value, count, entry -/
def fd_law_are_pairs_in : FDef := { np := 2, ns := 3, body := (.cons (.ret (.and (.isi (.var 0) [.tuple]) (.cmp .eq (.lc [2] (.var 2) (.one [2] (.seq (.var 0)) (.one (.or (.not (.of (.isi (.var 2) [.tuple]))) (.of (.cmp .ne (.bi .len (.var 2)) (.var 1))))))) (.lst .nil)))) .nil) }
/-- _law_neighbour: state, value, step, k, x -/
def fd_law_neighbour : FDef := { np := 2, ns := 5, body := (.cons (.set 2 (.idx (.lst (.cons (.cst (.int 1)) (.cons (.neg (.cst (.int 1))) .nil))) (.call "_law_next" (.cons (.rf 0) (.cons (.cst (.int 2)) .nil))))) (.cons (.ite (.or (.of (.isi (.var 1) [.str])) (.of (.cmp .eq (.var 1) (.tup .nil)))) (.cons (.ret (.var 1)) .nil) .nil) (.cons (.ite (.of (.isi (.var 1) [.int])) (.cons (.ret (.bin .add (.var 1) (.var 2))) .nil) .nil) (.cons (.ite (.and (.of (.cmp .eq (.bi .len (.var 1)) (.cst (.int 2)))) (.and (.of (.isi (.idx (.var 1) (.cst (.int 0))) [.tuple])) (.and (.of (.call "_law_are_pairs_in" (.cons (.idx (.var 1) (.cst (.int 1))) (.cons (.cst (.int 2)) .nil)))) (.of (.cmp .eq (.lc [4] (.var 4) (.one [4] (.seq (.idx (.var 1) (.cst (.int 0)))) (.one (.not (.of (.isi (.var 4) [.str])))))) (.lst .nil)))))) (.cons (.set 3 (.call "_law_next" (.cons (.rf 0) (.cons (.bin .add (.bi .len (.idx (.var 1) (.cst (.int 1)))) (.cst (.int 1))) .nil)))) (.cons (.ret (.tup (.cons (.idx (.var 1) (.cst (.int 0))) (.cons (.bin .add (.sli (.idx (.var 1) (.cst (.int 1))) .no (.one (.var 3))) (.sli (.idx (.var 1) (.cst (.int 1))) (.one (.bin .add (.var 3) (.cst (.int 1)))) .no)) .nil)))) .nil)) .nil) (.cons (.set 3 (.call "_law_next" (.cons (.rf 0) (.cons (.bi .len (.var 1)) .nil)))) (.cons (.ite (.and (.of (.isi (.idx (.var 1) (.var 3)) [.int])) (.of (.cmp .gt (.call "_law_next" (.cons (.rf 0) (.cons (.cst (.int 3)) .nil))) (.cst (.int 0))))) (.cons (.ret (.bin .add (.bin .add (.sli (.var 1) .no (.one (.var 3))) (.tup (.cons (.bin .add (.idx (.var 1) (.var 3)) (.var 2)) .nil))) (.sli (.var 1) (.one (.bin .add (.var 3) (.cst (.int 1)))) .no))) .nil) .nil) (.cons (.ret (.bin .add (.sli (.var 1) .no (.one (.var 3))) (.sli (.var 1) (.one (.bin .add (.var 3) (.cst (.int 1)))) .no))) .nil))))))) }
/-- _law_all_names: value, found, part, name -/
def fd_law_all_names : FDef := { np := 1, ns := 4, body := (.cons (.ite (.of (.isi (.var 0) [.str])) (.cons (.ret (.lst (.cons (.var 0) .nil))) .nil) .nil) (.cons (.set 1 (.lst .nil)) (.cons (.forr [2] (.seq (.ite (.of (.isi (.var 0) [.tuple])) (.var 0) (.tup .nil))) (.cons (.set 1 (.bin .add (.var 1) (.lc [3] (.var 3) (.one [3] (.seq (.call "_law_all_names" (.cons (.var 2) .nil))) (.one (.of (.cmp .notin (.var 3) (.var 1)))))))) .nil)) (.cons (.ret (.var 1)) .nil)))) }
/-- _law_swapped: value, one_name, other_name, part -/
def fd_law_swapped : FDef := { np := 3, ns := 4, body := (.cons (.ite (.of (.isi (.var 0) [.str])) (.cons (.ret (.ite (.of (.cmp .eq (.var 0) (.var 1))) (.var 2) (.ite (.of (.cmp .eq (.var 0) (.var 2))) (.var 1) (.var 0)))) .nil) .nil) (.cons (.ret (.ite (.of (.isi (.var 0) [.tuple])) (.bi .tuple (.lc [3] (.call "_law_swapped" (.cons (.var 3) (.cons (.var 1) (.cons (.var 2) .nil)))) (.one [3] (.seq (.var 0)) .no))) (.var 0))) .nil)) }

end L2.DL

set_option maxHeartbeats 1000000
/-! The plain laws, second part: what ends well, and the rules for it. -/
namespace L2.DL
open PySem PyProof.Rows

def Ok {α : Type} (m : Mn α) (S : Store) (Q : α → Store → Prop) : Prop := ∃ a S', m S = .ok a S' ∧ Q a S'
def Ends (r : SRes) (Q : Flow → Env → Store → Prop) : Prop := ∃ f ρ S, r = .fin f ρ S ∧ Q f ρ S
section
variable {α β : Type} {m : Mn α} {k : α → Mn β} {S : Store} {Q R : α → Store → Prop} {P : β → Store → Prop}
theorem Ok.mono (h : Ok m S Q) (hq : ∀ a S', Q a S' → R a S') : Ok m S R := by
  obtain ⟨a, S', h1, h2⟩ := h
  exact ⟨a, S', h1, hq a S' h2⟩
theorem ok_pure {a : α} : Ok (Mn.pure a) S Q ↔ Q a S := by
  constructor
  · rintro ⟨b, S', h1, h2⟩
    cases h1
    exact h2
  · intro h
    exact ⟨a, S, rfl, h⟩
theorem ok_stuck : Ok (Mn.stuck : Mn α) S Q ↔ False := by
  constructor
  · rintro ⟨b, S', h1, h2⟩
    cases h1
  · intro h
    exact h.elim
theorem ok_bind : Ok (Mn.bind m k) S P ↔ Ok m S (fun a S' => Ok (k a) S' P) := by
  constructor
  · rintro ⟨b, S', h1, h2⟩
    unfold Mn.bind at h1
    cases e : m S with
    | ok a S1 => rw [e] at h1; exact ⟨a, S1, e, b, S', h1, h2⟩
    | exc c S1 => rw [e] at h1; cases h1
    | stuck => rw [e] at h1; cases h1
  · rintro ⟨a, S1, e, b, S', h1, h2⟩
    refine ⟨b, S', ?_, h2⟩
    unfold Mn.bind
    rw [e]
    exact h1
theorem ok_some {a : α} : Ok (ofOpt (some a)) S Q ↔ Q a S := ok_pure
theorem ok_none : Ok (ofOpt (none : Option α)) S Q ↔ False := ok_stuck
theorem ok_opt {o : Option α} : Ok (ofOpt o) S Q ↔ ∃ a, o = some a ∧ Q a S := by
  cases o with
  | none =>
    rw [ok_none]
    constructor
    · exact False.elim
    · rintro ⟨a, h, _⟩
      cases h
  | some a =>
    rw [ok_some]
    constructor
    · exact fun h => ⟨a, rfl, h⟩
    · rintro ⟨b, h, h2⟩
      cases h
      exact h2
theorem ok_calm : Ok (Mn.calm m) S Q ↔ Ok m S Q := by
  unfold Ok Mn.calm
  constructor
  · rintro ⟨a, S', h1, h2⟩
    cases e : m S with
    | ok b S1 => simp only [e] at h1; cases h1; exact ⟨a, S', rfl, h2⟩
    | exc c S1 => simp only [e] at h1; cases h1
    | stuck => simp only [e] at h1; cases h1
  · rintro ⟨a, S', h1, h2⟩
    refine ⟨a, S', ?_, h2⟩
    rw [h1]
theorem ok_eq {a : α} {S' : Store} (h : m S = .ok a S') : Ok m S Q ↔ Q a S' := by
  constructor
  · rintro ⟨b, S1, h1, h2⟩
    rw [h] at h1
    cases h1
    exact h2
  · intro hq
    exact ⟨a, S', h, hq⟩
end
section
variable {α : Type} {m : Mn α} {ρ : Env} {S : Store} {k : α → Store → SRes} {Q R : Flow → Env → Store → Prop}
theorem Ends.mono {r : SRes} (h : Ends r Q) (hq : ∀ f ρ S', Q f ρ S' → R f ρ S') : Ends r R := by
  obtain ⟨a, p, S', h1, h2⟩ := h
  exact ⟨a, p, S', h1, hq a p S' h2⟩
theorem oks_fin {f : Flow} : Ends (.fin f ρ S) Q ↔ Q f ρ S := by
  constructor
  · rintro ⟨b, p, S', h1, h2⟩
    cases h1
    exact h2
  · intro h
    exact ⟨f, ρ, S, rfl, h⟩
theorem oks_stuck : Ends .stuck Q ↔ False := by
  constructor
  · rintro ⟨b, p, S', h1, h2⟩
    cases h1
  · intro h
    exact h.elim
theorem oks_exc {c : Nat} : Ends (.exc c ρ S) Q ↔ False := by
  constructor
  · rintro ⟨b, p, S', h1, h2⟩
    cases h1
  · intro h
    exact h.elim
theorem oks_lift : Ends (liftE m ρ k S) Q ↔ Ok m S (fun a S' => Ends (k a S') Q) := by
  unfold liftE
  constructor
  · rintro ⟨f, p, S', h1, h2⟩
    cases e : m S with
    | ok a S1 => simp only [e] at h1; exact ⟨a, S1, e, f, p, S', h1, h2⟩
    | exc c S1 => simp only [e] at h1; cases h1
    | stuck => simp only [e] at h1; cases h1
  · rintro ⟨a, S1, e, f, p, S', h1, h2⟩
    refine ⟨f, p, S', ?_, h2⟩
    rw [e]
    exact h1
/-- go on behind a statement -/
def thenQ (Φ : Call) (r : Ss) (Q : Flow → Env → Store → Prop) : Flow → Env → Store → Prop
  | .next, ρ, S => Ends (evSs Φ r ρ S) Q
  | f, ρ, S => Q f ρ S
variable {Φ : Call}
theorem thenQ_next {r : Ss} : thenQ Φ r Q .next ρ S = Ends (evSs Φ r ρ S) Q := rfl
theorem thenQ_ret {r : Ss} {d : PyData} : thenQ Φ r Q (.ret d) ρ S = Q (.ret d) ρ S := rfl
theorem thenQ_brk {r : Ss} : thenQ Φ r Q .brk ρ S = Q .brk ρ S := rfl
theorem thenQ_cont {r : Ss} : thenQ Φ r Q .cont ρ S = Q .cont ρ S := rfl
theorem oks_cons {s : L2.DL.S} {r : Ss} : Ends (evSs Φ (.cons s r) ρ S) Q ↔ Ends (evS Φ s ρ S) (thenQ Φ r Q) := by
  rw [evSs]
  constructor
  · rintro ⟨f, p, S', h1, h2⟩
    cases e : evS Φ s ρ S with
    | stuck => simp only [e] at h1; cases h1
    | exc c p1 S1 => simp only [e] at h1; cases h1
    | fin g p1 S1 =>
      cases g with
      | next => simp only [e] at h1; exact ⟨.next, p1, S1, rfl, f, p, S', h1, h2⟩
      | brk => simp only [e] at h1; cases h1; exact ⟨_, _, _, rfl, h2⟩
      | cont => simp only [e] at h1; cases h1; exact ⟨_, _, _, rfl, h2⟩
      | ret d => simp only [e] at h1; cases h1; exact ⟨_, _, _, rfl, h2⟩
  · rintro ⟨g, p1, S1, e, h⟩
    cases g with
    | next =>
      obtain ⟨f, p, S', h1, h2⟩ := h
      exact ⟨f, p, S', by rw [e]; exact h1, h2⟩
    | brk => exact ⟨_, _, _, by rw [e], h⟩
    | cont => exact ⟨_, _, _, by rw [e], h⟩
    | ret d => exact ⟨_, _, _, by rw [e], h⟩
theorem oks_nil : Ends (evSs Φ .nil ρ S) Q ↔ Q .next ρ S := by
  rw [evSs, oks_fin]
/-- what a def hands back -/
def endQ (Q : PyData → Store → Prop) : Flow → Env → Store → Prop
  | .next, _, S => Q .none S
  | .ret d, _, S => Q d S
  | _, _, _ => False
theorem endQ_ret {Q : PyData → Store → Prop} {d : PyData} : endQ Q (.ret d) ρ S = Q d S := rfl
theorem endQ_next {Q : PyData → Store → Prop} : endQ Q .next ρ S = Q .none S := rfl
theorem ok_run {fd : FDef} {as : List Slot} {Q : PyData → Store → Prop} (hl : as.length = fd.np) : Ok (runDef Φ fd as) S Q ↔ Ends (evSs Φ fd.body (as ++ List.replicate (fd.ns - fd.np) .no) S) (endQ Q) := by
  unfold Ok runDef
  rw [if_pos hl]
  constructor
  · rintro ⟨a, S', h1, h2⟩
    cases e : evSs Φ fd.body (as ++ List.replicate (fd.ns - fd.np) .no) S with
    | stuck => simp only [e] at h1; cases h1
    | exc c p1 S1 => simp only [e] at h1; cases h1
    | fin g p1 S1 =>
      cases g with
      | next => simp only [e] at h1; cases h1; exact ⟨_, _, _, rfl, h2⟩
      | brk => simp only [e] at h1; cases h1
      | cont => simp only [e] at h1; cases h1
      | ret d => simp only [e] at h1; cases h1; exact ⟨_, _, _, rfl, h2⟩
  · rintro ⟨g, p1, S1, e, h⟩
    cases g with
    | next => exact ⟨_, _, by rw [e], h⟩
    | brk => exact h.elim
    | cont => exact h.elim
    | ret d => exact ⟨_, _, by rw [e], h⟩
end
section
variable {tab : Tab} {f : Str} {fd : FDef} {n : Nat} {as : List Slot} {S : Store}
theorem call_run (h : tab f = some fd) : callF tab (n + 1) f as = runDef (callF tab n) fd as := by
  funext S
  unfold callF
  rw [h]
theorem ok_call {Q : PyData → Store → Prop} (h : tab f = some fd) (hl : as.length = fd.np) : Ok (callF tab (n + 1) f as) S Q ↔ Ends (evSs (callF tab n) fd.body (as ++ List.replicate (fd.ns - fd.np) .no) S) (endQ Q) := by
  rw [call_run h, ok_run hl]
end
end L2.DL

set_option maxHeartbeats 1000000
/-! The plain laws, third part: _law_next. -/
namespace L2.DL
open PySem PyProof.Rows

@[simp] theorem sh_int (i : Int) : SeqAt.shaped (.int i) = true := rfl
@[simp] theorem sh_bool (i : Bool) : SeqAt.shaped (.bool i) = true := rfl
@[simp] theorem sh_none : SeqAt.shaped .none = true := rfl
theorem eqD_sh {a b : PyData} (ha : SeqAt.shaped a = true) (hb : SeqAt.shaped b = true) : eqD a b = some (PyData.eqv a b) := by
  unfold eqD
  rw [ha, hb]
  rfl
theorem neD_sh {a b : PyData} (ha : SeqAt.shaped a = true) (hb : SeqAt.shaped b = true) : neD a b = some (!PyData.eqv a b) := by
  unfold neD
  rw [ha, hb]
  rfl
theorem eqv_int (a b : Int) : PyData.eqv (.int a) (.int b) = decide (a = b) := by
  rw [PyData.eqv]
  rfl
theorem eqD_int (a b : Int) : eqD (.int a) (.int b) = some (decide (a = b)) := by
  rw [eqD_sh rfl rfl, eqv_int]
theorem neD_int (a b : Int) : neD (.int a) (.int b) = some (!decide (a = b)) := by
  rw [neD_sh rfl rfl, eqv_int]
theorem ltD_int (a b : Int) : ltD (.int a) (.int b) = some (decide (a < b)) := by
  unfold ltD
  rw [PySem.W.dataLt_int]
  rfl
theorem gtD_int (a b : Int) : gtD (.int a) (.int b) = some (decide (b < a)) := by
  unfold gtD
  rw [PySem.W.dataLt_int]
  rfl
theorem leD_int (a b : Int) : leD (.int a) (.int b) = some (!decide (b < a)) := by
  unfold leD
  rw [PySem.W.dataLt_int]
  rfl
theorem geD_int (a b : Int) : geD (.int a) (.int b) = some (!decide (a < b)) := by
  unfold geD
  rw [PySem.W.dataLt_int]
  rfl
/-- the state of a law -/
def StOk (S : Store) : Prop := ∃ (ns : List Int) (p : Nat) (b c : Nat), p ≤ ns.length ∧ S = [[.list (ns.map PyData.int), .int p, .int b, .int c]]

theorem cMul_l (i j : Int) (h : -(2 ^ 64) < j ∧ j < 2 ^ 64) : cMul i j = true := by
  unfold cMul
  rw [decide_eq_true h.1, decide_eq_true h.2]
  simp
theorem opMul_r (i j : Int) (h : -(2 ^ 64) < j ∧ j < 2 ^ 64) : opMul (.int i) (.int j) = some (.int (i * j)) := by
  show (if cMul i j then some (PyData.int (i * j)) else none) = some (PyData.int (i * j))
  rw [cMul_l i j h]
  rfl
theorem opMod_int (i j : Int) (h : 0 < j) : opMod (.int i) (.int j) = some (.int (i.fmod j)) := by
  show (if j ≠ 0 then some (PyData.int (i.fmod j)) else none) = some (PyData.int (i.fmod j))
  rw [if_pos (by omega)]
theorem opFdiv_int (i j : Int) (h : 0 < j) (h2 : j < 1073741824) : opFdiv (.int i) (.int j) = some (.int (i.fdiv j)) := by
  show (if j ≠ 0 ∧ j.natAbs < 1073741824 then some (PyData.int (i.fdiv j)) else none) = some (PyData.int (i.fdiv j))
  rw [if_pos ⟨by omega, by omega⟩]
theorem pow18 : opPow (.int 10) (.int 18) = some (.int 1000000000000000000) := by
  show (if (0:Int) ≤ 18 ∧ (18:Int) ≤ 1000000 ∧ (10:Int).natAbs < 2 ^ 64 then some (PyData.int ((10:Int) ^ (18:Int).toNat)) else none) = some (PyData.int 1000000000000000000)
  rw [if_pos (by decide)]
  rfl

section
variable {α : Type} {Q : α → Store → Prop} {S : Store}
theorem ok_cell0 {xs : List PyData} {r : Store} {Q : List PyData → Store → Prop} : Ok (getCell 0) (xs :: r) Q ↔ Q xs (xs :: r) := ok_eq rfl
theorem ok_if {b : Bool} {m k : Mn α} : Ok (if b = true then m else k) S Q ↔ (if b = true then Ok m S Q else Ok k S Q) := by
  cases b <;> exact Iff.rfl
theorem oks_if {b : Bool} {m k : SRes} {Q : Flow → Env → Store → Prop} : Ends (if b = true then m else k) Q ↔ (if b = true then Ends m Q else Ends k Q) := by
  cases b <;> exact Iff.rfl
theorem idxl0 {a : PyData} {r : List PyData} : idxD (.list (a :: r)) (.int 0) = some a := by
  show L2.atI (a :: r) 0 = some a
  unfold L2.atI L2.ixN
  rw [if_pos (by omega), if_pos (by simp only [List.length_cons]; omega)]
  rfl
theorem idxl1 {a b : PyData} {r : List PyData} : idxD (.list (a :: b :: r)) (.int 1) = some b := by
  show L2.atI (a :: b :: r) 1 = some b
  unfold L2.atI L2.ixN
  rw [if_pos (by omega), if_pos (by simp only [List.length_cons]; omega)]
  rfl
theorem idxl2 {a b c : PyData} {r : List PyData} : idxD (.list (a :: b :: c :: r)) (.int 2) = some c := by
  show L2.atI (a :: b :: c :: r) 2 = some c
  unfold L2.atI L2.ixN
  rw [if_pos (by omega), if_pos (by simp only [List.length_cons]; omega)]
  rfl
theorem idxl3 {a b c d : PyData} {r : List PyData} : idxD (.list (a :: b :: c :: d :: r)) (.int 3) = some d := by
  show L2.atI (a :: b :: c :: d :: r) 3 = some d
  unfold L2.atI L2.ixN
  rw [if_pos (by omega), if_pos (by simp only [List.length_cons]; omega)]
  rfl
theorem idxt {xs : List PyData} {i : Int} : idxD (.tuple xs) (.int i) = idxD (.list xs) (.int i) := rfl
theorem idxl {xs : List PyData} {i : Nat} {d : PyData} (h : xs[i]? = some d) : idxD (.list xs) (.int i) = some d := by
  show L2.atI xs i = some d
  have hl : i < xs.length := (List.getElem?_eq_some_iff.mp h).1
  unfold L2.atI L2.ixN
  rw [if_pos (by omega), if_pos (by omega)]
  exact h
theorem put1 {a b c d x : PyData} : putIx [a, b, c, d] (.int 1) x = some [a, x, c, d] := rfl
theorem put2 {a b c d x : PyData} : putIx [a, b, c, d] (.int 2) x = some [a, b, x, d] := rfl
theorem put3 {a b c d x : PyData} : putIx [a, b, c, d] (.int 3) x = some [a, b, c, x] := rfl
theorem len_list {xs : List PyData} : lenD (.list xs) = some (.int xs.length) := rfl
theorem len_tuple {xs : List PyData} : lenD (.tuple xs) = some (.int xs.length) := rfl
theorem add_int {i j : Int} : opAdd (.int i) (.int j) = some (.int (i + j)) := rfl
theorem sub_int {i j : Int} : opSub (.int i) (.int j) = some (.int (i - j)) := rfl
theorem aadd_int {i j : Int} : augD .add (.int i) (.int j) = some (.int (i + j)) := rfl
theorem asub_int {i j : Int} : augD .sub (.int i) (.int j) = some (.int (i - j)) := rfl
theorem int_int {i : Int} : intD (.int i) = some (.int i) := rfl
theorem int_bool {b : Bool} : intD (.bool b) = some (.int (if b then 1 else 0)) := rfl
theorem tru_bool {b : Bool} : truD (.bool b) = some b := rfl
theorem tru_int {b : Int} : truD (.int b) = some (b != 0) := rfl
theorem tru_none : truD .none = some false := rfl
theorem tru_list {xs : List PyData} : truD (.list xs) = some (!xs.isEmpty) := rfl
theorem tru_tuple {xs : List PyData} : truD (.tuple xs) = some (!xs.isEmpty) := rfl
end
open Lean in
local macro_rules
  | `(tactic| simp_arith) => `(tactic| simp_arith [])
  | `(tactic| simp_arith [$ls,*]) => `(tactic| simp only [List.cons_append, List.nil_append, Nat.reduceSub, List.replicate, oks_cons, oks_nil, oks_fin, oks_lift, evS, evT, evE, evO, evEs, evAs, ok_bind, ok_pure, ok_some, getRef, getVal, getOwn, List.getElem?_cons_zero, List.getElem?_cons_succ, List.set_cons_zero, List.set_cons_succ, ok_cell0,
    thenQ_next, thenQ_ret, endQ_ret, endQ_next, idxl0, idxl1, idxl2, idxl3, put1, put2, put3, biD, binD, cmpD, len_list, len_tuple, add_int, sub_int, aadd_int, asub_int, int_int, int_bool, tru_bool, tru_int, tru_none, tru_list, tru_tuple, eqD_int, neD_int, ltD_int, leD_int, gtD_int, geD_int, pow18, if_true, if_false, Bool.false_eq_true, Bool.not_false, Bool.not_true, ↓reduceIte, $ls,*])
section
variable {tab : Tab} {n : Nat} {S : Store}
theorem law_next_ok (h : tab "_law_next" = some fd_law_next) {L : Nat} (h0 : 0 < L) (h1 : L < 1073741824) (hs : StOk S) :
    Ok (callF tab (n + 1) "_law_next" [.ref 0, .val (.int L)]) S (fun d S' => ∃ r : Nat, r < L ∧ d = .int r ∧ StOk S') := by
  obtain ⟨ns, p, b, c, hp, rfl⟩ := hs
  rw [ok_call h rfl]
  have hL : (0 : Int) < L := by omega
  have hL2 : (L : Int) < 1073741824 := by omega
  have m1 : ∀ i, opMul (.int i) (.int 48271) = some (.int (i * 48271)) := fun i => opMul_r i _ (by decide)
  have m2 : ∀ i, opMul (.int i) (.int 69621) = some (.int (i * 69621)) := fun i => opMul_r i _ (by decide)
  have m3 : ∀ i, opMod (.int i) (.int 2147483647) = some (.int (i.fmod 2147483647)) := fun i => opMod_int i _ (by decide)
  have m4 : ∀ i, opMod (.int i) (.int L) = some (.int (i.fmod L)) := fun i => opMod_int i _ hL
  have m5 : ∀ i, opFdiv (.int i) (.int L) = some (.int (i.fdiv L)) := fun i => opFdiv_int i _ hL hL2
  have m6 : ∀ i, opFdiv (.int i) (.int 7) = some (.int (i.fdiv 7)) := fun i => opFdiv_int i _ (by decide) (by decide)
  -- what comes behind the first if
  have tail : ∀ (ns : List Int) (p b c : Nat) (w : Slot), p ≤ ns.length → Ends (evSs (callF tab n) (match fd_law_next.body with | .cons _ r => r | .nil => .nil) [.ref 0, .val (.int L), w, .no] [[.list (ns.map PyData.int), .int p, .int b, .int c]])
      (endQ fun d S' => ∃ r : Nat, r < L ∧ d = .int r ∧ StOk S') := by
    intro ns p b c w hp
    simp_arith [fd_law_next, m1, m2, m3, m4, m5, m6]
    rw [oks_if]
    split
    · simp_arith [m1, m2, m3, m4, m5, m6]
      have e1 : 0 ≤ (b : Int).fmod L := Int.fmod_nonneg (by omega) (by omega)
      have e2 : (b : Int).fmod L < L := Int.fmod_lt_of_pos _ hL
      have e3 : 0 ≤ (b : Int).fdiv L := Int.fdiv_nonneg (by omega) (by omega)
      refine ⟨((b : Int).fmod L).toNat, by omega, by rw [Int.toNat_of_nonneg e1], ns, p, ((b : Int).fdiv L).toNat, c, hp, ?_⟩
      rw [Int.toNat_of_nonneg e3]
    · simp_arith [m1, m2, m3, m4, m5, m6]
      have e1 : 0 ≤ ((((c : Int) * 69621 + 12345).fmod 2147483647).fdiv 7).fmod L := Int.fmod_nonneg_of_pos _ hL
      have e2 : ((((c : Int) * 69621 + 12345).fmod 2147483647).fdiv 7).fmod L < L := Int.fmod_lt_of_pos _ hL
      have e3 : 0 ≤ ((c : Int) * 69621 + 12345).fmod 2147483647 := Int.fmod_nonneg_of_pos _ (by decide)
      refine ⟨_, ?_, (by rw [Int.toNat_of_nonneg e1]), ns, p, b, (((c : Int) * 69621 + 12345).fmod 2147483647).toNat, hp, ?_⟩
      · omega
      · rw [Int.toNat_of_nonneg e3]
  show Ends (evSs _ (.cons _ _) _ _) _
  rw [oks_cons]
  refine Ends.mono (Q := fun f ρ' S' => f = .next ∧ ∃ (p b c : Nat) (w : Slot), p ≤ ns.length ∧ ρ' = [.ref 0, .val (.int L), w, .no] ∧ S' = [[.list (ns.map PyData.int), .int p, .int b, .int c]]) ?_ ?_
  · simp_arith [fd_law_next, m1, m2, m3, m4, m5, m6]
    by_cases hb : b = 0
    · by_cases hq : p < ns.length
      · subst hb
        have hi : idxD (.list (ns.map PyData.int)) (.int p) = some (.int ns[p]) := idxl (by rw [List.getElem?_map, List.getElem?_eq_getElem hq]; rfl)
        have hd1 : decide (((0 : Nat) : Int) = 0) = true := rfl
        have hd2 : decide ((p : Int) < (ns.length : Int)) = true := decide_eq_true (by omega)
        simp_arith [List.length_map, hi, hd1, hd2]
        rw [oks_if]
        split
        · next hc =>
          simp_arith [true_and]
          have hc2 : 1000000000000000000 ≤ ns[p] := by
            simp only [Bool.not_eq_true', decide_eq_false_iff_not] at hc
            omega
          refine ⟨p + 1, (ns[p]).toNat, c, _, by omega, rfl, ?_⟩
          rw [Int.toNat_of_nonneg (by omega)]
          rfl
        · simp_arith [true_and, m1, m2, m3, m4, m5, m6]
          have e3 : 0 ≤ ((c : Int) * 48271 + (ns[p]).fmod 2147483647 + 7).fmod 2147483647 := Int.fmod_nonneg_of_pos _ (by decide)
          refine ⟨p + 1, 0, (((c : Int) * 48271 + (ns[p]).fmod 2147483647 + 7).fmod 2147483647).toNat, _, by omega, rfl, ?_⟩
          rw [Int.toNat_of_nonneg e3]
          rfl
      · subst hb
        have hd1 : decide (((0 : Nat) : Int) = 0) = true := rfl
        have hd2 : decide ((p : Int) < (ns.length : Int)) = false := decide_eq_false (by omega)
        simp_arith [List.length_map, hd1, hd2, true_and]
        exact ⟨p, 0, c, _, hp, rfl, rfl⟩
    · have hd1 : decide ((b : Int) = 0) = false := decide_eq_false (by omega)
      simp_arith [hd1, true_and]
      exact ⟨p, b, c, _, hp, rfl, rfl⟩
  · rintro f ρ' S' ⟨rfl, p', b', c', w, hp', rfl, rfl⟩
    rw [thenQ_next]
    exact tail ns p' b' c' w hp'
end
end L2.DL

set_option maxHeartbeats 1000000
/-! The plain laws, fourth part: plain data of bounded size and depth. -/
namespace L2.DL
open PySem PyProof.Rows
open Lean in
local macro_rules
  | `(tactic| simp_arith) => `(tactic| simp_arith [])
  | `(tactic| simp_arith [$ls,*]) => `(tactic| simp only [List.cons_append, List.nil_append, Nat.reduceSub, List.replicate, oks_cons, oks_nil, oks_fin, oks_lift, evS, evT, evE, evO, evEs, evAs, ok_bind, ok_pure, ok_some, getRef, getVal, getOwn, List.getElem?_cons_zero, List.getElem?_cons_succ, List.set_cons_zero, List.set_cons_succ, ok_cell0,
    thenQ_next, thenQ_ret, endQ_ret, endQ_next, idxl0, idxl1, idxl2, idxl3, put1, put2, put3, biD, binD, cmpD, len_list, len_tuple, add_int, sub_int, aadd_int, asub_int, int_int, int_bool, tru_bool, tru_int, tru_none, tru_list, tru_tuple, eqD_int, neD_int, ltD_int, leD_int, gtD_int, geD_int, pow18, if_true, if_false, Bool.false_eq_true, Bool.not_false, Bool.not_true, ↓reduceIte, $ls,*])

/-- plain data: texts and rows no longer than b, ints below 2 ^ b, no deeper than k -/
def Pl (b : Nat) : Nat → PyData → Prop
  | _, .none => True
  | _, .bool _ => True
  | _, .int i => i.natAbs < 2 ^ b
  | _, .str s => PyData.strOk s = true ∧ s.length ≤ b
  | k + 1, .tuple xs => xs.length ≤ b ∧ ∀ x ∈ xs, Pl b k x
  | k + 1, .list xs => xs.length ≤ b ∧ ∀ x ∈ xs, Pl b k x
  | _, _ => False
section
variable {b k : Nat}
theorem pl_none : Pl b k .none := by cases k <;> exact True.intro
theorem pl_bool {x : Bool} : Pl b k (.bool x) := by cases k <;> exact True.intro
theorem pl_int {i : Int} : Pl b k (.int i) ↔ i.natAbs < 2 ^ b := by cases k <;> exact Iff.rfl
theorem pl_str {s : Str} : Pl b k (.str s) ↔ PyData.strOk s = true ∧ s.length ≤ b := by cases k <;> exact Iff.rfl
theorem pl_tuple {xs : List PyData} : Pl b (k + 1) (.tuple xs) ↔ xs.length ≤ b ∧ ∀ x ∈ xs, Pl b k x := Iff.rfl
theorem pl_list {xs : List PyData} : Pl b (k + 1) (.list xs) ↔ xs.length ≤ b ∧ ∀ x ∈ xs, Pl b k x := Iff.rfl
theorem pl_tuple0 {xs : List PyData} : ¬ Pl b 0 (.tuple xs) := id
theorem pl_list0 {xs : List PyData} : ¬ Pl b 0 (.list xs) := id
theorem pl_dict {xs} : ¬ Pl b k (.dict xs) := by cases k <;> exact id
end
theorem Pl.mono {b c : Nat} (h : b ≤ c) : ∀ {k l : Nat} (_ : k ≤ l) {d : PyData}, Pl b k d → Pl c l d
  | k, l, _, .none, _ => pl_none
  | k, l, _, .bool _, _ => pl_bool
  | k, l, _, .int i, hd => pl_int.mpr (Nat.lt_of_lt_of_le (pl_int.mp hd) (Nat.pow_le_pow_right (by decide) h))
  | k, l, _, .str s, hd => pl_str.mpr ⟨(pl_str.mp hd).1, Nat.le_trans (pl_str.mp hd).2 h⟩
  | 0, l, _, .tuple xs, hd => (pl_tuple0 hd).elim
  | 0, l, _, .list xs, hd => (pl_list0 hd).elim
  | k + 1, 0, hk, .tuple xs, hd => absurd hk (by omega)
  | k + 1, 0, hk, .list xs, hd => absurd hk (by omega)
  | k + 1, l + 1, hk, .tuple xs, hd => pl_tuple.mpr ⟨Nat.le_trans (pl_tuple.mp hd).1 h, fun x hx => Pl.mono h (by omega) ((pl_tuple.mp hd).2 x hx)⟩
  | k + 1, l + 1, hk, .list xs, hd => pl_list.mpr ⟨Nat.le_trans (pl_list.mp hd).1 h, fun x hx => Pl.mono h (by omega) ((pl_list.mp hd).2 x hx)⟩
  | k, l, _, .dict _, hd => (pl_dict hd).elim
theorem canLayAll0_mem : ∀ xs : List PyData, (∀ x ∈ xs, x.canLay0 = true) → PyData.canLayAll0 xs = true
  | [], _ => by rw [PyData.canLayAll0]
  | x :: xs, h => by
    rw [PyData.canLayAll0, h x (List.mem_cons_self), canLayAll0_mem xs fun y hy => h y (List.mem_cons_of_mem _ hy)]
    rfl
theorem depthAll_mem (n : Nat) : ∀ xs : List PyData, (∀ x ∈ xs, x.depth ≤ n) → PyData.depthAll xs ≤ n
  | [], _ => by rw [PyData.depthAll]; exact Nat.zero_le _
  | x :: xs, h => by
    rw [PyData.depthAll]
    exact Nat.max_le.mpr ⟨h x (List.mem_cons_self), depthAll_mem n xs fun y hy => h y (List.mem_cons_of_mem _ hy)⟩
theorem Pl.canLay {b : Nat} : ∀ {k : Nat} {d : PyData}, Pl b k d → d.canLay0 = true ∧ d.depth ≤ k
  | k, .none, _ => ⟨by rw [PyData.canLay0], by rw [PyData.depth]; exact Nat.zero_le _⟩
  | k, .bool _, _ => ⟨by rw [PyData.canLay0], by rw [PyData.depth]; exact Nat.zero_le _⟩
  | k, .int i, hd => ⟨by rw [PyData.canLay0], by rw [PyData.depth]; exact Nat.zero_le _⟩
  | k, .str s, hd => ⟨by rw [PyData.canLay0]; exact (pl_str.mp hd).1, by rw [PyData.depth]; exact Nat.zero_le _⟩
  | 0, .tuple xs, hd => (pl_tuple0 hd).elim
  | 0, .list xs, hd => (pl_list0 hd).elim
  | k + 1, .tuple xs, hd => ⟨by rw [PyData.canLay0]; exact canLayAll0_mem xs fun x hx => (Pl.canLay ((pl_tuple.mp hd).2 x hx)).1,
      by rw [PyData.depth]; exact Nat.succ_le_succ (depthAll_mem k xs fun x hx => (Pl.canLay ((pl_tuple.mp hd).2 x hx)).2)⟩
  | k + 1, .list xs, hd => ⟨by rw [PyData.canLay0]; exact canLayAll0_mem xs fun x hx => (Pl.canLay ((pl_list.mp hd).2 x hx)).1,
      by rw [PyData.depth]; exact Nat.succ_le_succ (depthAll_mem k xs fun x hx => (Pl.canLay ((pl_list.mp hd).2 x hx)).2)⟩
  | k, .dict _, hd => (pl_dict hd).elim
theorem Pl.shaped {b k : Nat} {d : PyData} (h : Pl b k d) (hk : k ≤ 64) : SeqAt.shaped d = true := by
  unfold SeqAt.shaped
  rw [h.canLay.1, decide_eq_true (Nat.le_trans h.canLay.2 hk)]
  rfl
end L2.DL

set_option maxHeartbeats 1000000
/-! The plain laws, fifth part: cuts, items, texts. -/
namespace L2.DL
open PySem PyProof.Rows
open Lean in
local macro_rules
  | `(tactic| simp_arith) => `(tactic| simp_arith [])
  | `(tactic| simp_arith [$ls,*]) => `(tactic| simp only [List.cons_append, List.nil_append, Nat.reduceSub, List.replicate, oks_cons, oks_nil, oks_fin, oks_lift, evS, evT, evE, evO, evEs, evAs, ok_bind, ok_pure, ok_some, getRef, getVal, getOwn, List.getElem?_cons_zero, List.getElem?_cons_succ, List.set_cons_zero, List.set_cons_succ, ok_cell0,
    thenQ_next, thenQ_ret, endQ_ret, endQ_next, idxl0, idxl1, idxl2, idxl3, put1, put2, put3, biD, binD, cmpD, len_list, len_tuple, add_int, sub_int, aadd_int, asub_int, int_int, int_bool, tru_bool, tru_int, tru_none, tru_list, tru_tuple, eqD_int, neD_int, ltD_int, leD_int, gtD_int, geD_int, pow18, if_true, if_false, Bool.false_eq_true, Bool.not_false, Bool.not_true, ↓reduceIte, $ls,*])
section
variable {α : Type} {xs : List α} {i j k : Nat}
theorem sIx_k (n d k : Nat) : HT.sIx n d (some (k : Int)) = min k n := HT.sIx_nat n d k
theorem cut_to : cutL xs none (some (k : Int)) = xs.take k := by
  unfold cutL
  rw [sIx_k, HT.sIx_none, List.drop_zero, Nat.sub_zero]
  by_cases h : k ≤ xs.length
  · rw [Nat.min_eq_left h]
  · rw [Nat.min_eq_right (by omega), List.take_of_length_le (Nat.le_refl _), List.take_of_length_le (by omega)]
theorem cut_from : cutL xs (some (k : Int)) none = xs.drop k := by
  unfold cutL
  rw [sIx_k, HT.sIx_none]
  by_cases h : k ≤ xs.length
  · rw [Nat.min_eq_left h, List.take_of_length_le (by rw [List.length_drop]; omega)]
  · rw [Nat.min_eq_right (by omega), List.drop_of_length_le (Nat.le_refl _), List.drop_of_length_le (by omega)]
    exact List.take_nil
theorem cut_mid : cutL xs (some (i : Int)) (some (j : Int)) = (xs.drop i).take (j - i) := by
  unfold cutL
  rw [sIx_k, sIx_k]
  by_cases h : i ≤ xs.length
  · rw [Nat.min_eq_left h]
    by_cases h2 : j ≤ xs.length
    · rw [Nat.min_eq_left h2]
    · rw [Nat.min_eq_right (by omega), List.take_of_length_le (by rw [List.length_drop]; omega), List.take_of_length_le (by rw [List.length_drop]; omega)]
  · rw [Nat.min_eq_right (a := i) (by omega), List.drop_of_length_le (Nat.le_refl _), List.drop_of_length_le (by omega), List.take_nil, List.take_nil]
theorem cut_from1 : cutL xs (some ((k : Int) + 1)) none = xs.drop (k + 1) := cut_from (k := k + 1)
theorem cut_one : cutL xs (some (k : Int)) (some ((k : Int) + 1)) = (xs.drop k).take 1 := by
  have h := cut_mid (xs := xs) (i := k) (j := k + 1)
  rw [Nat.add_sub_cancel_left] at h
  exact h
theorem cut_two : cutL xs (some (k : Int)) (some ((k : Int) + 2)) = (xs.drop k).take 2 := by
  have h := cut_mid (xs := xs) (i := k) (j := k + 2)
  rw [Nat.add_sub_cancel_left] at h
  exact h
theorem cut_from2 : cutL xs (some ((k : Int) + 2)) none = xs.drop (k + 2) := cut_from (k := k + 2)
theorem cut_1mid : cutL xs (some ((i : Int) + 1)) (some (j : Int)) = (xs.drop (i + 1)).take (j - (i + 1)) := cut_mid (i := i + 1)
theorem cut_lit1 : cutL xs none (some 1) = xs.take 1 := cut_to (k := 1)
theorem cut_litf1 : cutL xs (some 1) none = xs.drop 1 := cut_from (k := 1)
end
theorem sli_list {l h : Option Int} {xs : List PyData} : sliD l h (.list xs) = some (.list (cutL xs l h)) := rfl
theorem sli_tuple {l h : Option Int} {xs : List PyData} : sliD l h (.tuple xs) = some (.tuple (cutL xs l h)) := rfl
theorem rev_list {xs : List PyData} : revD (.list xs) = some (.list xs.reverse) := rfl
theorem rev_tuple {xs : List PyData} : revD (.tuple xs) = some (.tuple xs.reverse) := rfl
theorem list_list {xs : List PyData} : listD (.list xs) = some (.list xs) := rfl
theorem list_tuple {xs : List PyData} : listD (.tuple xs) = some (.list xs) := rfl
theorem tup_list {xs : List PyData} : tupD (.list xs) = some (.tuple xs) := rfl
theorem tup_tuple {xs : List PyData} : tupD (.tuple xs) = some (.tuple xs) := rfl
section
variable {S : Store} {Q : PyData → Store → Prop}
theorem ok_add_tuple {xs ys : List PyData} : Ok (ofOpt (opAdd (.tuple xs) (.tuple ys))) S Q ↔ xs.length + ys.length ≤ sizeLine ∧ Q (.tuple (xs ++ ys)) S := by
  show Ok (ofOpt (if xs.length + ys.length ≤ sizeLine then some (PyData.tuple (xs ++ ys)) else none)) S Q ↔ _
  by_cases h : xs.length + ys.length ≤ sizeLine
  · rw [if_pos h, ok_some]
    exact ⟨fun q => ⟨h, q⟩, fun q => q.2⟩
  · rw [if_neg h, ok_none]
    exact ⟨False.elim, fun q => h q.1⟩
theorem ok_add_list {xs ys : List PyData} : Ok (ofOpt (opAdd (.list xs) (.list ys))) S Q ↔ xs.length + ys.length ≤ sizeLine ∧ Q (.list (xs ++ ys)) S := by
  show Ok (ofOpt (if xs.length + ys.length ≤ sizeLine then some (PyData.list (xs ++ ys)) else none)) S Q ↔ _
  by_cases h : xs.length + ys.length ≤ sizeLine
  · rw [if_pos h, ok_some]
    exact ⟨fun q => ⟨h, q⟩, fun q => q.2⟩
  · rw [if_neg h, ok_none]
    exact ⟨False.elim, fun q => h q.1⟩
theorem ok_add_str {x y : Str} : Ok (ofOpt (opAdd (.str x) (.str y))) S Q ↔ x.length + y.length ≤ sizeLine ∧ Q (.str (x ++ y)) S := by
  show Ok (ofOpt (if x.length + y.length ≤ sizeLine then some (PyData.str (x ++ y)) else none)) S Q ↔ _
  by_cases h : x.length + y.length ≤ sizeLine
  · rw [if_pos h, ok_some]
    exact ⟨fun q => ⟨h, q⟩, fun q => q.2⟩
  · rw [if_neg h, ok_none]
    exact ⟨False.elim, fun q => h q.1⟩
theorem ok_sli_str {x : Str} {l h : Option Int} : Ok (ofOpt (sliD l h (.str x))) S Q ↔ x.length ≤ sizeLine ∧ Q (.str (L2.cutS x l h)) S := by
  show Ok (ofOpt (if x.length ≤ sizeLine then some (PyData.str (L2.cutS x l h)) else none)) S Q ↔ _
  by_cases e : x.length ≤ sizeLine
  · rw [if_pos e, ok_some]
    exact ⟨fun q => ⟨e, q⟩, fun q => q.2⟩
  · rw [if_neg e, ok_none]
    exact ⟨False.elim, fun q => e q.1⟩
theorem ok_rev_str {x : Str} : Ok (ofOpt (revD (.str x))) S Q ↔ x.length ≤ sizeLine ∧ Q (.str ⟨x.cps.reverse⟩) S := by
  show Ok (ofOpt (if x.length ≤ sizeLine then some (PyData.str ⟨x.cps.reverse⟩) else none)) S Q ↔ _
  by_cases e : x.length ≤ sizeLine
  · rw [if_pos e, ok_some]
    exact ⟨fun q => ⟨e, q⟩, fun q => q.2⟩
  · rw [if_neg e, ok_none]
    exact ⟨False.elim, fun q => e q.1⟩
theorem ok_len_str {x : Str} : Ok (ofOpt (lenD (.str x))) S Q ↔ x.length ≤ sizeLine ∧ Q (.int x.length) S := by
  show Ok (ofOpt (if x.length ≤ sizeLine then some (PyData.int x.length) else none)) S Q ↔ _
  by_cases e : x.length ≤ sizeLine
  · rw [if_pos e, ok_some]
    exact ⟨fun q => ⟨e, q⟩, fun q => q.2⟩
  · rw [if_neg e, ok_none]
    exact ⟨False.elim, fun q => e q.1⟩
theorem ok_idx {xs : List PyData} {r : Nat} (h : r < xs.length) : Ok (ofOpt (idxD (.list xs) (.int r))) S Q ↔ Q xs[r] S := by
  rw [idxl (List.getElem?_eq_getElem h), ok_some]
theorem ok_eq_sh {a b : PyData} {Q : Bool → Store → Prop} (ha : SeqAt.shaped a = true) (hb : SeqAt.shaped b = true) : Ok (ofOpt (eqD a b)) S Q ↔ Q (PyData.eqv a b) S := by
  rw [eqD_sh ha hb, ok_some]
theorem ok_ne_sh {a b : PyData} {Q : Bool → Store → Prop} (ha : SeqAt.shaped a = true) (hb : SeqAt.shaped b = true) : Ok (ofOpt (neD a b)) S Q ↔ Q (!PyData.eqv a b) S := by
  rw [neD_sh ha hb, ok_some]
end
/-! texts -/
theorem strOk_mem {x : Str} : PyData.strOk x = true ↔ ∀ c ∈ x.cps.toList, c < 0x110000 := by
  unfold PyData.strOk
  rw [← Array.all_toList, List.all_eq_true]
  constructor
  · exact fun h c hc => of_decide_eq_true (h c hc)
  · exact fun h c hc => decide_eq_true (h c hc)
theorem strOk_app {x y : Str} (hx : PyData.strOk x = true) (hy : PyData.strOk y = true) : PyData.strOk (x ++ y) = true := by
  rw [strOk_mem] at *
  intro c hc
  have e : (x ++ y).cps.toList = x.cps.toList ++ y.cps.toList := Array.toList_append
  rw [e] at hc
  rcases List.mem_append.mp hc with h | h
  · exact hx c h
  · exact hy c h
theorem len_app {x y : Str} : (x ++ y).length = x.length + y.length := Array.size_append
theorem strOk_cut {x : Str} {l h : Option Int} (hx : PyData.strOk x = true) : PyData.strOk (L2.cutS x l h) = true := by
  rw [strOk_mem] at *
  intro c hc
  exact hx c (List.mem_of_mem_drop (List.mem_of_mem_take hc))
theorem len_cut {x : Str} {l h : Option Int} : (L2.cutS x l h).length ≤ x.length := L2.cutS_length x l h
theorem strOk_rev {x : Str} (hx : PyData.strOk x = true) : PyData.strOk ⟨x.cps.reverse⟩ = true := by
  rw [strOk_mem] at *
  intro c hc
  rw [Array.toList_reverse] at hc
  exact hx c (List.mem_reverse.mp hc)
theorem len_rev {x : Str} : (⟨x.cps.reverse⟩ : Str).length = x.length := Array.size_reverse
end L2.DL

set_option maxHeartbeats 2000000
/-! The plain laws, sixth part: _law_changed. -/
namespace L2.DL
open PySem PyProof.Rows
open Lean in
local macro_rules
  | `(tactic| simp_arith) => `(tactic| simp_arith [])
  | `(tactic| simp_arith [$ls,*]) => `(tactic| simp only [List.cons_append, List.nil_append, Nat.reduceSub, List.replicate, oks_cons, oks_nil, oks_fin, oks_lift, evS, evT, evE, evO, evEs, evAs, ok_bind, ok_pure, ok_some, getRef, getVal, getOwn, List.getElem?_cons_zero, List.getElem?_cons_succ, List.set_cons_zero, List.set_cons_succ, ok_cell0,
    thenQ_next, thenQ_ret, endQ_ret, endQ_next, idxl0, idxl1, idxl2, idxl3, put1, put2, put3, biD, binD, cmpD, len_list, len_tuple, add_int, sub_int, aadd_int, asub_int, int_int, int_bool, tru_bool, tru_int, tru_none, tru_list, tru_tuple, eqD_int, neD_int, ltD_int, leD_int, gtD_int, geD_int, pow18, if_true, if_false, Bool.false_eq_true, Bool.not_false, Bool.not_true, ↓reduceIte, $ls,*])
theorem strOk_int (i : Int) : PyData.strOk (Str.ofString (toString i)) = true := by
  rw [strOk_mem]
  intro c hc
  exact Nat.lt_trans (PySem.W.KSb.asc_num i c hc) (by decide)
theorem ok_pick {xs : List PyData} {r : Nat} {S : Store} {Q : PyData → Store → Prop} (h : r < xs.length) (hq : ∀ x ∈ xs, Q x S) : Ok (ofOpt (idxD (.list xs) (.int r))) S Q :=
  (ok_idx h).mpr (hq _ (List.getElem_mem h))
theorem ok_str_int {i : Int} {S : Store} {Q : PyData → Store → Prop} : Ok (ofOpt (strD (.int i))) S Q ↔ i.natAbs.log2 < 1920 ∧ Q (.str (Str.ofString (toString i))) S := by
  show Ok (ofOpt (if i.natAbs.log2 < 1920 then some (PyData.str (Str.ofString (toString i))) else none)) S Q ↔ _
  by_cases h : i.natAbs.log2 < 1920
  · rw [if_pos h, ok_some]
    exact ⟨fun q => ⟨h, q⟩, fun q => q.2⟩
  · rw [if_neg h, ok_none]
    exact ⟨False.elim, fun q => h q.1⟩
theorem orv_int {i : Int} {j : Int} {S : Store} {Q : PyData → Store → Prop} : Ok (if (i != 0) = true then Mn.pure (PyData.int i) else Mn.pure (.int j)) S Q ↔ Q (.int (if i = 0 then j else i)) S := by
  by_cases h : i = 0
  · subst h
    exact ok_pure
  · rw [if_neg h, if_pos (by simpa using h)]
    exact ok_pure
theorem len_int {i : Int} {b : Nat} (hb : 1 ≤ b) (hi : i.natAbs < 2 ^ b) : (Str.ofString (toString i)).length ≤ b + 1 := by
  rw [PySem.ofString_length]
  cases i with
  | ofNat m =>
    show (Nat.repr m).length ≤ _
    exact Nat.le_trans (nat_repr_length_le (by omega) hi) (by omega)
  | negSucc m =>
    show ("-" ++ Nat.repr (m + 1)).length ≤ _
    rw [String.length_append]
    have h := nat_repr_length_le (n := m + 1) (by omega) hi
    have e : "-".length = 1 := rfl
    omega
theorem log_int {i : Int} {b : Nat} (hb : 1 ≤ b) (hb2 : b ≤ 1000) (hi : i.natAbs < 2 ^ b) : i.natAbs.log2 < 1920 := by
  by_cases h : i.natAbs = 0
  · rw [h]
    decide
  · exact Nat.lt_of_lt_of_le ((Nat.log2_lt h).mpr hi) (by omega)
theorem sizeLine_eq : sizeLine = 16777216 := rfl
theorem l_a : (Str.ofString "a").length = 1 := by decide
theorem l_b : (Str.ofString "b").length = 1 := by decide
theorem k_of (x : String) (h : PyData.strOk (Str.ofString x) = true := by decide +kernel) : PyData.strOk (Str.ofString x) = true := h
open Lean in
local macro_rules
  | `(tactic| simp_arith!) => `(tactic| simp_arith! [])
  | `(tactic| simp_arith! [$ls,*]) => `(tactic| simp_arith [isiD, isiT, List.any_cons, List.any_nil, Bool.or_false, Bool.false_or, Bool.true_or, Bool.or_true, List.forall_mem_cons, List.not_mem_nil, false_implies, implies_true, true_and, and_true, and_assoc, isnD, nonD, isNoneD, pl_none, pl_bool, pl_int, orv_int, ok_str_int, ok_add_tuple, ok_add_list, ok_add_str, ok_sli_str, ok_rev_str, ok_len_str, rev_tuple, rev_list, sli_tuple, sli_list, list_list, list_tuple, tup_list, tup_tuple, len_tuple, len_list, cut_to, cut_from, cut_from1, cut_one, cut_1mid, cut_lit1, cut_litf1, $ls,*])
section
variable {tab : Tab} {n b k : Nat} {S : Store}
theorem law_changed_bool (hN : tab "_law_next" = some fd_law_next) (h : tab "_law_changed" = some fd_law_changed) (x : Bool) (hs : StOk S) (hb : 1 ≤ b) :
    Ok (callF tab (n + 2) "_law_changed" [.ref 0, .val (.bool x)]) S (fun r S' => Pl b k r ∧ StOk S') := by
  rw [ok_call h rfl]
  simp_arith! [fd_law_changed]
  refine (law_next_ok hN (L := 2) (by decide) (by decide) hs).mono ?_
  rintro _ S ⟨r, hr, rfl, hs⟩
  refine ok_pick hr ?_
  simp_arith! [hs]
  have h2 : 2 ^ 1 ≤ 2 ^ b := Nat.pow_le_pow_right (by decide) hb
  cases x
  · show 0 < 2 ^ b
    omega
  · show 1 < 2 ^ b
    omega
theorem law_changed_none (hN : tab "_law_next" = some fd_law_next) (h : tab "_law_changed" = some fd_law_changed) (hs : StOk S) (hb : 5 ≤ b) :
    Ok (callF tab (n + 2) "_law_changed" [.ref 0, .val .none]) S (fun r S' => Pl b k r ∧ StOk S') := by
  have e1 : eqD .none (.int 1) = some false := rfl
  have e2 : strD .none = some (.str (Str.ofString "None")) := rfl
  have e3 : opMul (.int 2) (.int 1) = some (.int 2) := rfl
  rw [ok_call h rfl]
  simp_arith! [fd_law_changed, e1, e2, e3]
  refine (law_next_ok hN (L := 7) (by decide) (by decide) hs).mono ?_
  rintro _ S ⟨r, hr, rfl, hs⟩
  refine ok_pick hr ?_
  have h2 : 2 ^ 5 ≤ 2 ^ b := Nat.pow_le_pow_right (by decide) hb
  have l1 : (Str.ofString "None").length = 4 := by decide
  simp_arith! [hs, pl_str, k_of "None", l1]
  omega
theorem law_changed_int (hN : tab "_law_next" = some fd_law_next) (h : tab "_law_changed" = some fd_law_changed) (hs : StOk S) (i : Int) (hi : i.natAbs < 2 ^ b) (hb : 5 ≤ b) (hb2 : b ≤ 1000) :
    Ok (callF tab (n + 2) "_law_changed" [.ref 0, .val (.int i)]) S (fun r S' => Pl (2 * b + 2) k r ∧ StOk S') := by
  have e3 : ∀ j, opMul (.int 2) (.int j) = some (.int (2 * j)) := fun j => by
    show (if cMul 2 j then some (PyData.int (2 * j)) else none) = some (PyData.int (2 * j))
    have e : cMul 2 j = true := by
      unfold cMul
      rfl
    rw [e]
    rfl
  rw [ok_call h rfl]
  simp_arith! [fd_law_changed, e3]
  refine ⟨log_int (by omega) hb2 hi, ?_⟩
  refine (law_next_ok hN (L := 7) (by decide) (by decide) hs).mono ?_
  rintro _ S ⟨r, hr, rfl, hs⟩
  refine ok_pick hr ?_
  have h2 : 2 ^ (b + 2) ≤ 2 ^ (2 * b + 2) := Nat.pow_le_pow_right (by decide) (by omega)
  have h3 : 2 ^ (b + 2) = 2 ^ b * 2 * 2 := by rw [Nat.pow_succ, Nat.pow_succ]
  have l1 := len_int (by omega) hi
  simp_arith! [hs, pl_str, strOk_int i]
  refine ⟨?_, ?_, ?_, ?_, ?_⟩
  · split <;> omega
  · split <;> omega
  · omega
  · omega
  · split <;> omega
theorem law_changed_str (hN : tab "_law_next" = some fd_law_next) (h : tab "_law_changed" = some fd_law_changed) (hs : StOk S) (x : Str) (hx : PyData.strOk x = true) (hl : x.length ≤ b) (hb : 5 ≤ b) (hb2 : b ≤ 1000) :
    Ok (callF tab (n + 2) "_law_changed" [.ref 0, .val (.str x)]) S (fun r S' => Pl (2 * b + 2) k r ∧ StOk S') := by
  rw [ok_call h rfl]
  simp_arith! [fd_law_changed]
  have hz := sizeLine_eq
  have h1 := l_a
  have h2 := l_b
  refine ⟨by omega, by omega, by omega, by omega, by omega, ?_⟩
  refine (law_next_ok hN (L := 9) (by decide) (by decide) hs).mono ?_
  rintro _ S ⟨r, hr, rfl, hs⟩
  refine ok_pick hr ?_
  have l1 : (Str.ofString "left").length = 4 := by decide
  have l2 : (Str.ofString "in").length = 2 := by decide
  have l3 : (Str.ofString "").length = 0 := by decide
  have h4 : 2 ^ 5 ≤ 2 ^ (2 * b + 2) := Nat.pow_le_pow_right (by decide) (by omega)
  have c1 := len_cut (x := x) (l := some 1) (h := none)
  have c2 := len_cut (x := x) (l := none) (h := some (-1))
  simp_arith! [hs, pl_str, k_of "left", k_of "in", k_of "", k_of "a", k_of "b", strOk_cut hx, strOk_rev hx, strOk_app hx (k_of "a"), strOk_app (k_of "b") hx, len_app, len_rev, l1, l2, l3, h1, h2]
  refine ⟨?_, ?_, ?_, ?_, ?_, ?_, ?_, ?_⟩ <;> omega
end
end L2.DL

set_option maxHeartbeats 4000000
/-! The plain laws, seventh part: _law_changed on rows. -/
namespace L2.DL
open PySem PyProof.Rows
open Lean in
local macro_rules
  | `(tactic| simp_arith) => `(tactic| simp_arith [])
  | `(tactic| simp_arith [$ls,*]) => `(tactic| simp only [List.cons_append, List.nil_append, Nat.reduceSub, List.replicate, oks_cons, oks_nil, oks_fin, oks_lift, evS, evT, evE, evO, evEs, evAs, ok_bind, ok_pure, ok_some, getRef, getVal, getOwn, List.getElem?_cons_zero, List.getElem?_cons_succ, List.set_cons_zero, List.set_cons_succ, ok_cell0,
    thenQ_next, thenQ_ret, endQ_ret, endQ_next, idxl0, idxl1, idxl2, idxl3, put1, put2, put3, biD, binD, cmpD, len_list, len_tuple, add_int, sub_int, aadd_int, asub_int, int_int, int_bool, tru_bool, tru_int, tru_none, tru_list, tru_tuple, eqD_int, neD_int, ltD_int, leD_int, gtD_int, geD_int, pow18, if_true, if_false, Bool.false_eq_true, Bool.not_false, Bool.not_true, ↓reduceIte, $ls,*])
open Lean in
local macro_rules
  | `(tactic| simp_arith!) => `(tactic| simp_arith! [])
  | `(tactic| simp_arith! [$ls,*]) => `(tactic| simp_arith [isiD, isiT, List.any_cons, List.any_nil, Bool.or_false, Bool.false_or, Bool.true_or, Bool.or_true, List.forall_mem_cons, List.not_mem_nil, false_implies, implies_true, true_and, and_true, and_assoc, isnD, nonD, isNoneD, pl_none, pl_bool, pl_int, orv_int, ok_str_int, ok_add_tuple, ok_add_list, ok_add_str, ok_sli_str, ok_rev_str, ok_len_str, rev_tuple, rev_list, sli_tuple, sli_list, list_list, list_tuple, tup_list, tup_tuple, len_tuple, len_list, cut_to, cut_from, cut_from1, cut_one, cut_1mid, cut_lit1, cut_litf1, $ls,*])
theorem eqv_nil {xs : List PyData} : PyData.eqv (.tuple xs) (.tuple []) = xs.isEmpty := by
  cases xs <;> rw [PyData.eqv] <;> rfl
theorem sh_nil : SeqAt.shaped (.tuple []) = true := rfl
/-- one statement, with what holds behind it -/
def stepQ (R : Env → Store → Prop) (Q : Flow → Env → Store → Prop) : Flow → Env → Store → Prop
  | .next, ρ, S => R ρ S
  | f, ρ, S => Q f ρ S
section
variable {Φ : Call} {s : L2.DL.S} {r : Ss} {ρ : Env} {S : Store} {R : Env → Store → Prop} {Q : Flow → Env → Store → Prop}
theorem stepQ_next : stepQ R Q .next ρ S = R ρ S := rfl
theorem stepQ_ret {d : PyData} : stepQ R Q (.ret d) ρ S = Q (.ret d) ρ S := rfl
theorem stepQ_brk : stepQ R Q .brk ρ S = Q .brk ρ S := rfl
theorem stepQ_cont : stepQ R Q .cont ρ S = Q .cont ρ S := rfl
theorem oks_step (R : Env → Store → Prop) (h1 : Ends (evS Φ s ρ S) (stepQ R Q)) (h2 : ∀ ρ' S', R ρ' S' → Ends (evSs Φ r ρ' S') Q) : Ends (evSs Φ (.cons s r) ρ S) Q := by
  rw [oks_cons]
  refine h1.mono ?_
  intro f ρ' S' q
  cases f with
  | next => exact h2 ρ' S' q
  | brk => exact q
  | cont => exact q
  | ret d => exact q
end
theorem ok_sized {α : Type} {ds : List α} {S : Store} {Q : List α → Store → Prop} : Ok (if ds.length ≤ sizeLine then Mn.pure ds else Mn.stuck) S Q ↔ ds.length ≤ sizeLine ∧ Q ds S := by
  by_cases h : ds.length ≤ sizeLine
  · rw [if_pos h, ok_pure]
    exact ⟨fun q => ⟨h, q⟩, fun q => q.2⟩
  · rw [if_neg h, ok_stuck]
    exact ⟨False.elim, fun q => h q.1⟩
theorem mem_take {α : Type} {xs : List α} {i : Nat} {P : α → Prop} (h : ∀ x ∈ xs, P x) : ∀ x ∈ xs.take i, P x := fun x hx => h x (List.mem_of_mem_take hx)
theorem mem_drop {α : Type} {xs : List α} {i : Nat} {P : α → Prop} (h : ∀ x ∈ xs, P x) : ∀ x ∈ xs.drop i, P x := fun x hx => h x (List.mem_of_mem_drop hx)
theorem mem_rev {α : Type} {xs : List α} {P : α → Prop} (h : ∀ x ∈ xs, P x) : ∀ x ∈ xs.reverse, P x := fun x hx => h x (List.mem_reverse.mp hx)
theorem mem_app {α : Type} {xs ys : List α} {P : α → Prop} (h : ∀ x ∈ xs, P x) (h2 : ∀ x ∈ ys, P x) : ∀ x ∈ xs ++ ys, P x := fun x hx => (List.mem_append.mp hx).elim (h x) (h2 x)
theorem mem_one {α : Type} {x : α} {P : α → Prop} (h : P x) : ∀ y ∈ [x], P y := fun y hy => by
  rw [List.mem_singleton] at hy
  rw [hy]
  exact h
open Lean in
local macro_rules | `(tactic| and_intros) => `(tactic| first | assumption | (exact fun x hx => absurd hx List.not_mem_nil) | (apply mem_take; and_intros) | (apply mem_drop; and_intros) | (apply mem_rev; and_intros) | (apply mem_app <;> and_intros) | (apply mem_one; first | assumption | exact pl_int.mpr (Nat.two_pow_pos _)))
open Lean in
local macro_rules | `(tactic| bv_omega) => `(tactic| (first | omega | (simp only [List.length_append, List.length_take, List.length_drop, List.length_reverse, List.length_cons, List.length_nil] at *; omega)))
section
variable {tab : Tab} {b k : Nat}
theorem law_changed_ok (hN : tab "_law_next" = some fd_law_next) (h : tab "_law_changed" = some fd_law_changed) (hb : 5 ≤ b) (hb2 : b ≤ 1000) :
    ∀ (k : Nat) (d : PyData) (n : Nat) (S : Store), k ≤ 64 → Pl b k d → StOk S → Ok (callF tab (n + k + 2) "_law_changed" [.ref 0, .val d]) S (fun r S' => Pl (6 * b + 10) k r ∧ StOk S') := by
  intro k
  induction k with
  | zero =>
    intro d n S hk hd hs
    cases d with
    | none => exact (law_changed_none (k := 0) (n := n) hN h hs hb).mono fun r S' q => ⟨q.1.mono (by omega) (by omega), q.2⟩
    | bool x => exact (law_changed_bool (b := b) (k := 0) (n := n) hN h x hs (by omega)).mono fun r S' q => ⟨q.1.mono (by omega) (by omega), q.2⟩
    | int i => exact (law_changed_int (k := 0) (n := n) hN h hs i (pl_int.mp hd) hb hb2).mono fun r S' q => ⟨q.1.mono (by omega) (by omega), q.2⟩
    | str x => exact (law_changed_str (k := 0) (n := n) hN h hs x (pl_str.mp hd).1 (pl_str.mp hd).2 hb hb2).mono fun r S' q => ⟨q.1.mono (by omega) (by omega), q.2⟩
    | list xs => exact (pl_list0 hd).elim
    | tuple xs => exact (pl_tuple0 hd).elim
    | dict xs => exact (pl_dict hd).elim
  | succ k ih =>
    intro d n S hk hd hs
    cases d with
    | none => exact (law_changed_none (k := k + 1) (n := n + (k + 1)) hN h hs hb).mono fun r S' q => ⟨q.1.mono (by omega) (by omega), q.2⟩
    | bool x => exact (law_changed_bool (b := b) (k := k + 1) (n := n + (k + 1)) hN h x hs (by omega)).mono fun r S' q => ⟨q.1.mono (by omega) (by omega), q.2⟩
    | int i => exact (law_changed_int (k := k + 1) (n := n + (k + 1)) hN h hs i (pl_int.mp hd) hb hb2).mono fun r S' q => ⟨q.1.mono (by omega) (by omega), q.2⟩
    | str x => exact (law_changed_str (k := k + 1) (n := n + (k + 1)) hN h hs x (pl_str.mp hd).1 (pl_str.mp hd).2 hb hb2).mono fun r S' q => ⟨q.1.mono (by omega) (by omega), q.2⟩
    | list xs =>
      rw [show n + (k + 1) + 2 = (n + (k + 1) + 1) + 1 from rfl, ok_call h rfl]
      simp_arith! [fd_law_changed, pl_tuple]
      exact ⟨Nat.zero_le _, hs⟩
    | tuple xs =>
      rw [show n + (k + 1) + 2 = (n + (k + 1) + 1) + 1 from rfl, ok_call h rfl]
      have es := eqD_sh (hd.shaped hk) sh_nil
      have en := neD_sh (hd.shaped hk) sh_nil
      rw [eqv_nil] at es en
      have hz := sizeLine_eq
      have hl := (pl_tuple.mp hd).1
      have hm := (pl_tuple.mp hd).2
      have hm' : ∀ x ∈ xs, Pl (6 * b + 10) k x := fun x hx => (hm x hx).mono (by omega) (Nat.le_refl _)
      show Ends (evSs _ (.cons _ _) _ _) _
      refine oks_step (fun ρ' S' => ρ' = [.ref 0, .val (.tuple xs), .no, .no, .no, .no, .no] ∧ StOk S') (by simp_arith! [stepQ_next, fd_law_changed]; exact hs) ?_
      rintro _ S ⟨rfl, hs⟩
      show Ends (evSs _ (.cons _ _) _ _) _
      refine oks_step (fun ρ' S' => ρ' = [.ref 0, .val (.tuple xs), .no, .no, .no, .no, .no] ∧ StOk S') (by simp_arith! [stepQ_next, fd_law_changed]; exact hs) ?_
      rintro _ S ⟨rfl, hs⟩
      show Ends (evSs _ (.cons _ _) _ _) _
      refine oks_step (fun ρ' S' => ρ' = [.ref 0, .val (.tuple xs), .no, .no, .no, .no, .no] ∧ StOk S') (by simp_arith! [stepQ_next, fd_law_changed]; exact hs) ?_
      rintro _ S ⟨rfl, hs⟩
      show Ends (evSs _ (.cons _ _) _ _) _
      refine oks_step (fun ρ' S' => ρ' = [.ref 0, .val (.tuple xs), .no, .no, .no, .no, .no] ∧ StOk S') ?_ ?_
      · cases hx : xs.isEmpty with
        | true =>
          rw [hx] at en
          simp_arith! [stepQ_next, fd_law_changed, en]
          exact hs
        | false =>
          rw [hx] at en
          have h0 : 0 < xs.length := by
            cases xs with
            | nil => cases hx
            | cons x r => exact Nat.succ_pos _
          simp_arith! [stepQ_next, fd_law_changed, en]
          refine (law_next_ok hN (L := 4) (by decide) (by decide) hs).mono ?_
          rintro _ S ⟨r, hr, rfl, hs⟩
          simp_arith!
          rw [oks_if]
          split
          · simp_arith!
            refine (law_next_ok hN (L := xs.length) h0 (by omega) hs).mono ?_
            rintro _ S ⟨r, hr, rfl, hs⟩
            simp_arith! [stepQ_next, idxt]
            rw [ok_idx hr]
            refine (ih xs[r] (n + 0) S (by omega) (hm _ (List.getElem_mem hr)) hs).mono ?_
            rintro x S ⟨hx1, hs⟩
            refine ⟨by bv_omega, by bv_omega, ?_⟩
            rw [stepQ_ret, endQ_ret]
            exact ⟨pl_tuple.mpr ⟨by bv_omega, mem_app (mem_app (mem_take hm') (mem_one hx1)) (mem_drop hm')⟩, hs⟩
          · simp_arith! [stepQ_next]
            exact hs
      rintro _ S ⟨rfl, hs⟩
      show Ends (evSs _ (.cons _ _) _ _) _
      refine oks_step (fun ρ' S' => ρ' = [.ref 0, .val (.tuple xs), .no, .no, .no, .no, .no] ∧ StOk S') (by simp_arith! [stepQ_next, fd_law_changed]; exact hs) ?_
      rintro _ S ⟨rfl, hs⟩
      show Ends (evSs _ (.cons _ _) _ _) _
      refine oks_step (fun ρ' S' => ∃ k : Nat, ρ' = [.ref 0, .val (.tuple xs), .val (.int k), .no, .no, .no, .no] ∧ StOk S') ?_ ?_
      · simp_arith! [fd_law_changed]
        refine (law_next_ok hN (L := xs.length + 1) (by omega) (by omega) hs).mono ?_
        rintro _ S ⟨r, hr, rfl, hs⟩
        exact ⟨r, rfl, hs⟩
      rintro _ S ⟨k', rfl, hs⟩
      show Ends (evSs _ (.cons _ _) _ _) _
      refine oks_step (fun ρ' S' => ∃ j : Nat, ρ' = [.ref 0, .val (.tuple xs), .val (.int k'), .val (.int j), .no, .no, .no] ∧ StOk S') ?_ ?_
      · simp_arith! [fd_law_changed]
        refine (law_next_ok hN (L := xs.length + 1) (by omega) (by omega) hs).mono ?_
        rintro _ S ⟨r, hr, rfl, hs⟩
        exact ⟨r, rfl, hs⟩
      rintro _ S ⟨j, rfl, hs⟩
      show Ends (evSs _ (.cons _ _) _ _) _
      refine oks_step (fun ρ' S' => ∃ ys, ρ' = [.ref 0, .val (.tuple xs), .val (.int k'), .val (.int j), .val (.list ys), .no, .no] ∧ StOk S' ∧ ys.length = 8 ∧ ∀ y ∈ ys, Pl (6 * b + 10) (k + 1) y) ?_ ?_
      · simp_arith! [fd_law_changed, stepQ_next]
        refine ⟨by bv_omega, by bv_omega, by bv_omega, by bv_omega, ?_⟩
        refine ⟨_, rfl, hs, rfl, ?_⟩
        simp_arith! [pl_tuple, pl_list]
        refine ⟨by bv_omega, by and_intros, by bv_omega, by and_intros, by bv_omega, by and_intros, by bv_omega, by and_intros, by bv_omega, by and_intros, by bv_omega, by and_intros, by bv_omega, by bv_omega, by and_intros⟩
      rintro _ S ⟨ys, rfl, hs, hy8, hym⟩
      show Ends (evSs _ (.cons _ _) _ _) _
      refine oks_step (fun ρ' S' => ∃ ys, ρ' = [.ref 0, .val (.tuple xs), .val (.int k'), .val (.int j), .val (.list ys), .no, .no] ∧ StOk S' ∧ 0 < ys.length ∧ ys.length ≤ 100 ∧ ∀ y ∈ ys, Pl (6 * b + 10) (k + 1) y) ?_ ?_
      · have keep : stepQ (fun ρ' S' => ∃ ys, ρ' = [.ref 0, .val (.tuple xs), .val (.int k'), .val (.int j), .val (.list ys), .no, .no] ∧ StOk S' ∧ 0 < ys.length ∧ ys.length ≤ 100 ∧ ∀ y ∈ ys, Pl (6 * b + 10) (k + 1) y)
            (endQ fun r S' => Pl (6 * b + 10) (k + 1) r ∧ StOk S') .next [.ref 0, .val (.tuple xs), .val (.int k'), .val (.int j), .val (.list ys), .no, .no] S := ⟨ys, rfl, hs, by omega, by omega, hym⟩
        have r3 : rng1 (.int 3) = some [.int 0, .int 1, .int 2] := rfl
        simp_arith! [fd_law_changed, stepQ_next]
        by_cases h1 : (k' : Int) < (j : Int)
        · by_cases h2 : (j : Int) < (xs.length : Int)
          · have d1 := decide_eq_true h1
            have d2 := decide_eq_true h2
            simp_arith! [d1, d2, r3, evG, evIt, evC, okList, catM, bindTg, wipeE, ok_calm, stepQ_next]
            refine ⟨by bv_omega, by bv_omega, by bv_omega, by bv_omega, by bv_omega, by bv_omega, by bv_omega, by bv_omega, by bv_omega, by bv_omega, by bv_omega, by bv_omega, ?_⟩
            rw [ok_sized]
            refine ⟨by bv_omega, ?_⟩
            skip
            refine ⟨by bv_omega, _, rfl, hs, by bv_omega, by bv_omega, mem_app (P := Pl (6 * b + 10) (k + 1)) hym ?_⟩
            have q : Pl (6 * b + 10) (k + 1) (.tuple (xs.take k' ++ (xs.drop j).take 1 ++ (xs.drop (k' + 1)).take (j - (k' + 1)) ++ (xs.drop k').take 1 ++ xs.drop (j + 1))) :=
              pl_tuple.mpr ⟨by bv_omega, by and_intros⟩
            intro y hy
            simp only [List.mem_cons, List.not_mem_nil, or_false, or_self] at hy
            rw [hy]
            exact q
          · have d1 := decide_eq_true h1
            have d2 := decide_eq_false h2
            simp_arith! [d1, d2]
            exact keep
        · have d1 := decide_eq_false h1
          simp_arith! [d1]
          exact keep
      rintro _ S ⟨ys, rfl, hs, hy0, hy1, hym⟩
      simp_arith! [fd_law_changed]
      refine (law_next_ok hN (L := ys.length) hy0 (by omega) hs).mono ?_
      rintro _ S ⟨r, hr, rfl, hs⟩
      refine ok_pick hr ?_
      exact fun y hy => ⟨hym y hy, hs⟩
    | dict xs => exact (pl_dict hd).elim
end
end L2.DL

set_option maxHeartbeats 4000000
/-! The plain laws, eighth part: _law_ints, _law_exchanged. -/
namespace L2.DL
open PySem PyProof.Rows
open Lean in
local macro_rules
  | `(tactic| simp_arith) => `(tactic| simp_arith [])
  | `(tactic| simp_arith [$ls,*]) => `(tactic| simp only [List.cons_append, List.nil_append, Nat.reduceSub, List.replicate, oks_cons, oks_nil, oks_fin, oks_lift, evS, evT, evE, evO, evEs, evAs, ok_bind, ok_pure, ok_some, getRef, getVal, getOwn, List.getElem?_cons_zero, List.getElem?_cons_succ, List.set_cons_zero, List.set_cons_succ, ok_cell0,
    thenQ_next, thenQ_ret, endQ_ret, endQ_next, idxl0, idxl1, idxl2, idxl3, put1, put2, put3, biD, binD, cmpD, len_list, len_tuple, add_int, sub_int, aadd_int, asub_int, int_int, int_bool, tru_bool, tru_int, tru_none, tru_list, tru_tuple, eqD_int, neD_int, ltD_int, leD_int, gtD_int, geD_int, pow18, if_true, if_false, Bool.false_eq_true, Bool.not_false, Bool.not_true, ↓reduceIte, $ls,*])
open Lean in
local macro_rules
  | `(tactic| simp_arith!) => `(tactic| simp_arith! [])
  | `(tactic| simp_arith! [$ls,*]) => `(tactic| simp_arith [isiD, isiT, List.any_cons, List.any_nil, Bool.or_false, Bool.false_or, Bool.true_or, Bool.or_true, List.forall_mem_cons, List.not_mem_nil, false_implies, implies_true, true_and, and_true, and_assoc, isnD, nonD, isNoneD, pl_none, pl_bool, pl_int, orv_int, ok_str_int, ok_add_tuple, ok_add_list, ok_add_str, ok_sli_str, ok_rev_str, ok_len_str, rev_tuple, rev_list, sli_tuple, sli_list, list_list, list_tuple, tup_list, tup_tuple, len_tuple, len_list, cut_to, cut_from, cut_from1, cut_one, cut_1mid, cut_lit1, cut_litf1, $ls,*])
open Lean in
local macro_rules | `(tactic| and_intros) => `(tactic| first | assumption | (exact fun x hx => absurd hx List.not_mem_nil) | (apply mem_take; and_intros) | (apply mem_drop; and_intros) | (apply mem_rev; and_intros) | (apply mem_app <;> and_intros) | (apply mem_one; first | assumption | exact pl_int.mpr (Nat.two_pow_pos _)))
open Lean in
local macro_rules | `(tactic| bv_omega) => `(tactic| (first | omega | (simp only [List.length_append, List.length_take, List.length_drop, List.length_reverse, List.length_cons, List.length_nil] at *; omega)))
/-- a run over a row: what each item gives -/
theorem ok_cat {α β : Type} {f : α → Mn (List β)} (I : Store → Prop) (P : β → Prop) (c : Nat) : ∀ (xs : List α) (S : Store), I S → (∀ x ∈ xs, ∀ S, I S → Ok (f x) S (fun ys S' => I S' ∧ ys.length ≤ c ∧ ∀ y ∈ ys, P y)) →
    Ok (catM f xs) S (fun ys S' => I S' ∧ ys.length ≤ c * xs.length ∧ ∀ y ∈ ys, P y)
  | [], S, hS, _ => ok_pure.mpr ⟨hS, Nat.zero_le _, fun y hy => absurd hy List.not_mem_nil⟩
  | x :: r, S, hS, h => by
    rw [catM, ok_bind]
    refine (h x List.mem_cons_self S hS).mono ?_
    rintro ys S1 ⟨h1, h2, h3⟩
    rw [ok_bind]
    refine (ok_cat I P c r S1 h1 fun y hy => h y (List.mem_cons_of_mem _ hy)).mono ?_
    rintro zs S2 ⟨h4, h5, h6⟩
    rw [ok_pure]
    refine ⟨h4, ?_, mem_app h3 h6⟩
    rw [List.length_append, List.length_cons, Nat.mul_succ]
    omega
/-- a run over a row where each item gives one -/
theorem ok_cat1 {α β : Type} {f : α → Mn (List β)} (I : Store → Prop) (P : β → Prop) : ∀ (xs : List α) (S : Store), I S → (∀ x ∈ xs, ∀ S, I S → Ok (f x) S (fun ys S' => I S' ∧ ys.length = 1 ∧ ∀ y ∈ ys, P y)) →
    Ok (catM f xs) S (fun ys S' => I S' ∧ ys.length = xs.length ∧ ∀ y ∈ ys, P y)
  | [], S, hS, _ => ok_pure.mpr ⟨hS, rfl, fun y hy => absurd hy List.not_mem_nil⟩
  | x :: r, S, hS, h => by
    rw [catM, ok_bind]
    refine (h x List.mem_cons_self S hS).mono ?_
    rintro ys S1 ⟨h1, h2, h3⟩
    rw [ok_bind]
    refine (ok_cat1 I P r S1 h1 fun y hy => h y (List.mem_cons_of_mem _ hy)).mono ?_
    rintro zs S2 ⟨h4, h5, h6⟩
    rw [ok_pure]
    refine ⟨h4, ?_, mem_app h3 h6⟩
    rw [List.length_append, List.length_cons, h2, h5, Nat.add_comm]
/-- behind one turn of a loop -/
def loopQ (I J : Env → Store → Prop) (Q : Flow → Env → Store → Prop) : Flow → Env → Store → Prop
  | .next, ρ, S => I ρ S
  | .cont, ρ, S => I ρ S
  | .brk, ρ, S => J ρ S
  | f, ρ, S => Q f ρ S
theorem loopQ_next {I J : Env → Store → Prop} {Q ρ S} : loopQ I J Q .next ρ S = I ρ S := rfl
theorem loopQ_cont {I J : Env → Store → Prop} {Q ρ S} : loopQ I J Q .cont ρ S = I ρ S := rfl
theorem loopQ_brk {I J : Env → Store → Prop} {Q ρ S} : loopQ I J Q .brk ρ S = J ρ S := rfl
theorem loopQ_ret {I J : Env → Store → Prop} {Q ρ S d} : loopQ I J Q (.ret d) ρ S = Q (.ret d) ρ S := rfl
/-- a loop: I holds of what is left -/
theorem oks_for {body : PyData → Env → Store → SRes} {Q : Flow → Env → Store → Prop} (I : List PyData → Env → Store → Prop)
    (h : ∀ x r ρ S, I (x :: r) ρ S → Ends (body x ρ S) (loopQ (I r) (I []) Q)) : ∀ xs ρ S, I xs ρ S → Ends (forS body xs ρ S) (stepQ (I []) Q)
  | [], ρ, S, hi => by
    rw [forS, oks_fin]
    exact hi
  | x :: r, ρ, S, hi => by
    obtain ⟨f, ρ', S', e, q⟩ := h x r ρ S hi
    rw [forS, e]
    cases f with
    | next => exact oks_for I h r ρ' S' q
    | cont => exact oks_for I h r ρ' S' q
    | brk => exact oks_fin.mpr q
    | ret d => exact oks_fin.mpr q
theorem oks_forI {body : PyData → Env → Store → SRes} {Q : Flow → Env → Store → Prop} {R : Env → Store → Prop} {xs : List PyData} {ρ : Env} {S : Store} (I : List PyData → Env → Store → Prop) (h0 : I xs ρ S)
    (h : ∀ x r ρ S, I (x :: r) ρ S → Ends (body x ρ S) (loopQ (I r) (I []) Q)) (h1 : ∀ ρ S, I [] ρ S → R ρ S) : Ends (forS body xs ρ S) (stepQ R Q) := by
  refine (oks_for I h xs ρ S h0).mono ?_
  intro f ρ' S' q
  cases f with
  | next => exact h1 ρ' S' q
  | brk => exact q
  | cont => exact q
  | ret d => exact q
theorem sh_ints (ys : List Int) : SeqAt.shaped (.list (ys.map PyData.int)) = true := by
  unfold SeqAt.shaped
  rw [PyData.canLay0, PyData.depth, canLayAll0_mem _ fun x hx => ?_]
  · have h := depthAll_mem 0 (ys.map PyData.int) fun x hx => by
      obtain ⟨i, _, rfl⟩ := List.mem_map.mp hx
      exact Nat.le_refl _
    rw [decide_eq_true (show _ ≤ 64 by omega)]
    rfl
  · obtain ⟨i, _, rfl⟩ := List.mem_map.mp hx
    rfl
theorem notin_ints (y : Int) (ys : List Int) : notinD (.int y) (.list (ys.map PyData.int)) = some (!(ys.map PyData.int).any fun z => PyData.eqv z (.int y)) := by
  show (if SeqAt.shaped (.int y) && SeqAt.shaped (.list (ys.map PyData.int)) then _ else _) = _
  rw [sh_ints, sh_int]
  rfl
theorem all_ints {P : Int → Prop} : ∀ a : List PyData, (∀ y ∈ a, ∃ i : Int, y = .int i ∧ P i) → ∃ zs : List Int, a = zs.map PyData.int ∧ ∀ z ∈ zs, P z
  | [], _ => ⟨[], rfl, fun y hy => absurd hy List.not_mem_nil⟩
  | x :: r, h => by
    obtain ⟨i, rfl, hi⟩ := h x List.mem_cons_self
    obtain ⟨zs, rfl, hz⟩ := all_ints r fun y hy => h y (List.mem_cons_of_mem _ hy)
    exact ⟨i :: zs, rfl, List.forall_mem_cons.mpr ⟨hi, hz⟩⟩
section
variable {tab : Tab} {b : Nat}
/-- value with one and other exchanged -/
theorem law_exchanged_ok (h : tab "_law_exchanged" = some fd_law_exchanged) (i j : Int) (hi : i.natAbs < 2 ^ b) (hj : j.natAbs < 2 ^ b) (hb : b ≤ 100000) :
    ∀ (k : Nat) (d : PyData) (n : Nat) (S : Store), Pl b k d → StOk S → Ok (callF tab (n + k + 1) "_law_exchanged" [.val d, .val (.int i), .val (.int j)]) S (fun r S' => Pl b k r ∧ StOk S') := by
  have leaf : ∀ (k : Nat) (d : PyData) (n : Nat) (S : Store), (match d with | .tuple _ => False | _ => True) → Pl b k d → StOk S → Ok (callF tab (n + k + 1) "_law_exchanged" [.val d, .val (.int i), .val (.int j)]) S (fun r S' => Pl b k r ∧ StOk S') := by
    intro k d n S ht hd hs
    rw [ok_call h rfl]
    cases d with
    | tuple xs => exact ht.elim
    | dict xs => exact (pl_dict hd).elim
    | int a =>
      simp_arith! [fd_law_exchanged]
      by_cases h1 : a = i
      · have d1 := decide_eq_true h1
        simp_arith! [d1]
        exact ⟨hj, hs⟩
      · have d1 := decide_eq_false h1
        by_cases h2 : a = j
        · have d2 := decide_eq_true h2
          simp_arith! [d1, d2]
          exact ⟨hi, hs⟩
        · have d2 := decide_eq_false h2
          simp_arith! [d1, d2]
          exact ⟨pl_int.mp hd, hs⟩
    | none => simp_arith! [fd_law_exchanged]; exact hs
    | bool x => simp_arith! [fd_law_exchanged]; exact hs
    | str x => simp_arith! [fd_law_exchanged]; exact ⟨hd, hs⟩
    | list xs => simp_arith! [fd_law_exchanged]; exact ⟨hd, hs⟩
  intro k
  induction k with
  | zero =>
    intro d n S hd hs
    cases d with
    | tuple xs => exact (pl_tuple0 hd).elim
    | dict xs => exact (pl_dict hd).elim
    | _ => exact leaf 0 _ n S True.intro hd hs
  | succ k ih =>
    intro d n S hd hs
    cases d with
    | dict xs => exact (pl_dict hd).elim
    | tuple xs =>
      rw [ok_call h rfl]
      simp_arith! [fd_law_exchanged, evG, evIt, evC, iterOf, bindTg, wipeE, ok_calm, okList]
      refine (ok_cat1 StOk (Pl b k) xs S hs ?_).mono ?_
      · intro x hx S hs
        simp_arith!
        refine (ih x n S ((pl_tuple.mp hd).2 x hx) hs).mono ?_
        rintro y S ⟨h1, h2⟩
        exact ⟨h2, rfl, h1⟩
      · rintro ys S ⟨h1, h2, h3⟩
        have hl := (pl_tuple.mp hd).1
        have hz := sizeLine_eq
        rw [ok_sized]
        exact ⟨by omega, pl_tuple.mpr ⟨by omega, h3⟩, h1⟩
    | _ => exact leaf (k + 1) _ n S True.intro hd hs
/-- the numbers within -/
theorem law_ints_ok (h : tab "_law_ints" = some fd_law_ints) (hb0 : 1 ≤ b) :
    ∀ (k : Nat) (d : PyData) (n : Nat) (S : Store), k ≤ 60 → b ^ (k + 1) ≤ sizeLine → Pl b k d → StOk S → Ok (callF tab (n + k + 1) "_law_ints" [.val d]) S (fun r S' => (∃ ys : List Int, r = .list (ys.map PyData.int) ∧ ys.length ≤ b ^ k ∧ ∀ y ∈ ys, y.natAbs < 2 ^ b) ∧ StOk S') := by
  have leaf : ∀ (k : Nat) (d : PyData) (n : Nat) (S : Store), (match d with | .tuple _ => False | _ => True) → Pl b k d → StOk S → Ok (callF tab (n + k + 1) "_law_ints" [.val d]) S (fun r S' => (∃ ys : List Int, r = .list (ys.map PyData.int) ∧ ys.length ≤ b ^ k ∧ ∀ y ∈ ys, y.natAbs < 2 ^ b) ∧ StOk S') := by
    intro k d n S ht hd hs
    rw [ok_call h rfl]
    cases d with
    | tuple xs => exact ht.elim
    | dict xs => exact (pl_dict hd).elim
    | int a =>
      simp_arith! [fd_law_ints]
      refine ⟨⟨[a], rfl, ?_, ?_⟩, hs⟩
      · exact Nat.one_le_pow _ _ hb0
      · intro y hy
        rw [List.mem_singleton] at hy
        rw [hy]
        exact pl_int.mp hd
    | none => simp_arith! [fd_law_ints]; exact ⟨⟨[], rfl, Nat.zero_le _, fun y hy => absurd hy List.not_mem_nil⟩, hs⟩
    | bool x => simp_arith! [fd_law_ints]; exact ⟨⟨[], rfl, Nat.zero_le _, fun y hy => absurd hy List.not_mem_nil⟩, hs⟩
    | str x => simp_arith! [fd_law_ints]; exact ⟨⟨[], rfl, Nat.zero_le _, fun y hy => absurd hy List.not_mem_nil⟩, hs⟩
    | list xs => simp_arith! [fd_law_ints]; exact ⟨⟨[], rfl, Nat.zero_le _, fun y hy => absurd hy List.not_mem_nil⟩, hs⟩
  intro k
  induction k with
  | zero =>
    intro d n S hk hp hd hs
    cases d with
    | tuple xs => exact (pl_tuple0 hd).elim
    | dict xs => exact (pl_dict hd).elim
    | _ => exact leaf 0 _ n S True.intro hd hs
  | succ k ih =>
    intro d n S hk hp hd hs
    cases d with
    | dict xs => exact (pl_dict hd).elim
    | tuple xs =>
      rw [ok_call h rfl]
      show Ends (evSs _ (.cons _ _) _ _) _
      refine oks_step (fun ρ' S' => ρ' = [.val (.tuple xs), .no, .no, .no] ∧ StOk S') (by simp_arith! [fd_law_ints, stepQ_next]; exact hs) ?_
      rintro _ S ⟨rfl, hs⟩
      show Ends (evSs _ (.cons _ _) _ _) _
      refine oks_step (fun ρ' S' => ρ' = [.val (.tuple xs), .no, .no, .no] ∧ StOk S') (by simp_arith! [fd_law_ints, stepQ_next]; exact hs) ?_
      rintro _ S ⟨rfl, hs⟩
      show Ends (evSs _ (.cons _ _) _ _) _
      refine oks_step (fun ρ' S' => ρ' = [.val (.tuple xs), .val (.list []), .no, .no] ∧ StOk S') (by simp_arith! [fd_law_ints, stepQ_next]; exact hs) ?_
      rintro _ S ⟨rfl, hs⟩
      show Ends (evSs _ (.cons _ _) _ _) _
      refine oks_step (fun ρ' S' => ∃ (ys : List Int) (w : Slot), ρ' = [.val (.tuple xs), .val (.list (ys.map PyData.int)), w, .no] ∧ StOk S' ∧ ys.length ≤ b ^ (k + 1) ∧ ∀ y ∈ ys, y.natAbs < 2 ^ b) ?_ ?_
      · simp_arith! [fd_law_ints, evIt, iterOf]
        have hxl := (pl_tuple.mp hd).1
        have hpow : b ^ k * xs.length ≤ b ^ (k + 1) := by
          rw [Nat.pow_succ]
          exact Nat.mul_le_mul_left _ hxl
        have hp0 : b ^ (k + 1) ≤ sizeLine := Nat.le_trans (Nat.pow_le_pow_right hb0 (by omega)) hp
        refine oks_forI (fun r ρ' S' => ∃ (ys : List Int) (w : Slot), ρ' = [.val (.tuple xs), .val (.list (ys.map PyData.int)), w, .no] ∧ StOk S' ∧ ys.length + b ^ k * r.length ≤ b ^ k * xs.length ∧ (∀ y ∈ ys, y.natAbs < 2 ^ b) ∧ ∀ x ∈ r, Pl b k x) ⟨[], _, rfl, hs, by simp, fun y hy => absurd hy List.not_mem_nil, (pl_tuple.mp hd).2⟩ ?_ ?_
        · rintro x r ρ S ⟨ys, w, rfl, hs, h1, h2, h3⟩
          rw [List.length_cons, Nat.mul_succ] at h1
          simp_arith! [evG, evC, bindTg, wipeE, ok_calm, okList, evIt, iterOf]
          refine (ih x n S (by omega) hp0 (h3 x List.mem_cons_self) hs).mono ?_
          rintro _ S ⟨⟨zs, rfl, h4, h5⟩, hs⟩
          simp_arith!
          refine (ok_cat StOk (fun y => ∃ i : Int, y = .int i ∧ i.natAbs < 2 ^ b) 1 _ S hs ?_).mono ?_
          · intro x' hx' S hs
            obtain ⟨i, hi, rfl⟩ := List.mem_map.mp hx'
            simp_arith! [notin_ints]
            split
            · simp_arith!
              exact ⟨hs, Nat.le_refl _, i, rfl, h5 i hi⟩
            · simp_arith!
              exact ⟨hs, Nat.zero_le _⟩
          · rintro a S ⟨hs, h6, h7⟩
            obtain ⟨us, rfl, h8⟩ := all_ints a h7
            rw [List.length_map, List.length_map] at h6
            rw [ok_sized]
            refine ⟨by rw [List.length_map]; omega, by rw [List.length_map, List.length_map]; omega, ?_⟩
            rw [loopQ_next]
            exact ⟨ys ++ us, _, by rw [List.map_append], hs, by rw [List.length_append]; omega, mem_app h2 h8, fun y hy => h3 y (List.mem_cons_of_mem _ hy)⟩
        · rintro _ S' ⟨ys, w, rfl, hs, h1, h2, h3⟩
          exact ⟨ys, w, rfl, hs, by simp only [List.length_nil, Nat.mul_zero] at h1; omega, h2⟩
      rintro _ S ⟨ys, w, rfl, hs, h1, h2⟩
      simp_arith! [fd_law_ints]
      exact ⟨⟨ys, rfl, h1, h2⟩, hs⟩
    | _ => exact leaf (k + 1) _ n S True.intro hd hs
end
end L2.DL

set_option maxHeartbeats 4000000
/-! The plain laws, ninth part: joined texts, _law_cut. -/
namespace L2.DL
open PySem PyProof.Rows
open Lean in
local macro_rules
  | `(tactic| simp_arith) => `(tactic| simp_arith [])
  | `(tactic| simp_arith [$ls,*]) => `(tactic| simp only [List.cons_append, List.nil_append, Nat.reduceSub, List.replicate, oks_cons, oks_nil, oks_fin, oks_lift, evS, evT, evE, evO, evEs, evAs, ok_bind, ok_pure, ok_some, getRef, getVal, getOwn, List.getElem?_cons_zero, List.getElem?_cons_succ, List.set_cons_zero, List.set_cons_succ, ok_cell0,
    thenQ_next, thenQ_ret, endQ_ret, endQ_next, idxl0, idxl1, idxl2, idxl3, put1, put2, put3, biD, binD, cmpD, len_list, len_tuple, add_int, sub_int, aadd_int, asub_int, int_int, int_bool, tru_bool, tru_int, tru_none, tru_list, tru_tuple, eqD_int, neD_int, ltD_int, leD_int, gtD_int, geD_int, pow18, if_true, if_false, Bool.false_eq_true, Bool.not_false, Bool.not_true, ↓reduceIte, $ls,*])
open Lean in
local macro_rules
  | `(tactic| simp_arith!) => `(tactic| simp_arith! [])
  | `(tactic| simp_arith! [$ls,*]) => `(tactic| simp_arith [isiD, isiT, List.any_cons, List.any_nil, Bool.or_false, Bool.false_or, Bool.true_or, Bool.or_true, List.forall_mem_cons, List.not_mem_nil, false_implies, implies_true, true_and, and_true, and_assoc, isnD, nonD, isNoneD, pl_none, pl_bool, pl_int, orv_int, ok_str_int, ok_add_tuple, ok_add_list, ok_add_str, ok_sli_str, ok_rev_str, ok_len_str, rev_tuple, rev_list, sli_tuple, sli_list, list_list, list_tuple, tup_list, tup_tuple, len_tuple, len_list, cut_to, cut_from, cut_from1, cut_one, cut_1mid, cut_lit1, cut_litf1, $ls,*])
open Lean in
local macro_rules | `(tactic| and_intros) => `(tactic| first | assumption | (exact fun x hx => absurd hx List.not_mem_nil) | (apply mem_take; and_intros) | (apply mem_drop; and_intros) | (apply mem_rev; and_intros) | (apply mem_app <;> and_intros) | (apply mem_one; first | assumption | exact pl_int.mpr (Nat.two_pow_pos _)))
open Lean in
local macro_rules | `(tactic| bv_omega) => `(tactic| (first | omega | (simp only [List.length_append, List.length_take, List.length_drop, List.length_reverse, List.length_cons, List.length_nil] at *; omega)))
theorem strsOf_map : ∀ zs : List Str, strsOf (zs.map PyData.str) = some zs
  | [] => rfl
  | z :: r => by
    show (strsOf (r.map PyData.str)).map (z :: ·) = some (z :: r)
    rw [strsOf_map r]
    rfl
theorem join_len (a : Str) (ha : a.length = 0) : ∀ (zs : List Str), (Str.join a zs).length = (zs.map (·.length)).sum
  | [] => rfl
  | [x] => by simp [Str.join]
  | x :: y :: r => by
    have ih := join_len a ha (y :: r)
    rw [Str.join, len_app, len_app, ih, ha, List.map_cons, List.sum_cons]
    rfl
    exact List.cons_ne_nil _ _
theorem join_ok (a : Str) (ha : PyData.strOk a = true) : ∀ (zs : List Str), (∀ z ∈ zs, PyData.strOk z = true) → PyData.strOk (Str.join a zs) = true
  | [], _ => by
    show PyData.strOk Str.empty = true
    decide +kernel
  | [x], h => h x List.mem_cons_self
  | x :: y :: r, h => by
    rw [Str.join]
    exact strOk_app (strOk_app (h x List.mem_cons_self) ha) (join_ok a ha (y :: r) fun z hz => h z (List.mem_cons_of_mem _ hz))
    exact List.cons_ne_nil _ _
theorem sum_le (b : Nat) : ∀ (zs : List Str), (∀ z ∈ zs, z.length ≤ b) → (zs.map (·.length)).sum ≤ b * zs.length
  | [], _ => Nat.zero_le _
  | x :: r, h => by
    rw [List.map_cons, List.sum_cons, List.length_cons, Nat.mul_succ]
    have h1 := h x List.mem_cons_self
    have h2 := sum_le b r fun z hz => h z (List.mem_cons_of_mem _ hz)
    omega
theorem all_strs {b k : Nat} {P : Str → Prop} : ∀ a : List PyData, (∀ y ∈ a, ∃ s : Str, y = .str s ∧ P s) → ∃ zs : List Str, a = zs.map PyData.str ∧ ∀ z ∈ zs, P z
  | [], _ => ⟨[], rfl, fun y hy => absurd hy List.not_mem_nil⟩
  | x :: r, h => by
    obtain ⟨i, rfl, hi⟩ := h x List.mem_cons_self
    obtain ⟨zs, rfl, hz⟩ := all_strs (b := b) (k := k) r fun y hy => h y (List.mem_cons_of_mem _ hy)
    exact ⟨i :: zs, rfl, List.forall_mem_cons.mpr ⟨hi, hz⟩⟩
/-- a row of texts, joined -/
theorem ok_join {a : Str} (ha : a.length = 0) {zs : List Str} {S : Store} {Q : PyData → Store → Prop} (hz : (zs.map (·.length)).sum ≤ sizeLine) (hq : Q (.str (Str.join a zs)) S) : Ok (ofOpt (joinD a (.tuple (zs.map PyData.str)))) S Q := by
  have e : joinD a (.tuple (zs.map PyData.str)) = some (.str (Str.join a zs)) := by
    show ((strsOf (zs.map PyData.str)).bind fun zs => if (zs.map (·.length)).sum + zs.length * a.length ≤ 16777216 then some (PyData.str (Txt.join a zs)) else none) = _
    rw [strsOf_map, Option.bind_some, ha, Nat.mul_zero, Nat.add_zero, if_pos (show _ ≤ 16777216 from hz), show Txt.join a zs = Str.join a zs from StrLaws.glued_eq_join a zs]
  rw [e, ok_some]
  exact hq
end L2.DL

set_option maxHeartbeats 4000000
/-! The plain laws, tenth part: _law_cut. -/
namespace L2.DL
open PySem PyProof.Rows
open Lean in
local macro_rules
  | `(tactic| simp_arith) => `(tactic| simp_arith [])
  | `(tactic| simp_arith [$ls,*]) => `(tactic| simp only [List.cons_append, List.nil_append, Nat.reduceSub, List.replicate, oks_cons, oks_nil, oks_fin, oks_lift, evS, evT, evE, evO, evEs, evAs, ok_bind, ok_pure, ok_some, getRef, getVal, getOwn, List.getElem?_cons_zero, List.getElem?_cons_succ, List.set_cons_zero, List.set_cons_succ, ok_cell0,
    thenQ_next, thenQ_ret, endQ_ret, endQ_next, idxl0, idxl1, idxl2, idxl3, put1, put2, put3, biD, binD, cmpD, len_list, len_tuple, add_int, sub_int, aadd_int, asub_int, int_int, int_bool, tru_bool, tru_int, tru_none, tru_list, tru_tuple, eqD_int, neD_int, ltD_int, leD_int, gtD_int, geD_int, pow18, if_true, if_false, Bool.false_eq_true, Bool.not_false, Bool.not_true, ↓reduceIte, $ls,*])
open Lean in
local macro_rules
  | `(tactic| simp_arith!) => `(tactic| simp_arith! [])
  | `(tactic| simp_arith! [$ls,*]) => `(tactic| simp_arith [isiD, isiT, List.any_cons, List.any_nil, Bool.or_false, Bool.false_or, Bool.true_or, Bool.or_true, List.forall_mem_cons, List.not_mem_nil, false_implies, implies_true, true_and, and_true, and_assoc, isnD, nonD, isNoneD, pl_none, pl_bool, pl_int, orv_int, ok_str_int, ok_add_tuple, ok_add_list, ok_add_str, ok_sli_str, ok_rev_str, ok_len_str, rev_tuple, rev_list, sli_tuple, sli_list, list_list, list_tuple, tup_list, tup_tuple, len_tuple, len_list, cut_to, cut_from, cut_from1, cut_one, cut_1mid, cut_lit1, cut_litf1, $ls,*])
open Lean in
local macro_rules | `(tactic| and_intros) => `(tactic| first | assumption | (exact fun x hx => absurd hx List.not_mem_nil) | (apply mem_take; and_intros) | (apply mem_drop; and_intros) | (apply mem_rev; and_intros) | (apply mem_app <;> and_intros) | (apply mem_one; first | assumption | exact pl_int.mpr (Nat.two_pow_pos _)))
open Lean in
local macro_rules | `(tactic| bv_omega) => `(tactic| (first | omega | (simp only [List.length_append, List.length_take, List.length_drop, List.length_reverse, List.length_cons, List.length_nil] at *; omega)))
/-- a run over a row that changes nothing -/
theorem ok_catP {α β : Type} {f : α → Mn (List β)} (g : α → List β) {S : Store} : ∀ (xs : List α), (∀ x ∈ xs, Ok (f x) S (fun ys S' => ys = g x ∧ S' = S)) → Ok (catM f xs) S (fun ys S' => ys = xs.flatMap g ∧ S' = S)
  | [], _ => ok_pure.mpr ⟨rfl, rfl⟩
  | x :: r, h => by
    rw [catM, ok_bind]
    refine (h x List.mem_cons_self).mono ?_
    rintro ys S1 ⟨rfl, rfl⟩
    rw [ok_bind]
    refine (ok_catP g r fun y hy => h y (List.mem_cons_of_mem _ hy)).mono ?_
    rintro zs S2 ⟨rfl, rfl⟩
    rw [ok_pure]
    exact ⟨rfl, rfl⟩
def isStr : PyData → Bool
  | .str _ => true
  | _ => false
theorem isi_str (x : PyData) : isiT .str x = isStr x := by cases x <;> rfl
theorem sh_nilL : SeqAt.shaped (.list []) = true := rfl
theorem eqv_nilL {xs : List PyData} : PyData.eqv (.list xs) (.list []) = xs.isEmpty := by
  cases xs <;> rw [PyData.eqv] <;> rfl
theorem ok_ne_nilL {b k : Nat} {ds : List PyData} {S : Store} {Q : Bool → Store → Prop} (hk : k < 64) (hl : ds.length ≤ b) (h : ∀ x ∈ ds, Pl b k x) : Ok (ofOpt (neD (.list ds) (.list []))) S Q ↔ Q (!ds.isEmpty) S := by
  have p : Pl b (k + 1) (.list ds) := pl_list.mpr ⟨hl, h⟩
  rw [ok_ne_sh (p.shaped (by omega)) sh_nilL, eqv_nilL]
theorem ok_eq_nilL {b k : Nat} {ds : List PyData} {S : Store} {Q : Bool → Store → Prop} (hk : k < 64) (hl : ds.length ≤ b) (h : ∀ x ∈ ds, Pl b k x) : Ok (ofOpt (eqD (.list ds) (.list []))) S Q ↔ Q ds.isEmpty S := by
  have p : Pl b (k + 1) (.list ds) := pl_list.mpr ⟨hl, h⟩
  rw [ok_eq_sh (p.shaped (by omega)) sh_nilL, eqv_nilL]
def isTupD : PyData → Bool
  | .tuple _ => true
  | _ => false
theorem pt {b k : Nat} {xs : List PyData} {d : PyData} (h : Pl b k (.tuple xs)) : Pl b k (.tuple xs) ∧ (isTupD d = true → isTupD (.tuple xs) = true) := ⟨h, fun _ => rfl⟩
theorem isTupD_tuple {xs : List PyData} : isTupD (.tuple xs) = true := rfl
section
variable {tab : Tab} {b : Nat}
theorem law_cut_ok (hN : tab "_law_next" = some fd_law_next) (h : tab "_law_cut" = some fd_law_cut) (hb : 5 ≤ b) (hb2 : b ≤ 1000) :
    ∀ (k : Nat) (d : PyData) (n : Nat) (S : Store), k ≤ 60 → Pl b k d → StOk S → Ok (callF tab (n + k + 2) "_law_cut" [.ref 0, .val d]) S (fun r S' => (Pl (b * b + b + 10) k r ∧ (isTupD d = true → isTupD r = true)) ∧ StOk S') := by
  have leaf : ∀ (k : Nat) (d : PyData) (n : Nat) (S : Store), (match d with | .tuple _ => False | _ => True) → Pl b k d → StOk S → Ok (callF tab (n + k + 2) "_law_cut" [.ref 0, .val d]) S (fun r S' => (Pl (b * b + b + 10) k r ∧ (isTupD d = true → isTupD r = true)) ∧ StOk S') := by
    intro k d n S ht hd hs
    rw [show n + k + 2 = (n + k + 1) + 1 from rfl, ok_call h rfl]
    have hd' : Pl (b * b + b + 10) k d := hd.mono (by omega) (Nat.le_refl _)
    cases d with
    | tuple xs => exact ht.elim
    | _ => simp_arith! [fd_law_cut]; first | exact hs | exact ⟨hd', id, hs⟩ | exact ⟨pl_int.mp hd', id, hs⟩ | exact ⟨id, hs⟩
  intro k
  induction k with
  | zero =>
    intro d n S hk hd hs
    cases d with
    | tuple xs => exact (pl_tuple0 hd).elim
    | _ => exact leaf 0 _ n S True.intro hd hs
  | succ k ih =>
    intro d n S hk hd hs
    cases d with
    | tuple xs =>
      rw [show n + (k + 1) + 2 = (n + (k + 1) + 1) + 1 from rfl, ok_call h rfl]
      have es := eqD_sh (hd.shaped (by omega)) sh_nil
      rw [eqv_nil] at es
      have hm := (pl_tuple.mp hd).2
      have hl := (pl_tuple.mp hd).1
      cases hx : xs.isEmpty with
      | true =>
        rw [hx] at es
        have hd' : Pl (b * b + b + 10) (k + 1) (.tuple xs) := hd.mono (by omega) (Nat.le_refl _)
        simp_arith! [fd_law_cut, es]
        exact ⟨hd', id, hs⟩
      | false =>
        rw [hx] at es
        have h0 : 0 < xs.length := by
          cases xs with
          | nil => cases hx
          | cons x r => exact Nat.succ_pos _
        show Ends (evSs _ (.cons _ _) _ _) _
        refine oks_step (fun ρ' S' => ρ' = [.ref 0, .val (.tuple xs), .no, .no, .no, .no] ∧ StOk S') (by simp_arith! [fd_law_cut, es, stepQ_next]; exact hs) ?_
        rintro _ S ⟨rfl, hs⟩
        show Ends (evSs _ (.cons _ _) _ _) _
        refine oks_step (fun ρ' S' => ρ' = [.ref 0, .val (.tuple xs), .no, .no, .no, .no] ∧ StOk S' ∧ ∀ x ∈ xs, isStr x = true) ?_ ?_
        · simp_arith! [fd_law_cut, evG, evIt, evC, iterOf, bindTg, wipeE, ok_calm, okList, stepQ_next]
          refine (ok_catP (fun x => if isStr x then [] else [x]) xs ?_).mono ?_
          · intro x hx
            cases x <;> (simp_arith!; rfl)
          · rintro ds S1 ⟨rfl, rfl⟩
            have hz := sizeLine_eq
            have q1 : (xs.flatMap fun x => if isStr x then [] else [x]) = xs.filter fun x => !isStr x := by
              clear hx h0 es hl hm hd
              induction xs with
              | nil => rfl
              | cons x r ih =>
                rw [List.flatMap_cons, ih, List.filter_cons]
                cases isStr x <;> rfl
            rw [q1, ok_sized]
            have q2 := List.length_filter_le (fun x => !isStr x) xs
            refine ⟨by omega, ?_⟩
            rw [ok_ne_nilL (b := b) (k := k) (by omega) (by omega) fun x hx => hm x (List.mem_filter.mp hx).1, oks_if]
            split
            · simp_arith! [fd_law_cut]
              refine (law_next_ok hN (L := xs.length) h0 (by omega) hs).mono ?_
              rintro _ S ⟨r, hr, rfl, hs⟩
              simp_arith! [stepQ_next, idxt]
              rw [ok_idx hr]
              refine (ih xs[r] n S (by omega) (hm _ (List.getElem_mem hr)) hs).mono ?_
              rintro x S ⟨⟨hx1, _⟩, hs⟩
              refine ⟨by bv_omega, by bv_omega, ?_⟩
              rw [stepQ_ret, endQ_ret]
              have hm' : ∀ x ∈ xs, Pl (b * b + b + 10) k x := fun x hx => (hm x hx).mono (by omega) (Nat.le_refl _)
              exact ⟨pl_tuple.mpr ⟨by bv_omega, mem_app (mem_app (mem_take hm') (mem_one hx1)) (mem_drop hm')⟩, fun _ => rfl, hs⟩
            · next hc =>
              simp_arith! [stepQ_next]
              refine ⟨hs, ?_⟩
              intro x hx
              cases e : isStr x with
              | true => rfl
              | false =>
                have m : x ∈ xs.filter fun x => !isStr x := List.mem_filter.mpr ⟨hx, by rw [e]; rfl⟩
                cases hf : xs.filter fun x => !isStr x with
                | nil => rw [hf] at m; exact absurd m List.not_mem_nil
                | cons y r => rw [hf] at hc; exact absurd rfl hc
        · rintro _ S ⟨rfl, hs, hstr⟩
          have hz := sizeLine_eq
          obtain ⟨zs, rfl, hzs⟩ := all_strs (b := b) (k := k) (P := fun s => PyData.strOk s = true ∧ s.length ≤ b) xs fun y hy => by
            have p := hm y hy
            have q := hstr y hy
            cases y with
            | str s => exact ⟨s, rfl, pl_str.mp p⟩
            | _ => cases q
          show Ends (evSs _ (.cons _ _) _ _) _
          refine oks_step (fun ρ' S' => ∃ r : Nat, r < zs.length ∧ ρ' = [.ref 0, .val (.tuple (zs.map PyData.str)), .val (.int r), .no, .no, .no] ∧ StOk S') ?_ ?_
          · simp_arith! [fd_law_cut]
            refine (law_next_ok hN (L := (zs.map PyData.str).length) h0 (by omega) hs).mono ?_
            rintro _ S ⟨r, hr, rfl, hs⟩
            rw [List.length_map] at hr
            simp_arith! [stepQ_next]
            exact ⟨r, hr, rfl, hs⟩
          rintro _ S ⟨r, hr, rfl, hs⟩
          have e0 : (zs.map PyData.str)[r]? = some (.str zs[r]) := by rw [List.getElem?_map, List.getElem?_eq_getElem hr]; rfl
          have e1 : idxD (.list (zs.map PyData.str)) (.int r) = some (.str zs[r]) := idxl e0
          have hr1 := hzs zs[r] (List.getElem_mem hr)
          show Ends (evSs _ (.cons _ _) _ _) _
          refine oks_step (fun ρ' S' => ∃ j : Nat, ρ' = [.ref 0, .val (.tuple (zs.map PyData.str)), .val (.int r), .val (.int j), .no, .no] ∧ StOk S') ?_ ?_
          · simp_arith! [fd_law_cut, idxt, e1]
            refine ⟨by omega, ?_⟩
            refine (law_next_ok hN (L := zs[r].length + 1) (by omega) (by omega) hs).mono ?_
            rintro _ S ⟨j, hj, rfl, hs⟩
            simp_arith! [stepQ_next]
            exact ⟨j, rfl, hs⟩
          rintro _ S ⟨j, rfl, hs⟩
          show Ends (evSs _ (.cons _ _) _ _) _
          have mt : mthT .join (.str (Str.ofString "")) = some () := rfl
          have J : ∀ ws : List Str, (∀ w ∈ ws, PyData.strOk w = true ∧ w.length ≤ b) → ws.length ≤ b → ∃ s : Str, mthD .join (.str (Str.ofString "")) [.tuple (ws.map PyData.str)] = some (.str s) ∧ PyData.strOk s = true ∧ s.length ≤ b * b := by
            intro ws hw hl
            have hs := sum_le b ws fun w hw' => (hw w hw').2
            have hbb : b * ws.length ≤ b * b := Nat.mul_le_mul_left _ hl
            have hb6 : b * b ≤ 1000 * 1000 := Nat.mul_le_mul hb2 hb2
            have l0 : (Str.ofString "").length = 0 := by decide
            obtain ⟨d, S1, q1, rfl, q3⟩ := ok_join (S := []) (Q := fun d S' => d = .str (Str.join (Str.ofString "") ws) ∧ S' = []) l0 (zs := ws) (by omega) ⟨rfl, rfl⟩
            cases e : joinD (Str.ofString "") (.tuple (ws.map PyData.str)) with
            | none => rw [e] at q1; cases q1
            | some d =>
              rw [e] at q1
              cases q1
              exact ⟨_, e, join_ok _ (k_of "") ws fun w hw' => (hw w hw').1, by rw [join_len _ l0]; omega⟩
          have hl' : zs.length ≤ b := by rw [List.length_map] at hl; exact hl
          have hb6 : b * b ≤ 1000 * 1000 := Nat.mul_le_mul hb2 hb2
          obtain ⟨s1, j1, k1, l1⟩ := J ((zs.drop r).take 2) (mem_take (mem_drop hzs)) (by bv_omega)
          obtain ⟨s2, j2, k2, l2⟩ := J zs hzs hl'
          rw [List.map_take, List.map_drop] at j1
          have t2 : tupD (.str s2) = some (.tuple (chars s2)) := by
            show (if s2.cps.size ≤ sizeLine then some (PyData.tuple (chars s2)) else none) = _
            have l2' : s2.cps.size ≤ b * b := l2
            rw [if_pos (by omega)]
          simp_arith! [fd_law_cut, idxt, e1, evEs, cut_two, cut_from2, mt, j1, j2, t2]
          refine ⟨by omega, by omega, by bv_omega, by bv_omega, by bv_omega, by bv_omega, by bv_omega, by bv_omega, by bv_omega, by bv_omega, by bv_omega, ?_⟩
          refine (law_next_ok hN (L := 6) (by decide) (by decide) hs).mono ?_
          rintro _ S ⟨q, hq, rfl, hs⟩
          refine ok_pick hq ?_
          have hm' : ∀ x ∈ zs.map PyData.str, Pl (b * b + b + 10) k x := fun x hx => (hm x hx).mono (by omega) (Nat.le_refl _)
          have c1 := len_cut (x := zs[r]) (l := none) (h := some (j : Int))
          have c2 := len_cut (x := zs[r]) (l := some (j : Int)) (h := none)
          have p1 : Pl (b * b + b + 10) k (.str (L2.cutS zs[r] none (some (j : Int)))) := pl_str.mpr ⟨strOk_cut hr1.1, by omega⟩
          have p2 : Pl (b * b + b + 10) k (.str (L2.cutS zs[r] (some (j : Int)) none)) := pl_str.mpr ⟨strOk_cut hr1.1, by omega⟩
          have p3 : Pl (b * b + b + 10) k (.str s1) := pl_str.mpr ⟨k1, by omega⟩
          have p4 : Pl (b * b + b + 10) k (.str s2) := pl_str.mpr ⟨k2, by omega⟩
          have p5 : Pl (b * b + b + 10) k (.str (Str.ofString "")) := pl_str.mpr ⟨k_of "", by
            have l0 : (Str.ofString "").length = 0 := by decide
            omega⟩
          have p6 : ∀ x ∈ chars s2, Pl (b * b + b + 10) k x := by
            intro x hx
            obtain ⟨c, hc, rfl⟩ := List.mem_map.mp hx
            refine pl_str.mpr ⟨?_, ?_⟩
            · rw [strOk_mem]
              intro c' hc'
              have e : c' = c := List.mem_singleton.mp hc'
              rw [e]
              exact strOk_mem.mp k2 c hc
            · show 1 ≤ _
              omega
          have p7 : (chars s2).length ≤ b * b := by
            unfold chars
            rw [List.length_map]
            exact l2
          refine List.forall_mem_cons.mpr ⟨⟨pl_tuple.mpr ⟨by bv_omega, mem_app (mem_app (mem_take hm') (List.forall_mem_cons.mpr ⟨p1, mem_one p2⟩)) (mem_drop hm')⟩, fun _ => rfl, hs⟩, ?_⟩
          refine List.forall_mem_cons.mpr ⟨⟨pl_tuple.mpr ⟨by bv_omega, mem_app (mem_app (mem_take hm') (mem_one p3)) (mem_drop hm')⟩, fun _ => rfl, hs⟩, ?_⟩
          refine List.forall_mem_cons.mpr ⟨⟨pl_tuple.mpr ⟨by bv_omega, mem_one p4⟩, fun _ => rfl, hs⟩, ?_⟩
          refine List.forall_mem_cons.mpr ⟨⟨pl_tuple.mpr ⟨by omega, p6⟩, fun _ => rfl, hs⟩, ?_⟩
          refine List.forall_mem_cons.mpr ⟨⟨pl_tuple.mpr ⟨by bv_omega, mem_app (mem_app (mem_take hm') (mem_one p5)) (mem_drop hm')⟩, fun _ => rfl, hs⟩, ?_⟩
          exact mem_one ⟨pl_tuple.mpr ⟨by bv_omega, mem_app (mem_app (mem_take hm') (mem_rev (mem_take (mem_drop hm')))) (mem_drop hm')⟩, fun _ => rfl, hs⟩
    | _ => exact leaf (k + 1) _ n S True.intro hd hs
end
end L2.DL

set_option maxHeartbeats 4000000
/-! The plain laws, eleventh part: _law_turned_about, _law_odd. -/
namespace L2.DL
open PySem PyProof.Rows
open Lean in
local macro_rules
  | `(tactic| simp_arith) => `(tactic| simp_arith [])
  | `(tactic| simp_arith [$ls,*]) => `(tactic| simp only [List.cons_append, List.nil_append, Nat.reduceSub, List.replicate, oks_cons, oks_nil, oks_fin, oks_lift, evS, evT, evE, evO, evEs, evAs, ok_bind, ok_pure, ok_some, getRef, getVal, getOwn, List.getElem?_cons_zero, List.getElem?_cons_succ, List.set_cons_zero, List.set_cons_succ, ok_cell0,
    thenQ_next, thenQ_ret, endQ_ret, endQ_next, idxl0, idxl1, idxl2, idxl3, put1, put2, put3, biD, binD, cmpD, len_list, len_tuple, add_int, sub_int, aadd_int, asub_int, int_int, int_bool, tru_bool, tru_int, tru_none, tru_list, tru_tuple, eqD_int, neD_int, ltD_int, leD_int, gtD_int, geD_int, pow18, if_true, if_false, Bool.false_eq_true, Bool.not_false, Bool.not_true, ↓reduceIte, $ls,*])
open Lean in
local macro_rules
  | `(tactic| simp_arith!) => `(tactic| simp_arith! [])
  | `(tactic| simp_arith! [$ls,*]) => `(tactic| simp_arith [isiD, isiT, List.any_cons, List.any_nil, Bool.or_false, Bool.false_or, Bool.true_or, Bool.or_true, List.forall_mem_cons, List.not_mem_nil, false_implies, implies_true, true_and, and_true, and_assoc, isnD, nonD, isNoneD, pl_none, pl_bool, pl_int, orv_int, ok_str_int, ok_add_tuple, ok_add_list, ok_add_str, ok_sli_str, ok_rev_str, ok_len_str, rev_tuple, rev_list, sli_tuple, sli_list, list_list, list_tuple, tup_list, tup_tuple, len_tuple, len_list, cut_to, cut_from, cut_from1, cut_one, cut_1mid, cut_lit1, cut_litf1, $ls,*])
open Lean in
local macro_rules | `(tactic| and_intros) => `(tactic| first | assumption | (exact fun x hx => absurd hx List.not_mem_nil) | (apply mem_take; and_intros) | (apply mem_drop; and_intros) | (apply mem_rev; and_intros) | (apply mem_app <;> and_intros) | (apply mem_one; first | assumption | exact pl_int.mpr (Nat.two_pow_pos _)))
open Lean in
local macro_rules | `(tactic| bv_omega) => `(tactic| (first | omega | (simp only [List.length_append, List.length_take, List.length_drop, List.length_reverse, List.length_cons, List.length_nil] at *; omega)))
theorem ne_ints (ys : List Int) : neD (.list (ys.map PyData.int)) (.list []) = some (!ys.isEmpty) := by
  rw [neD_sh (sh_ints ys) sh_nilL, eqv_nilL]
  cases ys <;> rfl
theorem idx_int {ys : List Int} {r : Nat} (h : r < ys.length) : idxD (.list (ys.map PyData.int)) (.int r) = some (.int ys[r]) :=
  idxl (by rw [List.getElem?_map, List.getElem?_eq_getElem h]; rfl)
theorem evs_par2 {x y : PyData} {ρ : Env} {i j : Nat} {S : Store} : (match [x, y] with
      | [x, y] => SRes.fin .next ((ρ.set i (.val x)).set j (.val y)) S
      | _ => .stuck) = .fin .next ((ρ.set i (.val x)).set j (.val y)) S := rfl
section
variable {tab : Tab} {b : Nat}
theorem law_cut_m (hN : tab "_law_next" = some fd_law_next) (h : tab "_law_cut" = some fd_law_cut) (hb : 5 ≤ b) (hb2 : b ≤ 1000) {k m : Nat} {d : PyData} {S : Store} (hm : k + 2 ≤ m) (hk : k ≤ 60) (hd : Pl b k d) (hs : StOk S) :
    Ok (callF tab m "_law_cut" [.ref 0, .val d]) S (fun r S' => (Pl (b * b + b + 10) k r ∧ (isTupD d = true → isTupD r = true)) ∧ StOk S') := by
  obtain ⟨n, rfl⟩ : ∃ n, m = n + k + 2 := ⟨m - (k + 2), by omega⟩
  exact law_cut_ok hN h hb hb2 k d n S hk hd hs
theorem law_changed_m (hN : tab "_law_next" = some fd_law_next) (h : tab "_law_changed" = some fd_law_changed) (hb : 5 ≤ b) (hb2 : b ≤ 1000) {k m : Nat} {d : PyData} {S : Store} (hm : k + 2 ≤ m) (hk : k ≤ 64) (hd : Pl b k d) (hs : StOk S) :
    Ok (callF tab m "_law_changed" [.ref 0, .val d]) S (fun r S' => Pl (6 * b + 10) k r ∧ StOk S') := by
  obtain ⟨n, rfl⟩ : ∃ n, m = n + k + 2 := ⟨m - (k + 2), by omega⟩
  exact law_changed_ok hN h hb hb2 k d n S hk hd hs
theorem law_exchanged_m (h : tab "_law_exchanged" = some fd_law_exchanged) {i j : Int} (hi : i.natAbs < 2 ^ b) (hj : j.natAbs < 2 ^ b) (hb : b ≤ 100000) {k m : Nat} {d : PyData} {S : Store} (hm : k + 1 ≤ m) (hd : Pl b k d) (hs : StOk S) :
    Ok (callF tab m "_law_exchanged" [.val d, .val (.int i), .val (.int j)]) S (fun r S' => Pl b k r ∧ StOk S') := by
  obtain ⟨n, rfl⟩ : ∃ n, m = n + k + 1 := ⟨m - (k + 1), by omega⟩
  exact law_exchanged_ok h i j hi hj hb k d n S hd hs
theorem law_ints_m (h : tab "_law_ints" = some fd_law_ints) (hb0 : 1 ≤ b) {k m : Nat} {d : PyData} {S : Store} (hm : k + 1 ≤ m) (hk : k ≤ 60) (hp : b ^ (k + 1) ≤ sizeLine) (hd : Pl b k d) (hs : StOk S) :
    Ok (callF tab m "_law_ints" [.val d]) S (fun r S' => (∃ ys : List Int, r = .list (ys.map PyData.int) ∧ ys.length ≤ b ^ k ∧ ∀ y ∈ ys, y.natAbs < 2 ^ b) ∧ StOk S') := by
  obtain ⟨n, rfl⟩ : ∃ n, m = n + k + 1 := ⟨m - (k + 1), by omega⟩
  exact law_ints_ok h hb0 k d n S hk hp hd hs
theorem law_turned_about_ok (hN : tab "_law_next" = some fd_law_next) (hI : tab "_law_ints" = some fd_law_ints) (hE : tab "_law_exchanged" = some fd_law_exchanged) (hC : tab "_law_cut" = some fd_law_cut) (h : tab "_law_turned_about" = some fd_law_turned_about)
    (hb : 5 ≤ b) (hb2 : b ≤ 1000) {k m : Nat} {xs : List PyData} {S : Store} (hm : k + 4 ≤ m) (hk : k + 1 ≤ 60) (hp : b ^ (k + 2) ≤ sizeLine) (h0 : 0 < xs.length) (hd : Pl b (k + 1) (.tuple xs)) (hs : StOk S) :
    Ok (callF tab m "_law_turned_about" [.ref 0, .val (.tuple xs)]) S (fun r S' => Pl (b * b + b + 20) (k + 1) r ∧ StOk S') := by
  obtain ⟨n, rfl⟩ : ∃ n, m = n + 1 + (k + 1) + 1 + 1 := ⟨m - (k + 4), by omega⟩
  rw [ok_call h rfl]
  have hz := sizeLine_eq
  have hl := (pl_tuple.mp hd).1
  have hx := (pl_tuple.mp hd).2
  have hb6 : b * b ≤ 1000 * 1000 := Nat.mul_le_mul hb2 hb2
  have hx' : ∀ x ∈ xs, Pl (b * b + b + 20) k x := fun x h => (hx x h).mono (by omega) (Nat.le_refl _)
  show Ends (evSs _ (.cons _ _) _ _) _
  refine oks_step (fun ρ' S' => ∃ ys : List Int, ρ' = [.ref 0, .val (.tuple xs), .val (.list (ys.map PyData.int)), .no, .no, .no, .no, .no, .no] ∧ StOk S' ∧ ys.length ≤ b ^ (k + 1) ∧ ∀ y ∈ ys, y.natAbs < 2 ^ b) ?_ ?_
  · simp_arith! [fd_law_turned_about, stepQ_next]
    refine (law_ints_m hI (by omega) (by omega) hk hp hd hs).mono ?_
    rintro _ S ⟨⟨ys, rfl, h1, h2⟩, hs⟩
    exact ⟨ys, rfl, hs, h1, h2⟩
  rintro _ S ⟨ys, rfl, hs, hyl, hy⟩
  have hyl' : ys.length ≤ sizeLine := Nat.le_trans hyl (Nat.le_trans (Nat.pow_le_pow_right (by omega) (by omega)) hp)
  show Ends (evSs _ (.cons _ _) _ _) _
  refine oks_step (fun ρ' S' => ∃ p : Nat, ρ' = [.ref 0, .val (.tuple xs), .val (.list (ys.map PyData.int)), .val (.int p), .no, .no, .no, .no, .no] ∧ StOk S') ?_ ?_
  · simp_arith! [fd_law_turned_about, stepQ_next]
    refine (law_next_ok hN (L := 5) (by decide) (by decide) hs).mono ?_
    rintro _ S ⟨r, hr, rfl, hs⟩
    exact ⟨r, rfl, hs⟩
  rintro _ S ⟨p, rfl, hs⟩
  show Ends (evSs _ (.cons _ _) _ _) _
  refine oks_step (fun ρ' S' => ρ' = [.ref 0, .val (.tuple xs), .val (.list (ys.map PyData.int)), .val (.int p), .no, .no, .no, .no, .no] ∧ StOk S') ?_ ?_
  · by_cases h3 : (p : Int) < 3
    · have d3 := decide_eq_true h3
      cases hy0 : ys.isEmpty with
      | true => simp_arith! [fd_law_turned_about, stepQ_next, d3, evEs, ne_ints, hy0]; exact hs
      | false =>
        have hy1 : 0 < ys.length := by
          cases ys with
          | nil => cases hy0
          | cons x r => exact Nat.succ_pos _
        simp_arith! [fd_law_turned_about, stepQ_next, d3, evEs, ne_ints, hy0, List.length_map]
        refine (law_next_ok hN hy1 (by omega) hs).mono ?_
        rintro _ S ⟨r, hr, rfl, hs⟩
        simp_arith! [idx_int hr]
        have hone := hy _ (List.getElem_mem hr)
        have hone' : (ys[r]).natAbs < 2 ^ (b + 1) := by rw [Nat.pow_succ]; omega
        have done : ∀ (j : Int) (S : Store) (w : List Slot), j.natAbs < 2 ^ (b + 1) → StOk S → Ok (callF tab (n + 1 + (k + 1) + 1) "_law_exchanged" [.val (.tuple xs), .val (.int ys[r]), .val (.int j)]) S
            (fun r S' => Pl (b * b + b + 20) (k + 1) r ∧ StOk S') := by
          intro j S w hj hs
          refine (law_exchanged_m (b := b + 1) hE hone' hj (by omega) (k := k + 1) (by omega) (hd.mono (by omega) (Nat.le_refl _)) hs).mono ?_
          rintro x S ⟨h1, h2⟩
          exact ⟨h1.mono (by omega) (Nat.le_refl _), h2⟩
        by_cases hp0 : (p : Int) = 0
        · have d0 := decide_eq_true hp0
          simp_arith! [d0]
          refine (done _ S [] ?_ hs).mono ?_
          · rw [Nat.pow_succ]
            have : 0 < 2 ^ b := Nat.two_pow_pos b
            omega
          · rintro x S ⟨h1, h2⟩
            exact ⟨h1, h2⟩
        · have d0 := decide_eq_false hp0
          simp_arith! [d0, List.length_map]
          refine (law_next_ok hN hy1 (by omega) hs).mono ?_
          rintro _ S ⟨r', hr', rfl, hs⟩
          simp_arith! [idx_int hr']
          refine (done _ S [] ?_ hs).mono ?_
          · rw [Nat.pow_succ]
            have := hy _ (List.getElem_mem hr')
            omega
          · rintro x S ⟨h1, h2⟩
            exact ⟨h1, h2⟩
    · have d3 := decide_eq_false h3
      simp_arith! [fd_law_turned_about, stepQ_next, d3]
      exact hs
  rintro _ S ⟨rfl, hs⟩
  show Ends (evSs _ (.cons _ _) _ _) _
  refine oks_step (fun ρ' S' => ρ' = [.ref 0, .val (.tuple xs), .val (.list (ys.map PyData.int)), .val (.int p), .no, .no, .no, .no, .no] ∧ StOk S') ?_ ?_
  · by_cases h3 : (p : Int) = 3
    · have d3 := decide_eq_true h3
      simp_arith! [fd_law_turned_about, stepQ_next, d3]
      by_cases h2 : 2 < (xs.length : Int)
      · have d2 := decide_eq_true h2
        simp_arith! [d2]
        have hc : Pl b (k + 1) (.tuple (xs.drop 1)) := pl_tuple.mpr ⟨by bv_omega, mem_drop hx⟩
        refine (law_cut_m hN hC hb hb2 (k := k + 1) (by omega) (by omega) hc hs).mono ?_
        rintro y S ⟨⟨h1, h2⟩, hs⟩
        cases y with
        | tuple zs =>
          have h3 := pl_tuple.mp h1
          simp_arith!
          refine ⟨by bv_omega, ?_⟩
          rw [stepQ_ret, endQ_ret]
          exact ⟨pl_tuple.mpr ⟨by bv_omega, mem_app (mem_take hx') fun x hx => (h3.2 x hx).mono (by omega) (Nat.le_refl _)⟩, hs⟩
        | _ => exact absurd (h2 rfl) Bool.false_ne_true
      · have d2 := decide_eq_false h2
        simp_arith! [d2, evG, evIt, evC, iterOf, bindTg, wipeE, ok_calm, okList]
        refine (ok_cat1 StOk (Pl (b * b + b + 20) k) (xs.drop 1) S hs ?_).mono ?_
        · intro x hx1 S hs
          simp_arith!
          refine (law_cut_m hN hC hb hb2 (k := k) (by omega) (by omega) (mem_drop hx x hx1) hs).mono ?_
          rintro y S ⟨⟨h1, _⟩, h2⟩
          exact ⟨h2, rfl, h1.mono (by omega) (Nat.le_refl _)⟩
        · rintro zs S ⟨h1, h2, h3⟩
          rw [List.length_drop] at h2
          rw [ok_sized]
          refine ⟨by omega, by bv_omega, ?_⟩
          rw [stepQ_ret, endQ_ret]
          exact ⟨pl_tuple.mpr ⟨by bv_omega, mem_app (mem_take hx') h3⟩, h1⟩
    · have d3 := decide_eq_false h3
      simp_arith! [fd_law_turned_about, stepQ_next, d3]
      exact hs
  rintro _ S ⟨rfl, hs⟩
  show Ends (evSs _ (.cons _ _) _ _) _
  refine oks_step (fun ρ' S' => ∃ i j : Nat, ρ' = [.ref 0, .val (.tuple xs), .val (.list (ys.map PyData.int)), .val (.int p), .no, .no, .val (.int i), .val (.int j), .no] ∧ StOk S') ?_ ?_
  · simp_arith! [fd_law_turned_about, stepQ_next]
    refine (law_next_ok hN h0 (by omega) hs).mono ?_
    rintro _ S ⟨i, hi, rfl, hs⟩
    refine (law_next_ok hN h0 (by omega) hs).mono ?_
    rintro _ S ⟨j, hj, rfl, hs⟩
    exact ⟨i, j, rfl, hs⟩
  rintro _ S ⟨i, j, rfl, hs⟩
  show Ends (evSs _ (.cons _ _) _ _) _
  refine oks_step (fun ρ' S' => ρ' = [.ref 0, .val (.tuple xs), .val (.list (ys.map PyData.int)), .val (.int p), .no, .no, .val (.int i), .val (.int j), .no] ∧ StOk S') ?_ ?_
  · by_cases h2 : (xs.length : Int) = 2
    · have d2 := decide_eq_true h2
      obtain ⟨x, y, rfl⟩ : ∃ x y, xs = [x, y] := by
        match xs, h2 with
        | [x, y], _ => exact ⟨x, y, rfl⟩
        | [], h => simp at h
        | [x], h => simp at h
        | x :: y :: z :: r, h => simp at h; omega
      have hy2 := hx y (List.mem_cons_of_mem _ List.mem_cons_self)
      have hx2 := hx' x List.mem_cons_self
      cases y with
      | tuple zs =>
        have en := neD_sh (hy2.shaped (by omega)) sh_nil
        rw [eqv_nil] at en
        cases hz0 : zs.isEmpty with
        | true => simp_arith! [fd_law_turned_about, stepQ_next, d2, idxt, evEs, en, hz0]; exact hs
        | false =>
          have hz1 : 0 < zs.length := by
            cases zs with
            | nil => cases hz0
            | cons x r => exact Nat.succ_pos _
          cases k with
          | zero => exact (pl_tuple0 hy2).elim
          | succ k =>
          have hzl := (pl_tuple.mp hy2).1
          have hzm : ∀ x ∈ zs, Pl (b * b + b + 20) k x := fun x hx => ((pl_tuple.mp hy2).2 x hx).mono (by omega) (Nat.le_refl _)
          simp_arith! [fd_law_turned_about, stepQ_next, d2, idxt, evEs, en, hz0]
          refine (law_next_ok hN hz1 (by omega) hs).mono ?_
          rintro _ S ⟨i', hi', rfl, hs⟩
          simp_arith! [idxt]
          refine (law_next_ok hN hz1 (by omega) hs).mono ?_
          rintro _ S ⟨j', hj', rfl, hs⟩
          simp_arith! [idxt]
          refine ⟨by bv_omega, by bv_omega, ?_⟩
          rw [stepQ_ret, endQ_ret]
          have q : Pl (b * b + b + 20) (k + 1) (.tuple (zs.take i' ++ (zs.drop j').take 1 ++ zs.drop (i' + 1))) := pl_tuple.mpr ⟨by bv_omega, mem_app (mem_app (mem_take hzm) (mem_take (mem_drop hzm))) (mem_drop hzm)⟩
          exact ⟨pl_tuple.mpr ⟨by bv_omega, List.forall_mem_cons.mpr ⟨hx2, mem_one q⟩⟩, hs⟩
      | dict zs => exact (pl_dict hy2).elim
      | _ => simp_arith! [fd_law_turned_about, stepQ_next, d2, idxt]; exact hs
    · have d2 := decide_eq_false h2
      simp_arith! [fd_law_turned_about, stepQ_next, d2]
      exact hs
  rintro _ S ⟨rfl, hs⟩
  have keep : Pl (b * b + b + 20) (k + 1) (.tuple xs) ∧ StOk S := ⟨hd.mono (by omega) (Nat.le_refl _), hs⟩
  by_cases h1 : 0 < (i : Int)
  · have d1 := decide_eq_true h1
    by_cases h2 : 0 < (j : Int)
    · have d2 := decide_eq_true h2
      simp_arith! [fd_law_turned_about, d1, d2]
      refine ⟨by bv_omega, by bv_omega, ?_⟩
      exact ⟨pl_tuple.mpr ⟨by bv_omega, mem_app (mem_app (mem_take hx') (mem_take (mem_drop hx'))) (mem_drop hx')⟩, hs⟩
    · have d2 := decide_eq_false h2
      simp_arith! [fd_law_turned_about, d1, d2]
      exact keep
  · have d1 := decide_eq_false h1
    simp_arith! [fd_law_turned_about, d1]
    exact keep
theorem law_odd_ok (hN : tab "_law_next" = some fd_law_next) (hI : tab "_law_ints" = some fd_law_ints) (hE : tab "_law_exchanged" = some fd_law_exchanged) (hC : tab "_law_cut" = some fd_law_cut) (hT : tab "_law_turned_about" = some fd_law_turned_about) (hH : tab "_law_changed" = some fd_law_changed) (h : tab "_law_odd" = some fd_law_odd)
    (hb : 5 ≤ b) (hb2 : b ≤ 1000) {k m : Nat} {xs : List PyData} {S : Store} (hm : k + 5 ≤ m) (hk : k + 1 ≤ 60) (hp : b ^ (k + 2) ≤ sizeLine) (h0 : 0 < xs.length) (hd : Pl b (k + 1) (.tuple xs)) (hs : StOk S) :
    Ok (callF tab m "_law_odd" [.ref 0, .val (.tuple xs)]) S (fun r S' => (Pl (b * b + b + 20) (k + 2) r ∨ r = .dict []) ∧ StOk S') := by
  obtain ⟨n, rfl⟩ : ∃ n, m = n + (k + 1) + 2 + 1 + 1 := ⟨m - (k + 5), by omega⟩
  rw [ok_call h rfl]
  have hz := sizeLine_eq
  have hl := (pl_tuple.mp hd).1
  have hx := (pl_tuple.mp hd).2
  have hx' : ∀ x ∈ xs, Pl (b * b + b + 20) k x := fun x h => (hx x h).mono (by omega) (Nat.le_refl _)
  have hx'' : ∀ x ∈ xs, Pl (b * b + b + 20) (k + 1) x := fun x h => (hx x h).mono (by omega) (by omega)
  obtain ⟨x0, xr, rfl⟩ : ∃ x r, xs = x :: r := by
    cases xs with
    | nil => exact absurd h0 (by decide)
    | cons x r => exact ⟨x, r, rfl⟩
  have hxr : ∀ x ∈ xr, Pl (b * b + b + 20) (k + 1) x := fun x hx => hx'' x (List.mem_cons_of_mem _ hx)
  have hsq : b * 5 ≤ b * b := Nat.mul_le_mul_left _ hb
  have l1 : (Str.ofString "").length = 0 := by decide
  have l2 : (Str.ofString "yes").length = 3 := by decide
  have l3 : (Str.ofString "none such").length = 9 := by decide
  show Ends (evSs _ (.cons _ _) _ _) _
  refine oks_step (fun ρ' S' => ∃ ys : List PyData, ρ' = [.ref 0, .val (.tuple (x0 :: xr)), .val (.list ys), .no] ∧ StOk S' ∧ ys.length = 11 ∧ ∀ y ∈ ys, Pl (b * b + b + 20) (k + 2) y ∨ y = .dict []) ?_ ?_
  · simp_arith! [fd_law_odd, stepQ_next, evEs, idxt]
    refine ⟨by bv_omega, by bv_omega, by bv_omega, _, rfl, hs, rfl, ?_⟩
    have p4 : Pl (b * b + b + 20) (k + 2) (.int 7) := pl_int.mpr (Nat.lt_of_lt_of_le (show 7 < 2 ^ 3 by decide) (Nat.pow_le_pow_right (by decide) (by omega)))
    have p5 : Pl (b * b + b + 20) (k + 1) (.str (Str.ofString "none such")) := pl_str.mpr ⟨k_of "none such", by omega⟩
    have p6 : Pl (b * b + b + 20) (k + 1) (.int 0) := pl_int.mpr (Nat.two_pow_pos _)
    have p7 : Pl (b * b + b + 20) (k + 1) (.list [x0]) := pl_list.mpr ⟨by bv_omega, mem_one (hx' x0 List.mem_cons_self)⟩
    refine List.forall_mem_cons.mpr ⟨.inl pl_none, List.forall_mem_cons.mpr ⟨.inl (pl_str.mpr ⟨k_of "", by omega⟩), List.forall_mem_cons.mpr ⟨.inl (pl_str.mpr ⟨k_of "yes", by omega⟩),
      List.forall_mem_cons.mpr ⟨.inr rfl, List.forall_mem_cons.mpr ⟨.inl (pl_tuple.mpr ⟨by bv_omega, fun x hx => absurd hx List.not_mem_nil⟩), List.forall_mem_cons.mpr ⟨.inl (pl_tuple.mpr ⟨by bv_omega, mem_take hx''⟩),
      List.forall_mem_cons.mpr ⟨.inl (pl_list.mpr ⟨by bv_omega, hx''⟩), List.forall_mem_cons.mpr ⟨.inl (pl_tuple.mpr ⟨by bv_omega, mem_app hx'' (mem_one p6)⟩), List.forall_mem_cons.mpr ⟨.inl (pl_tuple.mpr ⟨by bv_omega, mem_app (mem_one p7) (hxr)⟩),
      List.forall_mem_cons.mpr ⟨.inl (pl_tuple.mpr ⟨by bv_omega, mem_app (mem_one p5) (hxr)⟩), mem_one (.inl p4)⟩⟩⟩⟩⟩⟩⟩⟩⟩⟩
  rintro _ S ⟨ys, rfl, hs, hyl, hy⟩
  show Ends (evSs _ (.cons _ _) _ _) _
  refine oks_step (fun ρ' S' => ∃ p : Nat, ρ' = [.ref 0, .val (.tuple (x0 :: xr)), .val (.list ys), .val (.int p)] ∧ StOk S') ?_ ?_
  · simp_arith! [fd_law_odd, stepQ_next]
    refine (law_next_ok hN (L := 9) (by decide) (by decide) hs).mono ?_
    rintro _ S ⟨r, hr, rfl, hs⟩
    exact ⟨r, rfl, hs⟩
  rintro _ S ⟨p, rfl, hs⟩
  show Ends (evSs _ (.cons _ _) _ _) _
  refine oks_step (fun ρ' S' => ρ' = [.ref 0, .val (.tuple (x0 :: xr)), .val (.list ys), .val (.int p)] ∧ StOk S') ?_ ?_
  · by_cases h4 : 4 < (p : Int)
    · have d4 := decide_eq_true h4
      simp_arith! [fd_law_odd, stepQ_next, d4]
      refine (law_turned_about_ok hN hI hE hC hT hb hb2 (by omega) hk hp h0 hd hs).mono ?_
      rintro r S ⟨h1, hs⟩
      simp_arith! [stepQ_ret]
      exact ⟨.inl (h1.mono (Nat.le_refl _) (by omega)), hs⟩
    · have d4 := decide_eq_false h4
      simp_arith! [fd_law_odd, stepQ_next, d4]
      exact hs
  rintro _ S ⟨rfl, hs⟩
  by_cases hp0 : (p : Int) = 0
  · have d0 := decide_eq_true hp0
    simp_arith! [fd_law_odd, d0]
    refine (law_next_ok hN (L := ys.length) (by omega) (by omega) hs).mono ?_
    rintro _ S ⟨r, hr, rfl, hs⟩
    refine ok_pick hr ?_
    intro y hy1
    exact ⟨hy y hy1, hs⟩
  · have d0 := decide_eq_false hp0
    simp_arith! [fd_law_odd, d0]
    refine (law_changed_m hN hH hb hb2 (k := k + 1) (by omega) (by omega) hd hs).mono ?_
    rintro r S ⟨h1, hs⟩
    exact ⟨.inl (h1.mono (by omega) (by omega)), hs⟩
end
end L2.DL

set_option maxHeartbeats 4000000
/-! The plain laws, twelfth part: sorts of data; _law_swapped, _law_all_names. -/
namespace L2.DL
open PySem PyProof.Rows
open Lean in
local macro_rules
  | `(tactic| simp_arith) => `(tactic| simp_arith [])
  | `(tactic| simp_arith [$ls,*]) => `(tactic| simp only [List.cons_append, List.nil_append, Nat.reduceSub, List.replicate, oks_cons, oks_nil, oks_fin, oks_lift, evS, evT, evE, evO, evEs, evAs, ok_bind, ok_pure, ok_some, getRef, getVal, getOwn, List.getElem?_cons_zero, List.getElem?_cons_succ, List.set_cons_zero, List.set_cons_succ, ok_cell0,
    thenQ_next, thenQ_ret, endQ_ret, endQ_next, idxl0, idxl1, idxl2, idxl3, put1, put2, put3, biD, binD, cmpD, len_list, len_tuple, add_int, sub_int, aadd_int, asub_int, int_int, int_bool, tru_bool, tru_int, tru_none, tru_list, tru_tuple, eqD_int, neD_int, ltD_int, leD_int, gtD_int, geD_int, pow18, if_true, if_false, Bool.false_eq_true, Bool.not_false, Bool.not_true, ↓reduceIte, $ls,*])
open Lean in
local macro_rules
  | `(tactic| simp_arith!) => `(tactic| simp_arith! [])
  | `(tactic| simp_arith! [$ls,*]) => `(tactic| simp_arith [isiD, isiT, List.any_cons, List.any_nil, Bool.or_false, Bool.false_or, Bool.true_or, Bool.or_true, List.forall_mem_cons, List.not_mem_nil, false_implies, implies_true, true_and, and_true, and_assoc, isnD, nonD, isNoneD, pl_none, pl_bool, pl_int, orv_int, ok_str_int, ok_add_tuple, ok_add_list, ok_add_str, ok_sli_str, ok_rev_str, ok_len_str, rev_tuple, rev_list, sli_tuple, sli_list, list_list, list_tuple, tup_list, tup_tuple, len_tuple, len_list, cut_to, cut_from, cut_from1, cut_one, cut_1mid, cut_lit1, cut_litf1, $ls,*])
open Lean in
local macro_rules | `(tactic| and_intros) => `(tactic| first | assumption | (exact fun x hx => absurd hx List.not_mem_nil) | (apply mem_take; and_intros) | (apply mem_drop; and_intros) | (apply mem_rev; and_intros) | (apply mem_app <;> and_intros) | (apply mem_one; first | assumption | exact pl_int.mpr (Nat.two_pow_pos _)))
open Lean in
local macro_rules | `(tactic| bv_omega) => `(tactic| (first | omega | (simp only [List.length_append, List.length_take, List.length_drop, List.length_reverse, List.length_cons, List.length_nil] at *; omega)))
/-- sorts of data -/
inductive DT where
  | str
  | int
  | row (n : Nat) (t : DT)
  | tnil
  | tcons (t u : DT)
def HasT (b : Nat) : DT → PyData → Prop
  | .str, .str s => PyData.strOk s = true ∧ s.length ≤ b
  | .int, .int i => i.natAbs < 2 ^ b
  | .row n t, .tuple xs => xs.length ≤ n ∧ ∀ x ∈ xs, HasT b t x
  | .tnil, .tuple [] => True
  | .tcons t u, .tuple (x :: xs) => HasT b t x ∧ HasT b u (.tuple xs)
  | _, _ => False
/-- of every sort that it was -/
def Keeps (b : Nat) (d e : PyData) : Prop := ∀ t, HasT b t d → HasT b t e
theorem Keeps.refl (b : Nat) (d : PyData) : Keeps b d d := fun _ h => h
inductive All2 {α β : Type} (R : α → β → Prop) : List α → List β → Prop
  | nil : All2 R [] []
  | cons {x y xs ys} : R x y → All2 R xs ys → All2 R (x :: xs) (y :: ys)
theorem All2.length {α β : Type} {R : α → β → Prop} {xs : List α} {ys : List β} (h : All2 R xs ys) : ys.length = xs.length := by
  induction h with
  | nil => rfl
  | cons _ _ ih => rw [List.length_cons, List.length_cons, ih]
theorem All2.mem {α β : Type} {R : α → β → Prop} {xs : List α} {ys : List β} (h : All2 R xs ys) : ∀ y ∈ ys, ∃ x ∈ xs, R x y := by
  induction h with
  | nil => exact fun y hy => absurd hy List.not_mem_nil
  | cons h1 _ ih =>
    intro y hy
    rcases List.mem_cons.mp hy with rfl | hy
    · exact ⟨_, List.mem_cons_self, h1⟩
    · obtain ⟨x, hx, h⟩ := ih y hy
      exact ⟨x, List.mem_cons_of_mem _ hx, h⟩
theorem ok_catR {α β : Type} {f : α → Mn (List β)} (I : Store → Prop) (R : α → β → Prop) : ∀ (xs : List α) (S : Store), I S → (∀ x ∈ xs, ∀ S, I S → Ok (f x) S (fun ys S' => I S' ∧ ∃ y, ys = [y] ∧ R x y)) →
    Ok (catM f xs) S (fun ys S' => I S' ∧ All2 R xs ys)
  | [], S, hS, _ => ok_pure.mpr ⟨hS, .nil⟩
  | x :: r, S, hS, h => by
    rw [catM, ok_bind]
    refine (h x List.mem_cons_self S hS).mono ?_
    rintro ys S1 ⟨h1, y, rfl, h2⟩
    rw [ok_bind]
    refine (ok_catR I R r S1 h1 fun y hy => h y (List.mem_cons_of_mem _ hy)).mono ?_
    rintro zs S2 ⟨h4, h5⟩
    rw [ok_pure]
    exact ⟨h4, .cons h2 h5⟩
theorem keeps_row {b : Nat} {xs ys : List PyData} (h : All2 (Keeps b) xs ys) : Keeps b (.tuple xs) (.tuple ys) := by
  intro t
  induction h generalizing t with
  | nil => exact id
  | @cons x y xs ys h1 h2 ih =>
    intro ht
    cases t with
    | row n t =>
      refine ⟨?_, ?_⟩
      · have := h2.length
        have := ht.1
        rw [List.length_cons] at *
        omega
      · have h3 := ih (.row n t) ⟨Nat.le_trans (by rw [List.length_cons]; omega) ht.1, fun x hx => ht.2 x (List.mem_cons_of_mem _ hx)⟩
        exact List.forall_mem_cons.mpr ⟨h1 t (ht.2 x List.mem_cons_self), h3.2⟩
    | tcons t u => exact ⟨h1 t ht.1, ih u ht.2⟩
    | str => exact ht.elim
    | int => exact ht.elim
    | tnil => exact ht.elim
theorem eq_str {a c : Str} (ha : PyData.strOk a = true) (hc : PyData.strOk c = true) : eqD (.str a) (.str c) = some (a == c) := by
  have e : ∀ x : Str, PyData.strOk x = true → SeqAt.shaped (.str x) = true := fun x hx => (pl_str (b := x.length) (k := 0) |>.mpr ⟨hx, Nat.le_refl _⟩).shaped (by decide)
  rw [eqD_sh (e a ha) (e c hc), PyData.eqv]
theorem sh_strs (ys : List Str) (h : ∀ y ∈ ys, PyData.strOk y = true) : SeqAt.shaped (.list (ys.map PyData.str)) = true := by
  unfold SeqAt.shaped
  rw [PyData.canLay0, PyData.depth, canLayAll0_mem _ fun x hx => ?_]
  · have h := depthAll_mem 0 (ys.map PyData.str) fun x hx => by
      obtain ⟨i, _, rfl⟩ := List.mem_map.mp hx
      exact Nat.le_refl _
    rw [decide_eq_true (show _ ≤ 64 by omega)]
    rfl
  · obtain ⟨i, hi, rfl⟩ := List.mem_map.mp hx
    rw [PyData.canLay0]
    exact h i hi
theorem sh_str {x : Str} (hx : PyData.strOk x = true) : SeqAt.shaped (.str x) = true := (pl_str (b := x.length) (k := 0) |>.mpr ⟨hx, Nat.le_refl _⟩).shaped (by decide)
theorem notin_strs (y : Str) (ys : List Str) (hy : PyData.strOk y = true) (h : ∀ y ∈ ys, PyData.strOk y = true) : notinD (.str y) (.list (ys.map PyData.str)) = some (!(ys.map PyData.str).any fun z => PyData.eqv z (.str y)) := by
  show (if SeqAt.shaped (.str y) && SeqAt.shaped (.list (ys.map PyData.str)) then _ else _) = _
  rw [sh_strs ys h, sh_str hy]
  rfl
section
variable {tab : Tab} {b : Nat}
theorem law_swapped_ok (h : tab "_law_swapped" = some fd_law_swapped) {s1 s2 : Str} (h1 : Pl b 0 (.str s1)) (h2 : Pl b 0 (.str s2)) (hb : b ≤ sizeLine) :
    ∀ (k : Nat) (d : PyData) (m : Nat) (S : Store), k + 1 ≤ m → Pl b k d → Ok (callF tab m "_law_swapped" [.val d, .val (.str s1), .val (.str s2)]) S (fun r S' => Pl b k r ∧ Keeps b d r ∧ S' = S) := by
  have q1 := pl_str.mp h1
  have q2 := pl_str.mp h2
  have leaf : ∀ (k : Nat) (d : PyData) (m : Nat) (S : Store), (match d with | .tuple _ => False | _ => True) → k + 1 ≤ m → Pl b k d → Ok (callF tab m "_law_swapped" [.val d, .val (.str s1), .val (.str s2)]) S (fun r S' => Pl b k r ∧ Keeps b d r ∧ S' = S) := by
    intro k d m S ht hm hd
    obtain ⟨n, rfl⟩ : ∃ n, m = n + 1 := ⟨m - 1, by omega⟩
    rw [ok_call h rfl]
    cases d with
    | tuple xs => exact ht.elim
    | dict xs => exact (pl_dict hd).elim
    | str a =>
      have qa := pl_str.mp hd
      have keep : ∀ c : Str, PyData.strOk c = true ∧ c.length ≤ b → Keeps b (.str a) (.str c) := by
        intro c hc t ht
        cases t <;> first | exact ht.elim | exact hc
      cases e1 : a == s1 with
      | true =>
        simp_arith! [fd_law_swapped, eq_str qa.1 q1.1, e1]
        exact ⟨pl_str.mpr q2, keep _ q2⟩
      | false =>
        cases e2 : a == s2 with
        | true =>
          simp_arith! [fd_law_swapped, eq_str qa.1 q1.1, eq_str qa.1 q2.1, e1, e2]
          exact ⟨pl_str.mpr q1, keep _ q1⟩
        | false =>
          simp_arith! [fd_law_swapped, eq_str qa.1 q1.1, eq_str qa.1 q2.1, e1, e2]
          exact ⟨hd, Keeps.refl _ _⟩
    | none => simp_arith! [fd_law_swapped]; exact Keeps.refl _ _
    | bool x => simp_arith! [fd_law_swapped]; exact Keeps.refl _ _
    | int i => simp_arith! [fd_law_swapped]; exact ⟨pl_int.mp hd, Keeps.refl _ _⟩
    | list xs => simp_arith! [fd_law_swapped]; exact ⟨hd, Keeps.refl _ _⟩
  intro k
  induction k with
  | zero =>
    intro d m S hm hd
    cases d with
    | tuple xs => exact (pl_tuple0 hd).elim
    | _ => exact leaf 0 _ m S True.intro hm hd
  | succ k ih =>
    intro d m S hm hd
    cases d with
    | tuple xs =>
      obtain ⟨n, rfl⟩ : ∃ n, m = n + 1 := ⟨m - 1, by omega⟩
      rw [ok_call h rfl]
      simp_arith! [fd_law_swapped, evG, evIt, evC, iterOf, bindTg, wipeE, ok_calm, okList]
      refine (ok_catR (fun S' => S' = S) (fun x y => Pl b k y ∧ Keeps b x y) xs S rfl ?_).mono ?_
      · rintro x hx S rfl
        simp_arith!
        refine (ih x n S (by omega) ((pl_tuple.mp hd).2 x hx)).mono ?_
        rintro y S ⟨h1, h2, rfl⟩
        exact ⟨rfl, y, rfl, h1, h2⟩
      · rintro ys S ⟨rfl, h3⟩
        have hl := (pl_tuple.mp hd).1
        have hl2 := h3.length
        rw [ok_sized]
        refine ⟨by omega, ?_⟩
        simp_arith!
        refine ⟨pl_tuple.mpr ⟨by omega, fun y hy => ?_⟩, keeps_row ?_⟩
        · obtain ⟨x, _, h⟩ := h3.mem y hy
          exact h.1
        · clear hl2 hl hd
          induction h3 with
          | nil => exact .nil
          | cons h _ ih => exact .cons h.2 ih
    | _ => exact leaf (k + 1) _ m S True.intro hm hd
/-- the names within -/
theorem law_all_names_ok (h : tab "_law_all_names" = some fd_law_all_names) (hb0 : 1 ≤ b) :
    ∀ (k : Nat) (d : PyData) (m : Nat) (S : Store), k + 1 ≤ m → b ^ (k + 1) ≤ sizeLine → Pl b k d → Ok (callF tab m "_law_all_names" [.val d]) S (fun r S' => (∃ ys : List Str, r = .list (ys.map PyData.str) ∧ ys.length ≤ b ^ k ∧ ∀ y ∈ ys, PyData.strOk y = true ∧ y.length ≤ b) ∧ S' = S) := by
  have loop0 : ∀ (k m : Nat) (d : PyData) (S : Store), (match d with | .tuple _ => False | .dict _ => False | _ => True) → k + 1 ≤ m → Pl b k d → Ok (callF tab m "_law_all_names" [.val d]) S (fun r S' => (∃ ys : List Str, r = .list (ys.map PyData.str) ∧ ys.length ≤ b ^ k ∧ ∀ y ∈ ys, PyData.strOk y = true ∧ y.length ≤ b) ∧ S' = S) := by
    intro k m d S ht hm hd
    obtain ⟨n, rfl⟩ : ∃ n, m = n + 1 := ⟨m - 1, by omega⟩
    rw [ok_call h rfl]
    cases d with
    | tuple xs => exact ht.elim
    | dict xs => exact ht.elim
    | str a =>
      simp_arith! [fd_law_all_names, evEs]
      exact ⟨[a], rfl, Nat.one_le_pow _ _ hb0, mem_one (pl_str.mp hd)⟩
    | _ => simp_arith! [fd_law_all_names, evEs, evIt, iterOf, forS]; exact ⟨[], rfl, Nat.zero_le _, fun y hy => absurd hy List.not_mem_nil⟩
  intro k
  induction k with
  | zero =>
    intro d m S hm hp hd
    cases d with
    | tuple xs => exact (pl_tuple0 hd).elim
    | dict xs => exact (pl_dict hd).elim
    | _ => exact loop0 0 m _ S True.intro hm hd
  | succ k ih =>
    intro d m S hm hp hd
    cases d with
    | dict xs => exact (pl_dict hd).elim
    | tuple xs =>
      obtain ⟨n, rfl⟩ : ∃ n, m = n + 1 := ⟨m - 1, by omega⟩
      rw [ok_call h rfl]
      show Ends (evSs _ (.cons _ _) _ _) _
      refine oks_step (fun ρ' S' => ρ' = [.val (.tuple xs), .no, .no, .no] ∧ S' = S) (by simp_arith! [fd_law_all_names, stepQ_next]) ?_
      rintro _ S ⟨rfl, rfl⟩
      show Ends (evSs _ (.cons _ _) _ _) _
      refine oks_step (fun ρ' S' => ρ' = [.val (.tuple xs), .val (.list []), .no, .no] ∧ S' = S) (by simp_arith! [fd_law_all_names, stepQ_next]) ?_
      rintro _ S ⟨rfl, rfl⟩
      show Ends (evSs _ (.cons _ _) _ _) _
      refine oks_step (fun ρ' S' => ∃ (ys : List Str) (w : Slot), ρ' = [.val (.tuple xs), .val (.list (ys.map PyData.str)), w, .no] ∧ S' = S ∧ ys.length ≤ b ^ (k + 1) ∧ ∀ y ∈ ys, PyData.strOk y = true ∧ y.length ≤ b) ?_ ?_
      · simp_arith! [fd_law_all_names, evIt, iterOf]
        have hxl := (pl_tuple.mp hd).1
        have hpow : b ^ k * xs.length ≤ b ^ (k + 1) := by
          rw [Nat.pow_succ]
          exact Nat.mul_le_mul_left _ hxl
        have hp0 : b ^ (k + 1) ≤ sizeLine := Nat.le_trans (Nat.pow_le_pow_right hb0 (by omega)) hp
        refine oks_forI (fun r ρ' S' => ∃ (ys : List Str) (w : Slot), ρ' = [.val (.tuple xs), .val (.list (ys.map PyData.str)), w, .no] ∧ S' = S ∧ ys.length + b ^ k * r.length ≤ b ^ k * xs.length ∧ (∀ y ∈ ys, PyData.strOk y = true ∧ y.length ≤ b) ∧ ∀ x ∈ r, Pl b k x) ⟨[], _, rfl, rfl, by simp, fun y hy => absurd hy List.not_mem_nil, (pl_tuple.mp hd).2⟩ ?_ ?_
        · rintro x r ρ S ⟨ys, w, rfl, rfl, h1, h2, h3⟩
          rw [List.length_cons, Nat.mul_succ] at h1
          simp_arith! [evG, evC, bindTg, wipeE, ok_calm, okList, evIt, iterOf]
          refine (ih x n S (by omega) hp0 (h3 x List.mem_cons_self)).mono ?_
          rintro _ S ⟨⟨zs, rfl, h4, h5⟩, rfl⟩
          simp_arith!
          refine (ok_cat (fun S' => S' = S) (fun y => ∃ i : Str, y = .str i ∧ PyData.strOk i = true ∧ i.length ≤ b) 1 _ S rfl ?_).mono ?_
          · rintro x' hx' S rfl
            obtain ⟨i, hi, rfl⟩ := List.mem_map.mp hx'
            simp_arith! [notin_strs i ys (h5 i hi).1 fun y hy => (h2 y hy).1]
            split
            · simp_arith!
              exact ⟨Nat.le_refl _, i, rfl, h5 i hi⟩
            · simp_arith!
              exact Nat.zero_le _
          · rintro a S ⟨rfl, h6, h7⟩
            obtain ⟨us, rfl, h8⟩ := all_strs (b := b) (k := k) a h7
            rw [List.length_map, List.length_map] at h6
            rw [ok_sized]
            refine ⟨by rw [List.length_map]; omega, by rw [List.length_map, List.length_map]; omega, ?_⟩
            rw [loopQ_next]
            exact ⟨ys ++ us, _, by rw [List.map_append], rfl, by rw [List.length_append]; omega, mem_app h2 h8, fun y hy => h3 y (List.mem_cons_of_mem _ hy)⟩
        · rintro _ S ⟨ys, w, rfl, rfl, h1, h2, h3⟩
          exact ⟨ys, w, rfl, rfl, by simp only [List.length_nil, Nat.mul_zero] at h1; omega, h2⟩
      rintro _ S ⟨ys, w, rfl, rfl, h1, h2⟩
      simp_arith! [fd_law_all_names]
      exact ⟨ys, rfl, h1, h2⟩
    | _ => exact loop0 (k + 1) m _ S True.intro hm hd
end
end L2.DL

set_option maxHeartbeats 4000000
/-! The plain laws, thirteenth part: looks at what is asked. -/
namespace L2.DL
open PySem PyProof.Rows
open Lean in
local macro_rules
  | `(tactic| simp_arith) => `(tactic| simp_arith [])
  | `(tactic| simp_arith [$ls,*]) => `(tactic| simp only [List.cons_append, List.nil_append, Nat.reduceSub, List.replicate, oks_cons, oks_nil, oks_fin, oks_lift, evS, evT, evE, evO, evEs, evAs, ok_bind, ok_pure, ok_some, getRef, getVal, getOwn, List.getElem?_cons_zero, List.getElem?_cons_succ, List.set_cons_zero, List.set_cons_succ, ok_cell0,
    thenQ_next, thenQ_ret, endQ_ret, endQ_next, idxl0, idxl1, idxl2, idxl3, put1, put2, put3, biD, binD, cmpD, len_list, len_tuple, add_int, sub_int, aadd_int, asub_int, int_int, int_bool, tru_bool, tru_int, tru_none, tru_list, tru_tuple, eqD_int, neD_int, ltD_int, leD_int, gtD_int, geD_int, pow18, if_true, if_false, Bool.false_eq_true, Bool.not_false, Bool.not_true, ↓reduceIte, $ls,*])
open Lean in
local macro_rules
  | `(tactic| simp_arith!) => `(tactic| simp_arith! [])
  | `(tactic| simp_arith! [$ls,*]) => `(tactic| simp_arith [isiD, isiT, List.any_cons, List.any_nil, Bool.or_false, Bool.false_or, Bool.true_or, Bool.or_true, List.forall_mem_cons, List.not_mem_nil, false_implies, implies_true, true_and, and_true, and_assoc, isnD, nonD, isNoneD, pl_none, pl_bool, pl_int, orv_int, ok_str_int, ok_add_tuple, ok_add_list, ok_add_str, ok_sli_str, ok_rev_str, ok_len_str, rev_tuple, rev_list, sli_tuple, sli_list, list_list, list_tuple, tup_list, tup_tuple, len_tuple, len_list, cut_to, cut_from, cut_from1, cut_one, cut_1mid, cut_lit1, cut_litf1, $ls,*])
open Lean in
local macro_rules | `(tactic| and_intros) => `(tactic| first | assumption | (exact fun x hx => absurd hx List.not_mem_nil) | (apply mem_take; and_intros) | (apply mem_drop; and_intros) | (apply mem_rev; and_intros) | (apply mem_app <;> and_intros) | (apply mem_one; first | assumption | exact pl_int.mpr (Nat.two_pow_pos _)))
open Lean in
local macro_rules | `(tactic| bv_omega) => `(tactic| (first | omega | (simp only [List.length_append, List.length_take, List.length_drop, List.length_reverse, List.length_cons, List.length_nil] at *; omega)))
/-- what a law asks: plain data, or an empty dict -/
def Asked (b k : Nat) (d : PyData) : Prop := Pl b k d ∨ d = .dict []
section
variable {α : Type} {m : Mn α} {S : Store} {r : α} {Q : α → Store → Prop}
theorem pure_ok (h : Ok m S (fun a S' => a = r ∧ S' = S)) : m S = .ok r S := by
  obtain ⟨a, S', h1, rfl, rfl⟩ := h
  exact h1
theorem ok_of (h : m S = .ok r S) : Ok m S Q ↔ Q r S := ok_eq h
end
def isWhole : PyData → Bool
  | .int _ => true
  | _ => false
def isPlace (m : Nat) : PyData → Bool
  | .int i => decide (0 ≤ i) && decide (i < m)
  | _ => false
def arePlaces (m : Nat) : PyData → Bool
  | .tuple xs => xs.all (isPlace m)
  | _ => false
def isTold (w : Str) (c : Nat) : PyData → Bool
  | .tuple (.str s :: r) => decide (r.length + 1 = c) && (s == w)
  | _ => false
theorem isTold_two {w : Str} {d : PyData} (h : isTold w 2 d = true) : ∃ s x, d = .tuple [.str s, x] ∧ (s == w) = true := by
  cases d with
  | tuple xs =>
    match xs, h with
    | [.str s, x], h => 
      simp [isTold] at h
      exact ⟨s, x, rfl, by simpa using h⟩
    | [.str s], h => simp [isTold] at h
    | (.str s :: x :: y :: r), h => simp [isTold] at h
    | [], h => exact absurd h Bool.false_ne_true
  | _ => exact absurd h Bool.false_ne_true
section
variable {tab : Tab} {b k n : Nat} {S : Store} {d : PyData}
theorem is_whole_ev (h : tab "is_whole" = some fd_is_whole) : callF tab (n + 1) "is_whole" [.val d] S = .ok (.bool (isWhole d)) S := by
  refine pure_ok ?_
  rw [ok_call h rfl]
  cases d <;> (simp_arith! [fd_is_whole]; rfl)
theorem law_is_whole_ev (h : tab "_law_is_whole" = some fd_law_is_whole) : callF tab (n + 1) "_law_is_whole" [.val d] S = .ok (.bool (isWhole d)) S := by
  refine pure_ok ?_
  rw [ok_call h rfl]
  cases d <;> (simp_arith! [fd_law_is_whole]; rfl)
theorem is_told_ev (h : tab "is_told" = some fd_is_told) {w : Str} {c : Nat} (hc : 0 < c) (hw : PyData.strOk w = true) (hk : k ≤ 64) (hd : Asked b k d) : callF tab (n + 1) "is_told" [.val d, .val (.str w), .val (.int c)] S = .ok (.bool (isTold w c d)) S := by
  refine pure_ok ?_
  rw [ok_call h rfl]
  rcases hd with hd | rfl
  · cases d with
    | tuple xs =>
      cases k with
      | zero => exact (pl_tuple0 hd).elim
      | succ k =>
      cases xs with
      | nil =>
        have d0 : decide ((([] : List PyData).length : Int) = (c : Int)) = false := decide_eq_false (by simp; omega)
        simp_arith! [fd_is_told, d0]
        rfl
      | cons x r =>
        have hx := (pl_tuple.mp hd).2 x List.mem_cons_self
        by_cases hr : r.length + 1 = c
        · have d0 : decide (((x :: r).length : Int) = (c : Int)) = true := decide_eq_true (by rw [List.length_cons]; omega)
          have d1 : decide (r.length + 1 = c) = true := decide_eq_true hr
          cases x with
          | str s =>
            simp_arith! [fd_is_told, d0, idxt, eq_str (pl_str.mp hx).1 hw]
            simp only [isTold, d1, Bool.true_and]
          | _ => simp_arith! [fd_is_told, d0, idxt]; rfl
        · have d0 : decide (((x :: r).length : Int) = (c : Int)) = false := decide_eq_false (by rw [List.length_cons]; omega)
          have d1 : decide (r.length + 1 = c) = false := decide_eq_false hr
          simp_arith! [fd_is_told, d0]
          cases x <;> first | rfl | simp only [isTold, d1, Bool.false_and]
    | _ => simp_arith! [fd_is_told]; rfl
  · simp_arith! [fd_is_told]
    rfl
theorem law_is_ev (h : tab "_law_is" = some fd_law_is) {w : Str} {c : Nat} (hc : 0 < c) (hw : PyData.strOk w = true) (hk : k ≤ 64) (hd : Asked b k d) : callF tab (n + 1) "_law_is" [.val d, .val (.str w), .val (.int c)] S = .ok (.bool (isTold w c d)) S := by
  refine pure_ok ?_
  rw [ok_call h rfl]
  rcases hd with hd | rfl
  · cases d with
    | tuple xs =>
      cases k with
      | zero => exact (pl_tuple0 hd).elim
      | succ k =>
      cases xs with
      | nil =>
        have d0 : decide ((([] : List PyData).length : Int) = (c : Int)) = false := decide_eq_false (by simp; omega)
        simp_arith! [fd_law_is, d0]
        rfl
      | cons x r =>
        have hx := (pl_tuple.mp hd).2 x List.mem_cons_self
        by_cases hr : r.length + 1 = c
        · have d0 : decide (((x :: r).length : Int) = (c : Int)) = true := decide_eq_true (by rw [List.length_cons]; omega)
          have d1 : decide (r.length + 1 = c) = true := decide_eq_true hr
          cases x with
          | str s =>
            simp_arith! [fd_law_is, d0, idxt, eq_str (pl_str.mp hx).1 hw]
            simp only [isTold, d1, Bool.true_and]
          | _ => simp_arith! [fd_law_is, d0, idxt]; rfl
        · have d0 : decide (((x :: r).length : Int) = (c : Int)) = false := decide_eq_false (by rw [List.length_cons]; omega)
          have d1 : decide (r.length + 1 = c) = false := decide_eq_false hr
          simp_arith! [fd_law_is, d0]
          cases x <;> first | rfl | simp only [isTold, d1, Bool.false_and]
    | _ => simp_arith! [fd_law_is]; rfl
  · simp_arith! [fd_law_is]
    rfl
theorem sh_bools (ys : List Bool) : SeqAt.shaped (.list (ys.map PyData.bool)) = true := by
  unfold SeqAt.shaped
  rw [PyData.canLay0, PyData.depth, canLayAll0_mem _ fun x hx => ?_]
  · have h := depthAll_mem 0 (ys.map PyData.bool) fun x hx => by
      obtain ⟨i, _, rfl⟩ := List.mem_map.mp hx
      exact Nat.le_refl _
    rw [decide_eq_true (show _ ≤ 64 by omega)]
    rfl
  · obtain ⟨i, _, rfl⟩ := List.mem_map.mp hx
    rfl
theorem any_bools (c : Bool) : ∀ ys : List Bool, ((ys.map PyData.bool).any fun y => PyData.eqv y (.bool c)) = ys.any fun y => y == c
  | [] => rfl
  | y :: r => by
    rw [List.map_cons, List.any_cons, List.any_cons, any_bools c r]
    rw [PyData.eqv]
theorem in_bools (c : Bool) (ys : List Bool) : inD (.bool c) (.list (ys.map PyData.bool)) = some (ys.any fun y => y == c) := by
  show (if SeqAt.shaped (.bool c) && SeqAt.shaped (.list (ys.map PyData.bool)) then some ((ys.map PyData.bool).any fun y => PyData.eqv y (.bool c)) else _) = _
  rw [sh_bools, sh_bool, any_bools]
  rfl
theorem notin_bools (c : Bool) (ys : List Bool) : notinD (.bool c) (.list (ys.map PyData.bool)) = some (!ys.any fun y => y == c) := by
  show (if SeqAt.shaped (.bool c) && SeqAt.shaped (.list (ys.map PyData.bool)) then some (!(ys.map PyData.bool).any fun y => PyData.eqv y (.bool c)) else _) = _
  rw [sh_bools, sh_bool, any_bools]
  rfl
theorem flat_one {α β : Type} (g : α → β) : ∀ xs : List α, (xs.flatMap fun x => [g x]) = xs.map g
  | [] => rfl
  | x :: r => by
    rw [List.flatMap_cons, flat_one g r]
    rfl
theorem flat_if {α : Type} (p : α → Bool) : ∀ xs : List α, (xs.flatMap fun x => if p x then [x] else []) = xs.filter p
  | [] => rfl
  | x :: r => by
    rw [List.flatMap_cons, flat_if p r, List.filter_cons]
    cases p x <;> rfl
theorem are_places_ev (hW : tab "is_whole" = some fd_is_whole) (h : tab "are_places" = some fd_are_places) {c : Nat} (hk : k ≤ 64) (hb : b ≤ sizeLine) (hd : Pl b k d) : callF tab (n + 2) "are_places" [.val d, .val (.int c)] S = .ok (.bool (arePlaces c d)) S := by
  refine pure_ok ?_
  rw [ok_call h rfl]
  cases d with
  | tuple xs =>
    simp_arith! [fd_are_places, evG, evIt, evC, iterOf, bindTg, wipeE, ok_calm, okList]
    refine (ok_catP (fun x => [PyData.bool (isPlace c x)]) xs ?_).mono ?_
    · intro x hx
      simp_arith!
      rw [ok_of (is_whole_ev hW)]
      cases x with
      | int i =>
        by_cases h1 : 0 ≤ i
        · have d1 : decide (i < 0) = false := decide_eq_false (by omega)
          have d2 : decide (0 ≤ i) = true := decide_eq_true h1
          simp_arith! [isWhole, d1]
          rw [isPlace, d2, Bool.true_and]
        · have d1 : decide (i < 0) = true := decide_eq_true (by omega)
          have d2 : decide (0 ≤ i) = false := decide_eq_false h1
          simp_arith! [isWhole, d1]
          rw [isPlace, d2, Bool.false_and]
      | _ => simp_arith! [isWhole]; rfl
    · rintro _ S ⟨rfl, rfl⟩
      rw [flat_one, ok_sized]
      have hl : xs.length ≤ b := by
        cases k with
        | zero => exact (pl_tuple0 hd).elim
        | succ k => exact (pl_tuple.mp hd).1
      refine ⟨by rw [List.length_map]; omega, ?_⟩
      have e : xs.map (fun x => PyData.bool (isPlace c x)) = (xs.map (isPlace c)).map PyData.bool := by rw [List.map_map]; rfl
      rw [e]
      simp_arith! [notin_bools]
      rw [arePlaces]
      congr 1
      clear e hl hd
      induction xs with
      | nil => rfl
      | cons x r ih =>
        rw [List.map_cons, List.any_cons, List.all_cons, ← ih]
        cases isPlace c x <;> simp
  | _ => simp_arith! [fd_are_places]; rfl
theorem law_is_place_ev (hW : tab "_law_is_whole" = some fd_law_is_whole) (h : tab "_law_is_place" = some fd_law_is_place) {c : Nat} : callF tab (n + 2) "_law_is_place" [.val d, .val (.int c)] S = .ok (.bool (isPlace c d)) S := by
  refine pure_ok ?_
  rw [ok_call h rfl]
  simp_arith! [fd_law_is_place]
  rw [ok_of (law_is_whole_ev hW)]
  cases d with
  | int i =>
    by_cases h1 : 0 ≤ i
    · have d1 : decide (i < 0) = false := decide_eq_false (by omega)
      have d2 : decide (0 ≤ i) = true := decide_eq_true h1
      simp_arith! [isWhole, d1]
      rw [isPlace, d2, Bool.true_and]
    · have d1 : decide (i < 0) = true := decide_eq_true (by omega)
      have d2 : decide (0 ≤ i) = false := decide_eq_false h1
      simp_arith! [isWhole, d1]
      rw [isPlace, d2, Bool.false_and]
  | _ => simp_arith! [isWhole]; rfl
theorem all_filter {α : Type} (p : α → Bool) : ∀ xs : List α, (xs.filter fun x => !p x).isEmpty = xs.all p
  | [] => rfl
  | x :: r => by
    rw [List.filter_cons, List.all_cons, ← all_filter p r]
    cases p x <;> rfl
theorem law_are_places_ev (hW : tab "_law_is_whole" = some fd_law_is_whole) (hP : tab "_law_is_place" = some fd_law_is_place) (h : tab "_law_are_places" = some fd_law_are_places) {c : Nat} (hk : k ≤ 64) (hb : b ≤ sizeLine) (hd : Pl b k d) : callF tab (n + 3) "_law_are_places" [.val d, .val (.int c)] S = .ok (.bool (arePlaces c d)) S := by
  refine pure_ok ?_
  rw [ok_call h rfl]
  cases d with
  | tuple xs =>
    simp_arith! [fd_law_are_places, evG, evIt, evC, iterOf, bindTg, wipeE, ok_calm, okList, evEs]
    refine (ok_catP (fun x => if !isPlace c x then [x] else []) xs ?_).mono ?_
    · intro x hx
      simp_arith!
      rw [ok_of (law_is_place_ev hW hP)]
      cases isPlace c x <;> simp_arith!
    · rintro _ S ⟨rfl, rfl⟩
      cases k with
      | zero => exact (pl_tuple0 hd).elim
      | succ k =>
      have hl := (pl_tuple.mp hd).1
      rw [flat_if, ok_sized]
      have q2 := List.length_filter_le (fun x => !isPlace c x) xs
      refine ⟨by omega, ?_⟩
      rw [ok_eq_nilL (b := b) (k := k) (by omega) (by omega) fun x hx => (pl_tuple.mp hd).2 x (List.mem_filter.mp hx).1]
      simp_arith!
      rw [arePlaces, all_filter]
  | _ => simp_arith! [fd_law_are_places]; rfl
theorem law_same_bool (h : tab "_law_same" = some fd_law_same) (x y : Bool) : callF tab (n + 1) "_law_same" [.val (.bool x), .val (.bool y)] S = .ok (.bool (x == y)) S := by
  refine pure_ok ?_
  rw [ok_call h rfl]
  have e : eqD (.bool x) (.bool y) = some (x == y) := by rw [eqD_sh rfl rfl, PyData.eqv]
  simp_arith! [fd_law_same, e]
end
end L2.DL

set_option maxHeartbeats 4000000
/-! The plain laws, fourteenth part: rows of names. -/
namespace L2.DL
open PySem PyProof.Rows
open Lean in
local macro_rules
  | `(tactic| simp_arith) => `(tactic| simp_arith [])
  | `(tactic| simp_arith [$ls,*]) => `(tactic| simp only [List.cons_append, List.nil_append, Nat.reduceSub, List.replicate, oks_cons, oks_nil, oks_fin, oks_lift, evS, evT, evE, evO, evEs, evAs, ok_bind, ok_pure, ok_some, getRef, getVal, getOwn, List.getElem?_cons_zero, List.getElem?_cons_succ, List.set_cons_zero, List.set_cons_succ, ok_cell0,
    thenQ_next, thenQ_ret, endQ_ret, endQ_next, idxl0, idxl1, idxl2, idxl3, put1, put2, put3, biD, binD, cmpD, len_list, len_tuple, add_int, sub_int, aadd_int, asub_int, int_int, int_bool, tru_bool, tru_int, tru_none, tru_list, tru_tuple, eqD_int, neD_int, ltD_int, leD_int, gtD_int, geD_int, pow18, if_true, if_false, Bool.false_eq_true, Bool.not_false, Bool.not_true, ↓reduceIte, $ls,*])
open Lean in
local macro_rules
  | `(tactic| simp_arith!) => `(tactic| simp_arith! [])
  | `(tactic| simp_arith! [$ls,*]) => `(tactic| simp_arith [isiD, isiT, List.any_cons, List.any_nil, Bool.or_false, Bool.false_or, Bool.true_or, Bool.or_true, List.forall_mem_cons, List.not_mem_nil, false_implies, implies_true, true_and, and_true, and_assoc, isnD, nonD, isNoneD, pl_none, pl_bool, pl_int, orv_int, ok_str_int, ok_add_tuple, ok_add_list, ok_add_str, ok_sli_str, ok_rev_str, ok_len_str, rev_tuple, rev_list, sli_tuple, sli_list, list_list, list_tuple, tup_list, tup_tuple, len_tuple, len_list, cut_to, cut_from, cut_from1, cut_one, cut_1mid, cut_lit1, cut_litf1, $ls,*])
open Lean in
local macro_rules | `(tactic| and_intros) => `(tactic| first | assumption | (exact fun x hx => absurd hx List.not_mem_nil) | (apply mem_take; and_intros) | (apply mem_drop; and_intros) | (apply mem_rev; and_intros) | (apply mem_app <;> and_intros) | (apply mem_one; first | assumption | exact pl_int.mpr (Nat.two_pow_pos _)))
open Lean in
local macro_rules | `(tactic| bv_omega) => `(tactic| (first | omega | (simp only [List.length_append, List.length_take, List.length_drop, List.length_reverse, List.length_cons, List.length_nil] at *; omega)))
theorem catM_map {α β γ : Type} (h : α → β) (f : β → Mn (List γ)) : ∀ xs : List α, catM f (xs.map h) = catM (fun x => f (h x)) xs
  | [] => rfl
  | x :: r => by
    rw [List.map_cons, catM, catM, catM_map h f r]
theorem idx_last {xs : List PyData} {x : PyData} : idxD (.list (xs ++ [x])) (.int (-1)) = some x := by
  show L2.atI (xs ++ [x]) (-1) = some x
  unfold L2.atI L2.ixN
  have e : (xs ++ [x]).length = xs.length + 1 := by rw [List.length_append]; rfl
  rw [if_neg (by omega), if_pos (by omega), Option.bind_some, e, show ((-1 : Int) + ((xs.length + 1 : Nat) : Int)).toNat = xs.length by omega]
  rw [List.getElem?_append_right (Nat.le_refl _), Nat.sub_self]
  rfl
open Lean in
local macro_rules
  | `(tactic| simp_all_arith) => `(tactic| simp_all_arith [])
  | `(tactic| simp_all_arith [$ls,*]) => `(tactic| simp_arith! [evG, evIt, evC, iterOf, bindTg, setAll, wipeE, ok_calm, okList, evEs, idxt, List.length_map, List.length_cons, List.length_nil, $ls,*])
theorem cut_to1 {α : Type} {xs : List α} {k : Nat} : cutL xs none (some ((k : Int) + 1)) = xs.take (k + 1) := cut_to (k := k + 1)
def OkStrs (b : Nat) (zs : List Str) : Prop := zs.length ≤ b ∧ ∀ z ∈ zs, PyData.strOk z = true ∧ z.length ≤ b
def strT (zs : List Str) : PyData := .tuple (zs.map PyData.str)
theorem OkStrs.pl {b : Nat} {zs : List Str} (h : OkStrs b zs) : Pl b 1 (strT zs) :=
  pl_tuple.mpr ⟨by rw [List.length_map]; exact h.1, fun x hx => by
    obtain ⟨z, hz, rfl⟩ := List.mem_map.mp hx
    exact pl_str.mpr (h.2 z hz)⟩
theorem OkStrs.hasT {b : Nat} {zs : List Str} (h : OkStrs b zs) {n : Nat} (hn : zs.length ≤ n) : HasT b (.row n .str) (strT zs) :=
  ⟨by rw [List.length_map]; exact hn, fun x hx => by
    obtain ⟨z, hz, rfl⟩ := List.mem_map.mp hx
    exact h.2 z hz⟩
theorem hasT_strs {b n : Nat} {d : PyData} (hn : n ≤ b) (h : HasT b (.row n .str) d) : ∃ zs, d = strT zs ∧ zs.length ≤ n ∧ OkStrs b zs := by
  cases d with
  | tuple xs =>
    obtain ⟨zs, rfl, hz⟩ := all_strs (b := b) (k := 0) (P := fun s => PyData.strOk s = true ∧ s.length ≤ b) xs fun y hy => by
      have p := h.2 y hy
      cases y with
      | str s => exact ⟨s, rfl, p⟩
      | _ => exact p.elim
    have hl := h.1
    rw [List.length_map] at hl
    exact ⟨zs, rfl, hl, by omega, hz⟩
  | _ => exact h.elim
/-- the first place at which w stands -/
def firstFrom (w : Str) : Nat → List Str → Option Nat
  | _, [] => none
  | p, o :: r => if o == w then some p else firstFrom w (p + 1) r
theorem firstEq_str (w : Str) : ∀ (k : Nat) (ys : List Str), firstEq (.str w) k (ys.map PyData.str) = firstFrom w k ys
  | _, [] => rfl
  | k, y :: r => by
    rw [List.map_cons, firstEq, firstFrom, firstEq_str w (k + 1) r, PyData.eqv]
theorem any_strs (w : Str) : ∀ (k : Nat) (ys : List Str), ((ys.map PyData.str).any fun y => PyData.eqv y (.str w)) = (firstFrom w k ys).isSome
  | _, [] => rfl
  | k, y :: r => by
    rw [List.map_cons, List.any_cons, firstFrom, any_strs w (k + 1) r, PyData.eqv]
    cases y == w <;> rfl
theorem firstFrom_shift (w : Str) : ∀ (k j : Nat) (ys : List Str), firstFrom w (k + j) ys = (firstFrom w k ys).map (· + j)
  | _, _, [] => rfl
  | k, j, y :: r => by
    rw [firstFrom, firstFrom]
    cases y == w with
    | true => rfl
    | false =>
      have e := firstFrom_shift w (k + 1) j r
      rw [show k + 1 + j = k + j + 1 by omega] at e
      simpa using e
theorem firstFrom_lt (w : Str) : ∀ (k : Nat) (ys : List Str) (p : Nat), firstFrom w k ys = some p → k ≤ p ∧ p < k + ys.length
  | _, [], p, h => by cases h
  | k, y :: r, p, h => by
    rw [firstFrom] at h
    cases e : y == w with
    | true =>
      rw [e] at h
      cases h
      rw [List.length_cons]
      omega
    | false =>
      rw [e] at h
      have := firstFrom_lt w (k + 1) r p h
      rw [List.length_cons]
      omega
theorem firstFrom_eq (w : Str) : ∀ (k : Nat) (ys : List Str) (p : Nat), firstFrom w k ys = some p → ys[p - k]? = some w
  | _, [], p, h => by cases h
  | k, y :: r, p, h => by
    rw [firstFrom] at h
    cases e : y == w with
    | true =>
      rw [e] at h
      cases h
      rw [Nat.sub_self]
      rw [eq_of_beq e]
      rfl
    | false =>
      rw [e] at h
      have h1 := firstFrom_lt w (k + 1) r p h
      have h2 := firstFrom_eq w (k + 1) r p h
      rw [show p - k = (p - (k + 1)) + 1 by omega]
      exact h2
/-- the places from lo at which w stands, the first of them -/
theorem head_zip (w : Str) (lo : Nat) : ∀ (ys : List Str) (k : Nat), ((ys.zipIdx k).filter fun q => q.1 == w && decide (lo ≤ q.2)).head?.map (·.2) = firstFrom w (max k lo) (ys.drop (lo - k))
  | [], k => by rw [List.drop_nil]; rfl
  | y :: r, k => by
    rw [List.zipIdx_cons, List.filter_cons]
    by_cases h : lo ≤ k
    · rw [Nat.sub_eq_zero_of_le h, List.drop_zero, Nat.max_eq_left h, firstFrom]
      have d1 : decide (lo ≤ k) = true := decide_eq_true h
      cases e : y == w with
      | true =>
        simp only [e, d1, Bool.and_self, if_true]
        rfl
      | false =>
        simp only [e, Bool.false_and, Bool.false_eq_true, if_false]
        rw [head_zip w lo r (k + 1), Nat.max_eq_left (by omega), Nat.sub_eq_zero_of_le (by omega), List.drop_zero]
    · have d1 : decide (lo ≤ k) = false := decide_eq_false h
      simp only [d1, Bool.and_false, Bool.false_eq_true, if_false]
      rw [head_zip w lo r (k + 1), show lo - k = (lo - (k + 1)) + 1 by omega, List.drop_succ_cons, Nat.max_eq_right (by omega), Nat.max_eq_right (by omega)]
section
variable {tab : Tab} {b k n : Nat} {S : Store} {d : PyData}
theorem law_neighbour_strs (hN : tab "_law_next" = some fd_law_next) (h : tab "_law_neighbour" = some fd_law_neighbour) (hb : 5 ≤ b) (hb2 : b ≤ 1000) {zs : List Str} (hz : OkStrs b zs) (hs : StOk S) :
    Ok (callF tab (n + 2) "_law_neighbour" [.ref 0, .val (strT zs)]) S (fun r S' => (∃ ws : List Str, r = strT ws ∧ ws.length ≤ zs.length ∧ OkStrs b ws) ∧ StOk S') := by
  rw [ok_call h rfl]
  have hZ := sizeLine_eq
  have es := eqD_sh (hz.pl.shaped (by decide)) sh_nil
  unfold strT at es ⊢
  rw [eqv_nil] at es
  show Ends (evSs _ (.cons _ _) _ _) _
  refine oks_step (fun ρ' S' => ∃ w, ρ' = [.ref 0, .val (.tuple (zs.map PyData.str)), w, .no, .no] ∧ StOk S') ?_ ?_
  · simp_arith! [fd_law_neighbour, evEs, stepQ_next]
    refine (law_next_ok hN (L := 2) (by decide) (by decide) hs).mono ?_
    rintro _ S ⟨r, hr, rfl, hs⟩
    refine ok_pick hr fun y hy => ?_
    exact ⟨_, rfl, hs⟩
  rintro _ S ⟨w, rfl, hs⟩
  cases e : (zs.map PyData.str).isEmpty with
  | true =>
    rw [e] at es
    simp_arith! [fd_law_neighbour, evEs, es]
    exact ⟨⟨zs, rfl, Nat.le_refl _, hz⟩, hs⟩
  | false =>
    rw [e] at es
    have h0 : 0 < zs.length := by
      cases zs with
      | nil => cases e
      | cons x r => exact Nat.succ_pos _
    obtain ⟨z0, zr, rfl⟩ : ∃ z r, zs = z :: r := by
      cases zs with
      | nil => exact absurd h0 (by decide)
      | cons x r => exact ⟨x, r, rfl⟩
    have hl := hz.1
    show Ends (evSs _ (.cons _ _) _ _) _
    refine oks_step (fun ρ' S' => ρ' = [.ref 0, .val (.tuple ((z0 :: zr).map PyData.str)), w, .no, .no] ∧ StOk S') (by simp_arith! [fd_law_neighbour, evEs, es, stepQ_next]; exact hs) ?_
    rintro _ S ⟨rfl, hs⟩
    show Ends (evSs _ (.cons _ _) _ _) _
    refine oks_step (fun ρ' S' => ρ' = [.ref 0, .val (.tuple ((z0 :: zr).map PyData.str)), w, .no, .no] ∧ StOk S') (by simp_arith! [fd_law_neighbour, evEs, es, stepQ_next]; exact hs) ?_
    rintro _ S ⟨rfl, hs⟩
    show Ends (evSs _ (.cons _ _) _ _) _
    refine oks_step (fun ρ' S' => ρ' = [.ref 0, .val (.tuple ((z0 :: zr).map PyData.str)), w, .no, .no] ∧ StOk S') ?_ ?_
    · by_cases h2 : (((z0 :: zr).map PyData.str).length : Int) = 2
      · have d2 := decide_eq_true h2
        simp_arith! [fd_law_neighbour, d2, idxt, List.map_cons, stepQ_next]
        rw [List.map_cons] at d2
        simp_arith! [d2, idxt, stepQ_next]
        exact hs
      · have d2 := decide_eq_false h2
        simp_arith! [fd_law_neighbour, d2, stepQ_next]
        exact hs
    rintro _ S ⟨rfl, hs⟩
    show Ends (evSs _ (.cons _ _) _ _) _
    refine oks_step (fun ρ' S' => ∃ r : Nat, r < (z0 :: zr).length ∧ ρ' = [.ref 0, .val (.tuple ((z0 :: zr).map PyData.str)), w, .val (.int r), .no] ∧ StOk S') ?_ ?_
    · simp_arith! [fd_law_neighbour, stepQ_next, List.length_map]
      refine (law_next_ok hN h0 (by omega) hs).mono ?_
      rintro _ S ⟨r, hr, rfl, hs⟩
      exact ⟨r, hr, rfl, hs⟩
    rintro _ S ⟨r, hr, rfl, hs⟩
    generalize z0 :: zr = zs at *
    have e1 : idxD (.list (zs.map PyData.str)) (.int r) = some (.str zs[r]) := idxl (by rw [List.getElem?_map, List.getElem?_eq_getElem hr]; rfl)
    simp_arith! [fd_law_neighbour, idxt, e1]
    refine ⟨by simp only [List.length_take, List.length_drop, List.length_map]; omega, ⟨zs.take r ++ zs.drop (r + 1), by rw [List.map_append, List.map_take, List.map_drop], by bv_omega, by bv_omega, mem_app (mem_take hz.2) (mem_drop hz.2)⟩, hs⟩
end
end L2.DL

set_option maxHeartbeats 4000000
/-! The plain laws, fifteenth part: rows of numbers; what all laws share. -/
namespace L2.DL
open PySem PyProof.Rows
open Lean in
local macro_rules
  | `(tactic| simp_arith) => `(tactic| simp_arith [])
  | `(tactic| simp_arith [$ls,*]) => `(tactic| simp only [List.cons_append, List.nil_append, Nat.reduceSub, List.replicate, oks_cons, oks_nil, oks_fin, oks_lift, evS, evT, evE, evO, evEs, evAs, ok_bind, ok_pure, ok_some, getRef, getVal, getOwn, List.getElem?_cons_zero, List.getElem?_cons_succ, List.set_cons_zero, List.set_cons_succ, ok_cell0,
    thenQ_next, thenQ_ret, endQ_ret, endQ_next, idxl0, idxl1, idxl2, idxl3, put1, put2, put3, biD, binD, cmpD, len_list, len_tuple, add_int, sub_int, aadd_int, asub_int, int_int, int_bool, tru_bool, tru_int, tru_none, tru_list, tru_tuple, eqD_int, neD_int, ltD_int, leD_int, gtD_int, geD_int, pow18, if_true, if_false, Bool.false_eq_true, Bool.not_false, Bool.not_true, ↓reduceIte, $ls,*])
open Lean in
local macro_rules
  | `(tactic| simp_arith!) => `(tactic| simp_arith! [])
  | `(tactic| simp_arith! [$ls,*]) => `(tactic| simp_arith [isiD, isiT, List.any_cons, List.any_nil, Bool.or_false, Bool.false_or, Bool.true_or, Bool.or_true, List.forall_mem_cons, List.not_mem_nil, false_implies, implies_true, true_and, and_true, and_assoc, isnD, nonD, isNoneD, pl_none, pl_bool, pl_int, orv_int, ok_str_int, ok_add_tuple, ok_add_list, ok_add_str, ok_sli_str, ok_rev_str, ok_len_str, rev_tuple, rev_list, sli_tuple, sli_list, list_list, list_tuple, tup_list, tup_tuple, len_tuple, len_list, cut_to, cut_from, cut_from1, cut_one, cut_1mid, cut_lit1, cut_litf1, $ls,*])
open Lean in
local macro_rules | `(tactic| and_intros) => `(tactic| first | assumption | (exact fun x hx => absurd hx List.not_mem_nil) | (apply mem_take; and_intros) | (apply mem_drop; and_intros) | (apply mem_rev; and_intros) | (apply mem_app <;> and_intros) | (apply mem_one; first | assumption | exact pl_int.mpr (Nat.two_pow_pos _)))
open Lean in
local macro_rules | `(tactic| bv_omega) => `(tactic| (first | omega | (simp only [List.length_append, List.length_take, List.length_drop, List.length_reverse, List.length_cons, List.length_nil] at *; omega)))
open Lean in
local macro_rules
  | `(tactic| simp_all_arith) => `(tactic| simp_all_arith [])
  | `(tactic| simp_all_arith [$ls,*]) => `(tactic| simp_arith! [evG, evIt, evC, iterOf, bindTg, setAll, wipeE, ok_calm, okList, evEs, idxt, List.length_map, List.length_cons, List.length_nil, $ls,*])
def natL (ps : List Nat) : List PyData := ps.map fun p => .int (p : Nat)
theorem enum_strs (os : List Str) : enumD (.tuple (os.map PyData.str)) = some (os.zipIdx.map fun q => .tuple [.int q.2, .str q.1]) := by
  show some (((os.map PyData.str).zipIdx).map fun p => PyData.tuple [.int p.2, p.1]) = _
  rw [List.zipIdx_map, List.map_map]
  rfl
theorem flat_ifm {α β : Type} (p : α → Bool) (g : α → β) : ∀ xs : List α, (xs.flatMap fun x => if p x then [g x] else []) = (xs.filter p).map g
  | [] => rfl
  | x :: r => by
    rw [List.flatMap_cons, flat_ifm p g r, List.filter_cons]
    cases p x <;> rfl
theorem nil_or_app {α : Type} (ps : List α) : ps = [] ∨ ∃ qs q, ps = qs ++ [q] := by
  rcases List.eq_nil_or_concat ps with h | ⟨qs, q, h⟩
  · exact .inl h
  · exact .inr ⟨qs, q, by rw [h, List.concat_eq_append]⟩
theorem natL_nil : natL [] = [] := rfl
theorem natL_app (ps : List Nat) (p : Nat) : natL (ps ++ [p]) = natL ps ++ [.int p] := by
  unfold natL
  rw [List.map_append]
  rfl
theorem natL_len (ps : List Nat) : (natL ps).length = ps.length := List.length_map ..
theorem isEmpty_app1 {α : Type} (xs : List α) (x : α) : (xs ++ [x]).isEmpty = false := by cases xs <;> rfl
theorem index_strs {w : Str} {ys : List Str} {j : Nat} (hw : PyData.strOk w = true) (h : ∀ y ∈ ys, PyData.strOk y = true) (e : firstFrom w 0 ys = some j) : mthD .index (.list (ys.map PyData.str)) [.str w] = some (.int j) := by
  show (if SeqAt.shaped (.str w) && SeqAt.shaped (.list (ys.map PyData.str)) then (firstEq (.str w) 0 (ys.map PyData.str)).map fun k => PyData.int k else none) = _
  rw [sh_str hw, sh_strs ys h, firstEq_str, e]
  rfl
def rise (qs : List Nat) : Bool := !((qs.zip (qs.drop 1)).any fun q => decide (q.2 ≤ q.1))
def toNatD : PyData → Nat
  | .int i => i.toNat
  | _ => 0
theorem natsOf (m : Nat) : ∀ xs : List PyData, arePlaces m (.tuple xs) = true → ∃ qs : List Nat, xs = natL qs ∧ (∀ q ∈ qs, q < m) ∧ xs.map toNatD = qs
  | [], _ => ⟨[], rfl, fun q hq => absurd hq List.not_mem_nil, rfl⟩
  | x :: r, h => by
    have h1 : isPlace m x = true ∧ arePlaces m (.tuple r) = true := by
      rw [arePlaces, List.all_cons, Bool.and_eq_true] at h
      exact h
    obtain ⟨qs, rfl, h2, h3⟩ := natsOf m r h1.2
    cases x with
    | int i =>
      have h4 := h1.1
      rw [isPlace, Bool.and_eq_true, decide_eq_true_iff, decide_eq_true_iff] at h4
      refine ⟨i.toNat :: qs, ?_, List.forall_mem_cons.mpr ⟨by omega, h2⟩, ?_⟩
      · show _ = PyData.int (i.toNat : Nat) :: natL qs
        rw [Int.toNat_of_nonneg h4.1]
      · rw [List.map_cons, h3]
        rfl
    | _ => exact absurd h1.1 Bool.false_ne_true
theorem nats_map (qs : List Nat) : (natL qs).map toNatD = qs := by
  induction qs with
  | nil => rfl
  | cons q r ih =>
    show toNatD (.int (q : Nat)) :: (natL r).map toNatD = _
    rw [ih]
    rfl
theorem nats_places (m : Nat) : ∀ qs : List Nat, (∀ q ∈ qs, q < m) → arePlaces m (.tuple (natL qs)) = true
  | [], _ => rfl
  | q :: r, h => by
    show (isPlace m (.int (q : Nat)) && (natL r).all (isPlace m)) = true
    have h1 := nats_places m r fun x hx => h x (List.mem_cons_of_mem _ hx)
    rw [arePlaces] at h1
    have h2 := h q List.mem_cons_self
    rw [h1, isPlace, decide_eq_true (by omega), decide_eq_true (by omega)]
    rfl
theorem eqv_strs : ∀ xs ys : List Str, PyData.eqv (.list (xs.map PyData.str)) (.list (ys.map PyData.str)) = decide (xs = ys)
  | [], [] => by rw [List.map_nil, PyData.eqv, PyData.eqvAll]; rfl
  | [], y :: ys => by rw [List.map_nil, List.map_cons, PyData.eqv, PyData.eqvAll]; rfl
  | x :: xs, [] => by rw [List.map_nil, List.map_cons, PyData.eqv, PyData.eqvAll]; rfl
  | x :: xs, y :: ys => by
    have h := eqv_strs xs ys
    rw [PyData.eqv] at h ⊢
    rw [List.map_cons, List.map_cons, PyData.eqvAll, h, PyData.eqv]
    by_cases h1 : x = y
    · subst h1
      simp
    · have : (x == y) = false := by simpa using h1
      rw [this]
      simp [h1]
theorem natL_pl {b k m : Nat} {qs : List Nat} (h : ∀ q ∈ qs, q < m) (hm : m ≤ 2 ^ b) : ∀ x ∈ natL qs, Pl b k x := by
  intro x hx
  obtain ⟨q, hq, rfl⟩ := List.mem_map.mp hx
  have := h q hq
  exact pl_int.mpr (by omega)
theorem zip_nats (qs : List Nat) : zipD (.tuple (natL qs)) (.tuple ((natL qs).drop 1)) = some ((qs.zip (qs.drop 1)).map fun q => .tuple [.int q.1, .int q.2]) := by
  show some (((natL qs).zip ((natL qs).drop 1)).map fun p => PyData.tuple [p.1, p.2]) = _
  unfold natL
  rw [← List.map_drop, List.zip_map, List.map_map]
  rfl
theorem eqv_two (a b c d : PyData) : PyData.eqv (.tuple [a, b]) (.tuple [c, d]) = (PyData.eqv a c && PyData.eqv b d) := by
  rw [PyData.eqv, PyData.eqvAll, PyData.eqvAll, PyData.eqvAll, Bool.and_true]
theorem Asked.pl {b k : Nat} {xs : List PyData} (h : Asked b k (.tuple xs)) : Pl b k (.tuple xs) := by
  rcases h with h | h
  · exact h
  · cases h
theorem range62_ok (c : Int) (h : -1000000 ≤ c) (h2 : c ≤ 1000000) : range62 c = true := by
  unfold range62
  rw [Bool.and_eq_true, decide_eq_true_iff, decide_eq_true_iff]
  constructor <;> omega
theorem range_int (c : Int) (h : -1000000 ≤ c) (h2 : c ≤ 1000000) : rng1 (.int c) = some ((List.range c.toNat).map fun k => .int (k : Nat)) := by
  have e0 : rng1 (.int c) = if range62 c then some (rangeN 0 c.toNat 1) else none := rfl
  have e1 : ∀ k : Nat, (0 : Int) + (k : Nat) * 1 = k := fun k => by omega
  rw [e0, range62_ok c h h2, if_pos rfl, rangeN]
  simp only [e1]
theorem range_lt (c : Nat) (hc : c ≤ 1000000) : rng1 (.int (c : Int)) = some ((List.range c).map fun k => .int (k : Nat)) := by
  have e := range_int (c : Int) (by omega) (by omega)
  rw [Int.toNat_natCast] at e
  exact e
theorem range_pred (c : Nat) (hc : c ≤ 1000000) : rng1 (.int ((c : Int) - 1)) = some ((List.range (c - 1)).map fun k => .int (k : Nat)) := by
  have e := range_int ((c : Int) - 1) (by omega) (by omega)
  rw [show ((c : Int) - 1).toNat = c - 1 by omega] at e
  exact e
theorem natL_ints (ps : List Nat) : natL ps = (List.map (fun p : Nat => Int.ofNat p) ps).map PyData.int := by
  rw [List.map_map]
  rfl
theorem ne_nats (ps : List Nat) : neD (.list (ps.map fun p => PyData.int (p : Nat))) (.list []) = some (!ps.isEmpty) := by
  rw [show (ps.map fun p => PyData.int (p : Nat)) = natL ps from rfl, natL_ints, ne_ints]
  cases ps <;> rfl
theorem eq_nats (ps : List Nat) : eqD (.list (ps.map fun p => PyData.int (p : Nat))) (.list []) = some ps.isEmpty := by
  rw [show (ps.map fun p => PyData.int (p : Nat)) = natL ps from rfl, natL_ints, eqD_sh (sh_ints _) sh_nilL, eqv_nilL]
  cases ps <;> rfl
theorem idx_nat {qs : List Nat} {k : Nat} (h : k < qs.length) : idxD (.list (natL qs)) (.int k) = some (.int (qs.getD k 0 : Nat)) :=
  idxl (by
    unfold natL
    rw [List.getElem?_map, List.getD_eq_getElem?_getD, List.getElem?_eq_getElem h]
    rfl)
theorem idx_nat1 {qs : List Nat} {k : Nat} (h : k + 1 < qs.length) : idxD (.list (natL qs)) (.int ((k : Int) + 1)) = some (.int (qs.getD (k + 1) 0 : Nat)) := idx_nat h
theorem idx_str {os : List Str} {k : Nat} (h : k < os.length) : idxD (.list (os.map PyData.str)) (.int k) = some (.str (os.getD k default)) :=
  idxl (by
    rw [List.getElem?_map, List.getD_eq_getElem?_getD, List.getElem?_eq_getElem h]
    rfl)
theorem rise_two (a c : Nat) (r : List Nat) : rise (a :: c :: r) = (decide (a < c) && rise (c :: r)) := by
  show (!(decide (c ≤ a) || (((c :: r).zip ((c :: r).drop 1)).any fun q => decide (q.2 ≤ q.1)))) = _
  rw [Bool.not_or]
  congr 1
  by_cases h : a < c
  · rw [decide_eq_true h, decide_eq_false (by omega)]
    rfl
  · rw [decide_eq_false h, decide_eq_true (by omega)]
    rfl
theorem rise_range : ∀ qs : List Nat, ((List.range (qs.length - 1)).filter fun k => decide (qs.getD (k + 1) 0 ≤ qs.getD k 0)).isEmpty = rise qs
  | [] => rfl
  | [a] => rfl
  | a :: c :: r => by
    have ih := rise_range (c :: r)
    rw [rise_two, ← ih]
    show ((List.range (r.length + 1)).filter _).isEmpty = _
    rw [List.range_succ_eq_map, List.filter_cons, List.filter_map]
    show (if decide (c ≤ a) then _ else _ : List Nat).isEmpty = _
    by_cases h : a < c
    · rw [decide_eq_true h, decide_eq_false (by omega), if_neg Bool.false_ne_true, List.isEmpty_map, Bool.true_and]
      rfl
    · rw [decide_eq_false h, decide_eq_true (by omega), if_pos rfl, Bool.false_and]
      rfl
theorem oks_try {S : Store} {Φ : Call} {B : Ss} {h : Hs} {ρ : Env} {Q : Flow → Env → Store → Prop} (hb : Ends (evSs Φ B ρ S) Q) : Ends (evS Φ (.tryy B h) ρ S) Q := by
  obtain ⟨f, ρ', S', e, q⟩ := hb
  exact ⟨f, ρ', S', by rw [evS, e], q⟩
/-- what all laws share -/
structure Help (tab : Tab) : Prop where
  next : tab "_law_next" = some fd_law_next
  same : tab "_law_same" = some fd_law_same
  changed : tab "_law_changed" = some fd_law_changed
  numbers : tab "_law_ints" = some fd_law_ints
  exchanged : tab "_law_exchanged" = some fd_law_exchanged
  cut : tab "_law_cut" = some fd_law_cut
  turned : tab "_law_turned_about" = some fd_law_turned_about
  odd : tab "_law_odd" = some fd_law_odd
  neighbour : tab "_law_neighbour" = some fd_law_neighbour
/-- the looks that some laws have -/
structure HelpL (tab : Tab) : Prop where
  whole : tab "_law_is_whole" = some fd_law_is_whole
  place : tab "_law_is_place" = some fd_law_is_place
  places : tab "_law_are_places" = some fd_law_are_places
  is : tab "_law_is" = some fd_law_is
/-- and those with names -/
structure HelpN (tab : Tab) : Prop extends Help tab, HelpL tab where
  names : tab "_law_all_names" = some fd_law_all_names
  swapped : tab "_law_swapped" = some fd_law_swapped
theorem eq_strs_nil (zs : List Str) (h : ∀ z ∈ zs, PyData.strOk z = true) : eqD (.list (zs.map PyData.str)) (.list []) = some zs.isEmpty := by
  rw [eqD_sh (sh_strs zs h) sh_nilL, eqv_nilL]
  cases zs <;> rfl
theorem cutL_mem {α : Type} {xs : List α} {l h : Option Int} {P : α → Prop} (hx : ∀ x ∈ xs, P x) : ∀ x ∈ cutL xs l h, P x := mem_take (mem_drop hx)
theorem cutL_len {α : Type} {xs : List α} {l h : Option Int} : (cutL xs l h).length ≤ xs.length := by
  unfold cutL
  rw [List.length_take, List.length_drop]
  omega
def isStrB (t : Str) : Option PyData → Bool
  | some (.str s) => s == t
  | _ => false
theorem isStrB_eq {t : Str} {o : Option PyData} (h : isStrB t o = true) : o = some (.str t) := by
  match o, h with
  | some (.str s), h => rw [show s = t from eq_of_beq h]
end L2.DL

set_option maxHeartbeats 4000000
/-! The plain laws, sixteenth part: _law_same, _law_neighbour of numbers, while, try. -/
namespace L2.DL
open PySem PyProof.Rows
open Lean in
local macro_rules
  | `(tactic| simp_arith) => `(tactic| simp_arith [])
  | `(tactic| simp_arith [$ls,*]) => `(tactic| simp only [List.cons_append, List.nil_append, Nat.reduceSub, List.replicate, oks_cons, oks_nil, oks_fin, oks_lift, evS, evT, evE, evO, evEs, evAs, ok_bind, ok_pure, ok_some, getRef, getVal, getOwn, List.getElem?_cons_zero, List.getElem?_cons_succ, List.set_cons_zero, List.set_cons_succ, ok_cell0,
    thenQ_next, thenQ_ret, endQ_ret, endQ_next, idxl0, idxl1, idxl2, idxl3, put1, put2, put3, biD, binD, cmpD, len_list, len_tuple, add_int, sub_int, aadd_int, asub_int, int_int, int_bool, tru_bool, tru_int, tru_none, tru_list, tru_tuple, eqD_int, neD_int, ltD_int, leD_int, gtD_int, geD_int, pow18, if_true, if_false, Bool.false_eq_true, Bool.not_false, Bool.not_true, ↓reduceIte, $ls,*])
open Lean in
local macro_rules
  | `(tactic| simp_arith!) => `(tactic| simp_arith! [])
  | `(tactic| simp_arith! [$ls,*]) => `(tactic| simp_arith [isiD, isiT, List.any_cons, List.any_nil, Bool.or_false, Bool.false_or, Bool.true_or, Bool.or_true, List.forall_mem_cons, List.not_mem_nil, false_implies, implies_true, true_and, and_true, and_assoc, isnD, nonD, isNoneD, pl_none, pl_bool, pl_int, orv_int, ok_str_int, ok_add_tuple, ok_add_list, ok_add_str, ok_sli_str, ok_rev_str, ok_len_str, rev_tuple, rev_list, sli_tuple, sli_list, list_list, list_tuple, tup_list, tup_tuple, len_tuple, len_list, cut_to, cut_from, cut_from1, cut_one, cut_1mid, cut_lit1, cut_litf1, $ls,*])
open Lean in
local macro_rules | `(tactic| and_intros) => `(tactic| first | assumption | (exact fun x hx => absurd hx List.not_mem_nil) | (apply mem_take; and_intros) | (apply mem_drop; and_intros) | (apply mem_rev; and_intros) | (apply mem_app <;> and_intros) | (apply mem_one; first | assumption | exact pl_int.mpr (Nat.two_pow_pos _)))
open Lean in
local macro_rules | `(tactic| bv_omega) => `(tactic| (first | omega | (simp only [List.length_append, List.length_take, List.length_drop, List.length_reverse, List.length_cons, List.length_nil] at *; omega)))
open Lean in
local macro_rules
  | `(tactic| simp_all_arith) => `(tactic| simp_all_arith [])
  | `(tactic| simp_all_arith [$ls,*]) => `(tactic| simp_arith! [evG, evIt, evC, iterOf, bindTg, setAll, wipeE, ok_calm, okList, evEs, idxt, List.length_map, List.length_cons, List.length_nil, $ls,*])
/-- what a law tells itself: numbers, texts, rows of them -/
def Strict : Nat → PyData → Prop
  | _, .int _ => True
  | _, .str s => PyData.strOk s = true
  | k + 1, .tuple xs => xs.length ≤ 100000 ∧ ∀ x ∈ xs, Strict k x
  | _, _ => False
/-- the same, of the same sort -/
def sameD : Nat → PyData → PyData → Bool
  | _, .int i, .int j => decide (i = j)
  | _, .str s, .str t => s == t
  | k + 1, .tuple xs, .tuple ys => decide (xs.length = ys.length) && (List.range ys.length).all fun i => sameD k (xs.getD i .none) (ys.getD i .none)
  | _, _, _ => false
theorem strict_int {k : Nat} {i : Int} : Strict k (.int i) := by cases k <;> exact True.intro
theorem strict_str {k : Nat} {s : Str} : Strict k (.str s) ↔ PyData.strOk s = true := by cases k <;> exact Iff.rfl
theorem strict_tuple {k : Nat} {xs : List PyData} : Strict (k + 1) (.tuple xs) ↔ xs.length ≤ 100000 ∧ ∀ x ∈ xs, Strict k x := Iff.rfl
theorem same_int {k : Nat} {i j : Int} : sameD k (.int i) (.int j) = decide (i = j) := by cases k <;> rfl
theorem same_str {k : Nat} {s t : Str} : sameD k (.str s) (.str t) = (s == t) := by cases k <;> rfl
theorem same_tuple {k : Nat} {xs ys : List PyData} : sameD (k + 1) (.tuple xs) (.tuple ys) = (decide (xs.length = ys.length) && (List.range ys.length).all fun i => sameD k (xs.getD i .none) (ys.getD i .none)) := rfl
theorem same_iff : ∀ (k : Nat) (d e : PyData), Strict k e → (sameD k d e = true ↔ d = e)
  | k, d, .int j, h => by
    cases d with
    | int i => rw [same_int, decide_eq_true_iff]; exact ⟨fun h => by rw [h], fun h => by cases h; rfl⟩
    | _ => cases k <;> exact ⟨fun h => absurd h Bool.false_ne_true, fun h => by cases h⟩
  | k, d, .str t, h => by
    cases d with
    | str s => rw [same_str, beq_iff_eq]; exact ⟨fun h => by rw [h], fun h => by cases h; rfl⟩
    | _ => cases k <;> exact ⟨fun h => absurd h Bool.false_ne_true, fun h => by cases h⟩
  | 0, d, .tuple ys, h => h.elim
  | k + 1, d, .tuple ys, h => by
    cases d with
    | tuple xs =>
      rw [same_tuple, Bool.and_eq_true, decide_eq_true_iff, List.all_eq_true]
      constructor
      · rintro ⟨h1, h2⟩
        congr 1
        apply List.ext_getElem h1
        intro i hi hj
        have h3 := h2 i (List.mem_range.mpr hj)
        rw [List.getD_eq_getElem?_getD, List.getD_eq_getElem?_getD, List.getElem?_eq_getElem hi, List.getElem?_eq_getElem hj] at h3
        exact (same_iff k _ _ ((strict_tuple.mp h).2 _ (List.getElem_mem hj))).mp h3
      · intro e
        cases e
        refine ⟨rfl, fun i hi => ?_⟩
        have hj := List.mem_range.mp hi
        rw [List.getD_eq_getElem?_getD, List.getElem?_eq_getElem hj]
        exact (same_iff k _ _ ((strict_tuple.mp h).2 _ (List.getElem_mem hj))).mpr rfl
    | _ => exact ⟨fun h => absurd h Bool.false_ne_true, fun h => by cases h⟩
  | 0, d, .none, h => h.elim
  | k + 1, d, .none, h => h.elim
  | 0, d, .bool _, h => h.elim
  | k + 1, d, .bool _, h => h.elim
  | 0, d, .list _, h => h.elim
  | k + 1, d, .list _, h => h.elim
  | 0, d, .dict _, h => h.elim
  | k + 1, d, .dict _, h => h.elim
theorem oks_forT {Φ : Call} {s : Ss} {body : PyData → Env → Store → SRes} {Q : Flow → Env → Store → Prop} {xs : List PyData} {ρ : Env} {S : Store} (I : List PyData → Env → Store → Prop) (h0 : I xs ρ S)
    (h : ∀ x r ρ S, I (x :: r) ρ S → Ends (body x ρ S) (loopQ (I r) (I []) Q)) (h1 : ∀ ρ S, I [] ρ S → Ends (evSs Φ s ρ S) Q) : Ends (forS body xs ρ S) (thenQ Φ s Q) := by
  refine (oks_for I h xs ρ S h0).mono ?_
  intro f ρ' S' q
  cases f with
  | next => exact h1 ρ' S' q
  | brk => exact q
  | cont => exact q
  | ret d => exact q
theorem idx_at {xs : List PyData} {i : Nat} (h : i < xs.length) : idxD (.list xs) (.int i) = some (xs.getD i .none) :=
  idxl (by rw [List.getD_eq_getElem?_getD, List.getElem?_eq_getElem h]; rfl)
section
variable {tab : Tab} {b : Nat}
theorem law_same_ok (h : tab "_law_same" = some fd_law_same) (hb : b ≤ 1000000) : ∀ (k : Nat) (e d : PyData) (m kd : Nat) (S : Store), k + 1 ≤ m → Strict k e → kd ≤ 64 → Asked b kd d → callF tab m "_law_same" [.val d, .val e] S = .ok (.bool (sameD k d e)) S := by
  intro k
  induction k with
  | zero =>
    intro e d m kd S hm he hk hd
    obtain ⟨n, rfl⟩ : ∃ n, m = n + 1 := ⟨m - 1, by omega⟩
    refine pure_ok ?_
    rw [ok_call h rfl]
    cases e with
    | int j =>
      cases d with
      | int i => simp_all_arith [fd_law_same, same_int]
      | _ => simp_all_arith [fd_law_same]; rfl
    | str t =>
      cases d with
      | str s =>
        have ps : PyData.strOk s = true := by
          rcases hd with hd | hd
          · exact (pl_str.mp hd).1
          · cases hd
        simp_all_arith [fd_law_same, eq_str ps he, same_str]
      | _ => simp_all_arith [fd_law_same]; rfl
    | _ => exact he.elim
  | succ k ih =>
    intro e d m kd S hm he hk hd
    obtain ⟨n, rfl⟩ : ∃ n, m = n + 1 := ⟨m - 1, by omega⟩
    refine pure_ok ?_
    rw [ok_call h rfl]
    cases e with
    | int j =>
      cases d with
      | int i => simp_all_arith [fd_law_same, same_int]
      | _ => simp_all_arith [fd_law_same]; rfl
    | str t =>
      cases d with
      | str s =>
        have ps : PyData.strOk s = true := by
          rcases hd with hd | hd
          · exact (pl_str.mp hd).1
          · cases hd
        simp_all_arith [fd_law_same, eq_str ps he, same_str]
      | _ => simp_all_arith [fd_law_same]; rfl
    | tuple ys =>
      cases d with
      | tuple xs =>
        have hd1 := hd.pl
        cases kd with
        | zero => exact (pl_tuple0 hd1).elim
        | succ kd =>
        have hx := (pl_tuple.mp hd1).2
        have hy := (strict_tuple.mp he).2
        have hyl := (strict_tuple.mp he).1
        rw [same_tuple]
        by_cases hl : xs.length = ys.length
        · have d1 : decide ((xs.length : Int) = (ys.length : Int)) = true := decide_eq_true (by omega)
          have d2 : decide (xs.length = ys.length) = true := decide_eq_true hl
          simp_all_arith [fd_law_same, d1, d2, Bool.true_and, range_lt ys.length (by omega)]
          refine oks_forT (fun rest ρ' S' => S' = S ∧ ∃ (j : Nat) (w : Slot), rest = ((List.range ys.length).drop j).map (fun k => PyData.int (k : Nat)) ∧ ρ' = [.val (.tuple xs), .val (.tuple ys), w] ∧ ∀ i < j, sameD k (xs.getD i .none) (ys.getD i .none) = true) ?_ ?_ ?_
          · exact ⟨rfl, 0, _, rfl, rfl, fun i hi => absurd hi (Nat.not_lt_zero _)⟩
          · rintro x r ρ S ⟨rfl, j, w, hr, rfl, hj⟩
            by_cases hjl : j < ys.length
            · rw [List.drop_eq_getElem_cons (by rw [List.length_range]; exact hjl), List.map_cons, List.getElem_range] at hr
              cases hr
              have hxj : xs.getD j .none ∈ xs := by
                rw [List.getD_eq_getElem?_getD, List.getElem?_eq_getElem (by omega)]
                exact List.getElem_mem _
              have hyj : ys.getD j .none ∈ ys := by
                rw [List.getD_eq_getElem?_getD, List.getElem?_eq_getElem hjl]
                exact List.getElem_mem _
              have hc := ih (ys.getD j .none) (xs.getD j .none) n kd S (by omega) (hy _ hyj) (by omega) (.inl (hx _ hxj))
              cases es : sameD k (xs.getD j .none) (ys.getD j .none) with
              | true =>
                rw [es] at hc
                simp_all_arith [idx_at hjl, idx_at (show j < xs.length by omega), ok_of hc, loopQ_next]
                refine ⟨j + 1, _, rfl, rfl, fun i hi => ?_⟩
                by_cases hij : i = j
                · rw [hij]; exact es
                · exact hj i (by omega)
              | false =>
                rw [es] at hc
                simp_all_arith [idx_at hjl, idx_at (show j < xs.length by omega), ok_of hc]
                rw [loopQ_ret, endQ_ret]
                refine ⟨?_, rfl⟩
                congr 1
                symm
                rw [Bool.eq_false_iff]
                intro z
                have := List.all_eq_true.mp z j (List.mem_range.mpr hjl)
                rw [es] at this
                cases this
            · rw [List.drop_of_length_le (by rw [List.length_range]; omega)] at hr
              cases hr
          · rintro ρ S ⟨rfl, j, w, hr, rfl, hj⟩
            have hjl : ys.length ≤ j := by
              by_cases z : ys.length ≤ j
              · exact z
              · rw [List.drop_eq_getElem_cons (by rw [List.length_range]; omega), List.map_cons] at hr
                cases hr
            simp_all_arith
            congr 1
            symm
            rw [List.all_eq_true]
            intro i hi
            exact hj i (by have := List.mem_range.mp hi; omega)
        · have d1 : decide ((xs.length : Int) = (ys.length : Int)) = false := decide_eq_false (by omega)
          have d2 : decide (xs.length = ys.length) = false := decide_eq_false hl
          simp_all_arith [fd_law_same, d1, d2, Bool.false_and]
      | _ => simp_all_arith [fd_law_same]; rfl
    | _ => exact he.elim
end
end L2.DL

set_option maxHeartbeats 4000000
/-! The plain laws, seventeenth part: _law_neighbour of numbers, while, try, plain data by a test. -/
namespace L2.DL
open PySem PyProof.Rows
open Lean in
local macro_rules
  | `(tactic| simp_arith) => `(tactic| simp_arith [])
  | `(tactic| simp_arith [$ls,*]) => `(tactic| simp only [List.cons_append, List.nil_append, Nat.reduceSub, List.replicate, oks_cons, oks_nil, oks_fin, oks_lift, evS, evT, evE, evO, evEs, evAs, ok_bind, ok_pure, ok_some, getRef, getVal, getOwn, List.getElem?_cons_zero, List.getElem?_cons_succ, List.set_cons_zero, List.set_cons_succ, ok_cell0,
    thenQ_next, thenQ_ret, endQ_ret, endQ_next, idxl0, idxl1, idxl2, idxl3, put1, put2, put3, biD, binD, cmpD, len_list, len_tuple, add_int, sub_int, aadd_int, asub_int, int_int, int_bool, tru_bool, tru_int, tru_none, tru_list, tru_tuple, eqD_int, neD_int, ltD_int, leD_int, gtD_int, geD_int, pow18, if_true, if_false, Bool.false_eq_true, Bool.not_false, Bool.not_true, ↓reduceIte, $ls,*])
open Lean in
local macro_rules
  | `(tactic| simp_arith!) => `(tactic| simp_arith! [])
  | `(tactic| simp_arith! [$ls,*]) => `(tactic| simp_arith [isiD, isiT, List.any_cons, List.any_nil, Bool.or_false, Bool.false_or, Bool.true_or, Bool.or_true, List.forall_mem_cons, List.not_mem_nil, false_implies, implies_true, true_and, and_true, and_assoc, isnD, nonD, isNoneD, pl_none, pl_bool, pl_int, orv_int, ok_str_int, ok_add_tuple, ok_add_list, ok_add_str, ok_sli_str, ok_rev_str, ok_len_str, rev_tuple, rev_list, sli_tuple, sli_list, list_list, list_tuple, tup_list, tup_tuple, len_tuple, len_list, cut_to, cut_from, cut_from1, cut_one, cut_1mid, cut_lit1, cut_litf1, $ls,*])
open Lean in
local macro_rules | `(tactic| and_intros) => `(tactic| first | assumption | (exact fun x hx => absurd hx List.not_mem_nil) | (apply mem_take; and_intros) | (apply mem_drop; and_intros) | (apply mem_rev; and_intros) | (apply mem_app <;> and_intros) | (apply mem_one; first | assumption | exact pl_int.mpr (Nat.two_pow_pos _)))
open Lean in
local macro_rules | `(tactic| bv_omega) => `(tactic| (first | omega | (simp only [List.length_append, List.length_take, List.length_drop, List.length_reverse, List.length_cons, List.length_nil] at *; omega)))
open Lean in
local macro_rules
  | `(tactic| simp_all_arith) => `(tactic| simp_all_arith [])
  | `(tactic| simp_all_arith [$ls,*]) => `(tactic| simp_arith! [evG, evIt, evC, iterOf, bindTg, setAll, wipeE, ok_calm, okList, evEs, idxt, List.length_map, List.length_cons, List.length_nil, $ls,*])
/-- Pl, as a test -/
def isPl (b : Nat) : Nat → PyData → Bool
  | _, .none => true
  | _, .bool _ => true
  | _, .int i => decide (i.natAbs < 2 ^ b)
  | _, .str s => PyData.strOk s && decide (s.length ≤ b)
  | k + 1, .tuple xs => decide (xs.length ≤ b) && xs.all fun x => isPl b k x
  | k + 1, .list xs => decide (xs.length ≤ b) && xs.all fun x => isPl b k x
  | _, _ => false
theorem isPl_pl {b : Nat} : ∀ {k : Nat} {d : PyData}, isPl b k d = true → Pl b k d
  | k, .none, _ => pl_none
  | k, .bool _, _ => pl_bool
  | 0, .int i, h => pl_int.mpr (of_decide_eq_true (p := i.natAbs < 2 ^ b) h)
  | k + 1, .int i, h => pl_int.mpr (of_decide_eq_true (p := i.natAbs < 2 ^ b) h)
  | 0, .str s, h => by
    have h1 : (PyData.strOk s && decide (s.length ≤ b)) = true := h
    rw [Bool.and_eq_true, decide_eq_true_iff] at h1
    exact h1
  | k + 1, .str s, h => by
    have h1 : (PyData.strOk s && decide (s.length ≤ b)) = true := h
    rw [Bool.and_eq_true, decide_eq_true_iff] at h1
    exact h1
  | k + 1, .tuple xs, h => by
    have h1 : (decide (xs.length ≤ b) && xs.all fun x => isPl b k x) = true := h
    rw [Bool.and_eq_true, decide_eq_true_iff, List.all_eq_true] at h1
    exact pl_tuple.mpr ⟨h1.1, fun x hx => isPl_pl (h1.2 x hx)⟩
  | k + 1, .list xs, h => by
    have h1 : (decide (xs.length ≤ b) && xs.all fun x => isPl b k x) = true := h
    rw [Bool.and_eq_true, decide_eq_true_iff, List.all_eq_true] at h1
    exact pl_list.mpr ⟨h1.1, fun x hx => isPl_pl (h1.2 x hx)⟩
  | 0, .tuple xs, h => absurd h Bool.false_ne_true
  | 0, .list xs, h => absurd h Bool.false_ne_true
  | 0, .dict xs, h => absurd h Bool.false_ne_true
  | k + 1, .dict xs, h => absurd h Bool.false_ne_true
/-- a def's end that is good: plain data, or one of the two exceptions -/
def goodR (b k : Nat) : Res PyData → Bool
  | .ok d _ => isPl b k d
  | .exc c _ => decide (c < 2)
  | .stuck => false
section
variable {Φ : Call} {ρ : Env} {S : Store} {Q : Flow → Env → Store → Prop}
theorem oks_try2 {e : E} {i j : Nat} (h : (∃ d S', evE Φ e ρ S = .ok d S' ∧ Q (.ret d) ρ S') ∨ ∃ c S', c < 2 ∧ evE Φ e ρ S = .exc c S' ∧ Q (.ret (.tuple [])) ρ S') :
    Ends (evS Φ (.tryy (.cons (.ret e) .nil) (.cons 0 i .unit (.cons 1 j .unit .nil))) ρ S) Q := by
  rcases h with ⟨d, S', e1, q⟩ | ⟨c, S', hc, e1, q⟩
  · exact ⟨.ret d, ρ, S', by simp only [evS, evSs, liftE, e1], q⟩
  · refine ⟨.ret (.tuple []), ρ, S', ?_, q⟩
    rcases (show c = 0 ∨ c = 1 by omega) with rfl | rfl <;> simp only [evS, evSs, liftE, e1, handle] <;> rfl
/-- a while, by a measure -/
theorem oks_while {test : Env → Mn Bool} {body : Env → Store → SRes} (I : Nat → Env → Store → Prop) (J : Env → Store → Prop)
    (h : ∀ m ρ S, I m ρ S → Ok (test ρ) S (fun b S' => if b = true then Ends (body ρ S') (loopQ (fun ρ' S'' => ∃ m', m' < m ∧ I m' ρ' S'') J Q) else J ρ S')) : ∀ (n m : Nat) (ρ : Env) (S : Store), m < n → I m ρ S → Ends (whileS test body n ρ S) (stepQ J Q)
  | 0, m, ρ, S, hn, _ => absurd hn (Nat.not_lt_zero _)
  | n + 1, m, ρ, S, hn, hi => by
    rw [whileS, oks_lift]
    refine (h m ρ S hi).mono ?_
    intro b S' q
    cases b with
    | false =>
      rw [if_neg Bool.false_ne_true] at q ⊢
      exact oks_fin.mpr q
    | true =>
      rw [if_pos rfl] at q ⊢
      obtain ⟨f, ρ', S'', e, q⟩ := q
      rw [e]
      cases f with
      | next =>
        obtain ⟨m', hm, hi'⟩ := q
        exact oks_while I J h n m' ρ' S'' (by omega) hi'
      | cont =>
        obtain ⟨m', hm, hi'⟩ := q
        exact oks_while I J h n m' ρ' S'' (by omega) hi'
      | brk => exact oks_fin.mpr q
      | ret d => exact oks_fin.mpr q
end
def intT (ns : List Int) : PyData := .tuple (ns.map PyData.int)
/-- what stands near to a row of numbers -/
def nearOf (ns : List Int) : List (List Int) := ns :: (List.range ns.length).flatMap fun k => [ns.take k ++ [ns.getD k 0 + 1] ++ ns.drop (k + 1), ns.take k ++ [ns.getD k 0 - 1] ++ ns.drop (k + 1), ns.take k ++ ns.drop (k + 1)]
theorem idx_intn {ns : List Int} {r : Nat} (h : r < ns.length) : idxD (.list (ns.map PyData.int)) (.int r) = some (.int (ns.getD r 0)) :=
  idxl (by rw [List.getElem?_map, List.getD_eq_getElem?_getD, List.getElem?_eq_getElem h]; rfl)
theorem sh_intT (ns : List Int) : SeqAt.shaped (.tuple (ns.map PyData.int)) = true := by
  unfold SeqAt.shaped
  rw [PyData.canLay0, PyData.depth, canLayAll0_mem _ fun x hx => ?_]
  · have h := depthAll_mem 0 (ns.map PyData.int) fun x hx => by
      obtain ⟨i, _, rfl⟩ := List.mem_map.mp hx
      exact Nat.le_refl _
    rw [decide_eq_true (show _ ≤ 64 by omega)]
    rfl
  · obtain ⟨i, _, rfl⟩ := List.mem_map.mp hx
    rfl
section
variable {tab : Tab} {b k n : Nat} {S : Store}
theorem law_neighbour_ints (hN : tab "_law_next" = some fd_law_next) (h : tab "_law_neighbour" = some fd_law_neighbour) {ns : List Int} (hl : ns.length ≤ 1000) (hs : StOk S) :
    Ok (callF tab (n + 2) "_law_neighbour" [.ref 0, .val (intT ns)]) S (fun r S' => (∃ ms ∈ nearOf ns, r = intT ms) ∧ StOk S') := by
  rw [ok_call h rfl]
  have hZ := sizeLine_eq
  have es := eqD_sh (sh_intT ns) sh_nil
  unfold intT
  rw [eqv_nil] at es
  show Ends (evSs _ (.cons _ _) _ _) _
  refine oks_step (fun ρ' S' => ∃ w : Int, (w = 1 ∨ w = -1) ∧ ρ' = [.ref 0, .val (.tuple (ns.map PyData.int)), .val (.int w), .no, .no] ∧ StOk S') ?_ ?_
  · simp_all_arith [fd_law_neighbour, stepQ_next]
    refine (law_next_ok hN (L := 2) (by decide) (by decide) hs).mono ?_
    rintro _ S ⟨r, hr, rfl, hs⟩
    refine ok_pick hr (List.forall_mem_cons.mpr ⟨?_, mem_one ?_⟩)
    · exact ⟨1, .inl rfl, rfl, hs⟩
    · exact ⟨-1, .inr rfl, rfl, hs⟩
  rintro _ S ⟨w, hw, rfl, hs⟩
  cases e : (ns.map PyData.int).isEmpty with
  | true =>
    rw [e] at es
    simp_all_arith [fd_law_neighbour, es]
    exact ⟨⟨ns, List.mem_cons_self, rfl⟩, hs⟩
  | false =>
    rw [e] at es
    have h0 : 0 < ns.length := by
      cases ns with
      | nil => cases e
      | cons x r => exact Nat.succ_pos _
    show Ends (evSs _ (.cons _ _) _ _) _
    refine oks_step (fun ρ' S' => ρ' = [.ref 0, .val (.tuple (ns.map PyData.int)), .val (.int w), .no, .no] ∧ StOk S') (by simp_all_arith [fd_law_neighbour, es, stepQ_next]; exact hs) ?_
    rintro _ S ⟨rfl, hs⟩
    show Ends (evSs _ (.cons _ _) _ _) _
    refine oks_step (fun ρ' S' => ρ' = [.ref 0, .val (.tuple (ns.map PyData.int)), .val (.int w), .no, .no] ∧ StOk S') (by simp_all_arith [fd_law_neighbour, es, stepQ_next]; exact hs) ?_
    rintro _ S ⟨rfl, hs⟩
    show Ends (evSs _ (.cons _ _) _ _) _
    refine oks_step (fun ρ' S' => ρ' = [.ref 0, .val (.tuple (ns.map PyData.int)), .val (.int w), .no, .no] ∧ StOk S') ?_ ?_
    · by_cases h2 : (ns.length : Int) = 2
      · have d2 := decide_eq_true h2
        simp_all_arith [fd_law_neighbour, d2, stepQ_next, show (0 : Int) = ((0 : Nat) : Int) from rfl, idx_intn h0]
        exact hs
      · have d2 := decide_eq_false h2
        simp_all_arith [fd_law_neighbour, d2, stepQ_next]
        exact hs
    rintro _ S ⟨rfl, hs⟩
    show Ends (evSs _ (.cons _ _) _ _) _
    refine oks_step (fun ρ' S' => ∃ r : Nat, r < ns.length ∧ ρ' = [.ref 0, .val (.tuple (ns.map PyData.int)), .val (.int w), .val (.int r), .no] ∧ StOk S') ?_ ?_
    · simp_all_arith [fd_law_neighbour, stepQ_next]
      refine (law_next_ok hN h0 (by omega) hs).mono ?_
      rintro _ S ⟨r, hr, rfl, hs⟩
      exact ⟨r, hr, rfl, hs⟩
    rintro _ S ⟨r, hr, rfl, hs⟩
    have mem : ∀ ms, ms ∈ [ns.take r ++ [ns.getD r 0 + 1] ++ ns.drop (r + 1), ns.take r ++ [ns.getD r 0 - 1] ++ ns.drop (r + 1), ns.take r ++ ns.drop (r + 1)] → ms ∈ nearOf ns := fun ms hm =>
      List.mem_cons_of_mem _ (List.mem_flatMap.mpr ⟨r, List.mem_range.mpr hr, hm⟩)
    simp_all_arith [fd_law_neighbour, idx_intn hr]
    refine (law_next_ok hN (L := 3) (by decide) (by decide) hs).mono ?_
    rintro _ S ⟨q, hq, rfl, hs⟩
    have m1 : ∀ x : Int, ns.map PyData.int = ns.map PyData.int := fun _ => rfl
    by_cases hq0 : 0 < (q : Int)
    · have d0 := decide_eq_true hq0
      simp_all_arith [d0, idx_intn hr]
      refine ⟨by simp only [List.length_take, List.length_map]; omega, by simp only [List.length_append, List.length_take, List.length_drop, List.length_map, List.length_cons, List.length_nil]; omega, ?_⟩
      rcases hw with rfl | rfl
      · exact ⟨⟨_, mem _ List.mem_cons_self, by rw [List.map_append, List.map_append, List.map_take, List.map_drop]; rfl⟩, hs⟩
      · exact ⟨⟨_, mem _ (List.mem_cons_of_mem _ List.mem_cons_self), by rw [List.map_append, List.map_append, List.map_take, List.map_drop]; rfl⟩, hs⟩
    · have d0 := decide_eq_false hq0
      simp_all_arith [d0]
      refine ⟨by simp only [List.length_take, List.length_drop, List.length_map]; omega, ?_⟩
      exact ⟨⟨_, mem _ (List.mem_cons_of_mem _ (List.mem_cons_of_mem _ List.mem_cons_self)), by rw [List.map_append, List.map_take, List.map_drop]⟩, hs⟩
end
end L2.DL

set_option maxHeartbeats 4000000
/-! law_k92: the defs. -/
namespace L2.DL
open PySem PyProof.Rows
open Lean in
local macro_rules
  | `(tactic| simp_arith) => `(tactic| simp_arith [])
  | `(tactic| simp_arith [$ls,*]) => `(tactic| simp only [List.cons_append, List.nil_append, Nat.reduceSub, List.replicate, oks_cons, oks_nil, oks_fin, oks_lift, evS, evT, evE, evO, evEs, evAs, ok_bind, ok_pure, ok_some, getRef, getVal, getOwn, List.getElem?_cons_zero, List.getElem?_cons_succ, List.set_cons_zero, List.set_cons_succ, ok_cell0,
    thenQ_next, thenQ_ret, endQ_ret, endQ_next, idxl0, idxl1, idxl2, idxl3, put1, put2, put3, biD, binD, cmpD, len_list, len_tuple, add_int, sub_int, aadd_int, asub_int, int_int, int_bool, tru_bool, tru_int, tru_none, tru_list, tru_tuple, eqD_int, neD_int, ltD_int, leD_int, gtD_int, geD_int, pow18, if_true, if_false, Bool.false_eq_true, Bool.not_false, Bool.not_true, ↓reduceIte, $ls,*])
open Lean in
local macro_rules
  | `(tactic| simp_arith!) => `(tactic| simp_arith! [])
  | `(tactic| simp_arith! [$ls,*]) => `(tactic| simp_arith [isiD, isiT, List.any_cons, List.any_nil, Bool.or_false, Bool.false_or, Bool.true_or, Bool.or_true, List.forall_mem_cons, List.not_mem_nil, false_implies, implies_true, true_and, and_true, and_assoc, isnD, nonD, isNoneD, pl_none, pl_bool, pl_int, orv_int, ok_str_int, ok_add_tuple, ok_add_list, ok_add_str, ok_sli_str, ok_rev_str, ok_len_str, rev_tuple, rev_list, sli_tuple, sli_list, list_list, list_tuple, tup_list, tup_tuple, len_tuple, len_list, cut_to, cut_from, cut_from1, cut_one, cut_1mid, cut_lit1, cut_litf1, $ls,*])
open Lean in
local macro_rules | `(tactic| and_intros) => `(tactic| first | assumption | (exact fun x hx => absurd hx List.not_mem_nil) | (apply mem_take; and_intros) | (apply mem_drop; and_intros) | (apply mem_rev; and_intros) | (apply mem_app <;> and_intros) | (apply mem_one; first | assumption | exact pl_int.mpr (Nat.two_pow_pos _)))
open Lean in
local macro_rules | `(tactic| bv_omega) => `(tactic| (first | omega | (simp only [List.length_append, List.length_take, List.length_drop, List.length_reverse, List.length_cons, List.length_nil] at *; omega)))
open Lean in
local macro_rules
  | `(tactic| simp_all_arith) => `(tactic| simp_all_arith [])
  | `(tactic| simp_all_arith [$ls,*]) => `(tactic| simp_arith! [evG, evIt, evC, iterOf, bindTg, setAll, wipeE, ok_calm, okList, evEs, idxt, List.length_map, List.length_cons, List.length_nil, $ls,*])
/-- are_wholes: value, count, part -/
def fd_are_wholes : FDef := { np := 2, ns := 3, body := (.cons (.ret (.and (.isi (.var 0) [.tuple]) (.and (.cmp .eq (.bi .len (.var 0)) (.var 1)) (.cmp .notin (.cst (.bool false)) (.lc [2] (.call "is_whole" (.cons (.var 2) .nil)) (.one [2] (.seq (.var 0)) .no)))))) .nil) }
/-- check_falling: row, number, one, other -/
def fd_check_falling : FDef := { np := 1, ns := 4, body := (.cons (.ite (.or (.of (.cmp .isin (.cst (.bool true)) (.lc [1] (.cmp .lt (.var 1) (.cst (.int 1))) (.one [1] (.seq (.var 0)) .no)))) (.of (.cmp .isin (.cst (.bool true)) (.lc [2, 3] (.cmp .lt (.var 2) (.var 3)) (.one [2, 3] (.zip (.var 0) (.sli (.var 0) (.one (.cst (.int 1))) .no)) .no))))) (.cons (.raise 0) .nil) .nil) (.cons (.ite (.or (.of (.cmp .gt (.bi .len (.var 0)) (.cst (.int 12)))) (.of (.cmp .gt (.bi .sum (.var 0)) (.cst (.int 60))))) (.cons (.raise 1) .nil) .nil) .nil)) }
/-- cells: row, turned, hooks, ways, number, line, high, hook, place -/
def fd_cells : FDef := { np := 1, ns := 9, body := (.cons (.ex (.call "check_falling" (.cons (.var 0) .nil))) (.cons (.set 1 (.lc [8] (.bi .len (.lc [4] (.cst (.int 1)) (.one [4] (.seq (.var 0)) (.one (.of (.cmp .gt (.var 4) (.var 8))))))) (.one [8] (.range1 (.bi .maxl (.bin .add (.var 0) (.tup (.cons (.cst (.int 0)) .nil))))) .no))) (.cons (.setOwn 2 (.lst .nil)) (.cons (.forr [6, 4] (.enum (.var 0)) (.cons (.push 2 (.bi .tuple (.lc [8] (.bin .sub (.bin .sub (.bin .add (.bin .sub (.var 4) (.var 8)) (.idx (.var 1) (.var 8))) (.var 6)) (.cst (.int 1))) (.one [8] (.range1 (.var 4)) .no)))) .nil)) (.cons (.set 3 (.cst (.int 1))) (.cons (.forr [4] (.range2 (.cst (.int 1)) (.bin .add (.bi .sum (.var 0)) (.cst (.int 1)))) (.cons (.set 3 (.bin .mul (.var 3) (.var 4))) .nil)) (.cons (.frz 2) (.cons (.forr [5] (.seq (.var 2)) (.cons (.forr [7] (.seq (.var 5)) (.cons (.set 3 (.bin .fdiv (.var 3) (.var 7))) .nil)) .nil)) (.cons (.ret (.tup (.cons (.cst (.str "cells")) (.cons (.var 3) (.cons (.bi .tuple (.own 2)) .nil))))) .nil))))))))) }
/-- judge_cells: row, told, due, line -/
def fd_judge_cells : FDef := { np := 2, ns := 4, body := (.cons (.set 2 (.call "cells" (.cons (.var 0) .nil))) (.cons (.ite (.or (.not (.of (.call "is_told" (.cons (.var 1) (.cons (.cst (.str "cells")) (.cons (.cst (.int 3)) .nil)))))) (.or (.not (.of (.call "is_whole" (.cons (.idx (.var 1) (.cst (.int 1))) .nil)))) (.not (.of (.isi (.idx (.var 1) (.cst (.int 2))) [.tuple]))))) (.cons (.ret (.cst (.bool false))) .nil) .nil) (.cons (.ret (.and (.cmp .notin (.cst (.bool false)) (.lc [3] (.call "are_wholes" (.cons (.var 3) (.cons (.bi .len (.var 3)) .nil))) (.one [3] (.seq (.idx (.var 1) (.cst (.int 2)))) (.one (.of (.isi (.var 3) [.tuple])))))) (.cmp .eq (.var 1) (.var 2)))) .nil))) }
/-- _law_falling: state, total, found, left, number -/
def fd_law_falling : FDef := { np := 2, ns := 5, body := (.cons (.setOwn 2 (.lst .nil)) (.cons (.set 3 (.var 1)) (.cons (.whil (.of (.cmp .gt (.var 3) (.cst (.int 0)))) (.cons (.set 4 (.bin .add (.cst (.int 1)) (.call "_law_next" (.cons (.rf 0) (.cons (.var 3) .nil))))) (.cons (.push 2 (.var 4)) (.cons (.set 3 (.bin .sub (.var 3) (.var 4))) .nil)))) (.cons (.ret (.bi .tuple (.rev (.bi .sorted (.own 2))))) .nil)))) }
/-- _law_ways: row, found, k -/
def fd_law_ways : FDef := { np := 1, ns := 3, body := (.cons (.ite (.of (.cmp .eq (.bi .sum (.var 0)) (.cst (.int 0)))) (.cons (.ret (.cst (.int 1))) .nil) .nil) (.cons (.set 1 (.cst (.int 0))) (.cons (.forr [2] (.range1 (.bi .len (.var 0))) (.cons (.ite (.of (.cmp .gt (.idx (.var 0) (.var 2)) (.idx (.bin .add (.var 0) (.tup (.cons (.cst (.int 0)) .nil))) (.bin .add (.var 2) (.cst (.int 1)))))) (.cons (.set 1 (.bin .add (.var 1) (.call "_law_ways" (.cons (.bin .add (.bin .add (.sli (.var 0) .no (.one (.var 2))) (.tup (.cons (.bin .sub (.idx (.var 0) (.var 2)) (.cst (.int 1))) .nil))) (.sli (.var 0) (.one (.bin .add (.var 2) (.cst (.int 1)))) .no)) .nil)))) .nil) .nil) .nil)) (.cons (.ret (.var 1)) .nil)))) }
/-- _law_accepts: row, told, hooks, k, j, i -/
def fd_law_accepts : FDef := { np := 2, ns := 6, body := (.cons (.setOwn 2 (.lst .nil)) (.cons (.forr [3] (.range1 (.bi .len (.var 0))) (.cons (.push 2 (.bi .tuple (.lc [4] (.bin .add (.bin .sub (.idx (.var 0) (.var 3)) (.var 4)) (.bi .len (.lc [5] (.var 5) (.one [5] (.range2 (.bin .add (.var 3) (.cst (.int 1))) (.bi .len (.var 0))) (.one (.of (.cmp .gt (.idx (.var 0) (.var 5)) (.var 4)))))))) (.one [4] (.range1 (.idx (.var 0) (.var 3))) .no)))) .nil)) (.cons (.ret (.call "_law_same" (.cons (.var 1) (.cons (.tup (.cons (.cst (.str "cells")) (.cons (.call "_law_ways" (.cons (.var 0) .nil)) (.cons (.bi .tuple (.own 2)) .nil)))) .nil)))) .nil))) }
/-- _law_told_near: state, row, things, pick, error -/
def fd_law_told_near : FDef := { np := 2, ns := 5, body := (.cons (.setOwn 2 (.lst (.cons (.var 1) .nil))) (.cons (.set 3 (.call "_law_next" (.cons (.rf 0) (.cons (.cst (.int 1)) .nil)))) (.cons (.setIx 2 (.var 3) (.call "_law_neighbour" (.cons (.rf 0) (.cons (.idx (.own 2) (.var 3)) .nil)))) (.cons (.tryy (.cons (.ret (.call "cells" (.cons (.idx (.own 2) (.cst (.int 0))) .nil))) .nil) (.cons 0 4 .unit (.cons 1 4 .unit .nil))) .nil)))) }
/-- _law_unfit: row, judged, error -/
def fd_law_unfit : FDef := { np := 1, ns := 3, body := (.cons (.forr [1] (.seq (.lst (.cons (.cst (.bool false)) (.cons (.cst (.bool true)) .nil)))) (.cons (.tryy (.cons (.ite (.of (.var 1)) (.cons (.ex (.call "judge_cells" (.cons (.var 0) (.cons (.cst .none) .nil)))) .nil) (.cons (.ex (.call "cells" (.cons (.var 0) .nil))) .nil)) (.cons (.ret (.cst (.bool false))) .nil)) (.cons 0 2 .go .nil)) .nil)) (.cons (.ret (.cst (.bool true))) .nil)) }
/-- law: script, state, seen, turn, row, told, near, k, asked -/
def fd_law : FDef := { np := 1, ns := 9, body := (.cons (.newCell 1 (.lst (.cons (.bi .list (.var 0)) (.cons (.cst (.int 0)) (.cons (.cst (.int 0)) (.cons (.cst (.int 1)) .nil)))))) (.cons (.set 2 (.lst .nil)) (.cons (.forr [3] (.range1 (.cst (.int 3))) (.cons (.set 4 (.call "_law_falling" (.cons (.rf 1) (.cons (.call "_law_next" (.cons (.rf 1) (.cons (.cst (.int 9)) .nil))) .nil)))) (.cons (.set 5 (.call "cells" (.cons (.var 4) .nil))) (.cons (.set 6 (.call "_law_told_near" (.cons (.rf 1) (.cons (.var 4) .nil)))) (.cons (.ite (.or (.not (.of (.call "_law_accepts" (.cons (.var 4) (.cons (.var 5) .nil))))) (.of (.cmp .notB (.call "judge_cells" (.cons (.var 4) (.cons (.var 5) .nil))) (.cst (.bool true))))) (.cons (.ret (.cst (.bool false))) .nil) .nil) (.cons (.ite (.or (.not (.of (.call "_law_unfit" (.cons (.tup (.cons (.cst (.int 1)) (.cons (.cst (.int 2)) .nil))) .nil)))) (.not (.of (.call "_law_unfit" (.cons (.bin .add (.var 4) (.tup (.cons (.cst (.int 0)) .nil))) .nil))))) (.cons (.ret (.cst (.bool false))) .nil) .nil) (.cons (.set 2 (.bin .add (.sli (.var 2) (.one (.neg (.cst (.int 3)))) .no) (.lst (.cons (.var 5) (.cons (.var 6) .nil))))) (.cons (.forr [7] (.range1 (.bin .add (.cst (.int 8)) (.bi .len (.var 2)))) (.cons (.set 8 (.ite (.of (.cmp .lt (.var 7) (.cst (.int 8)))) (.call "_law_odd" (.cons (.rf 1) (.cons (.var 5) .nil))) (.idx (.var 2) (.bin .sub (.var 7) (.cst (.int 8)))))) (.cons (.ite (.not (.of (.call "_law_same" (.cons (.call "judge_cells" (.cons (.var 4) (.cons (.var 8) .nil))) (.cons (.call "_law_accepts" (.cons (.var 4) (.cons (.var 8) .nil))) .nil))))) (.cons (.ret (.cst (.bool false))) .nil) .nil) .nil))) .nil)))))))) (.cons (.ret (.cst (.bool true))) .nil)))) }
def tab92 : Tab := fun f => lkS [("is_whole", fd_is_whole), ("is_told", fd_is_told), ("are_wholes", fd_are_wholes), ("check_falling", fd_check_falling), ("cells", fd_cells), ("judge_cells", fd_judge_cells), ("_law_next", fd_law_next), ("_law_same", fd_law_same), ("_law_changed", fd_law_changed), ("_law_ints", fd_law_ints), ("_law_exchanged", fd_law_exchanged), ("_law_cut", fd_law_cut), ("_law_turned_about", fd_law_turned_about), ("_law_odd", fd_law_odd), ("_law_are_pairs_in", fd_law_are_pairs_in), ("_law_falling", fd_law_falling), ("_law_neighbour", fd_law_neighbour), ("_law_ways", fd_law_ways), ("_law_accepts", fd_law_accepts), ("_law_told_near", fd_law_told_near), ("_law_unfit", fd_law_unfit), ("law", fd_law)] f
/-- rows, with the number of ways and the hooks -/
def tbl92 : List (List Int × Int × List (List Int)) := [
  ([], 1, []),
  ([1], 1, [[1]]),
  ([1, 1], 1, [[2], [1]]),
  ([2], 1, [[2, 1]]),
  ([1, 1, 1], 1, [[3], [2], [1]]),
  ([2, 1], 2, [[3, 1], [1]]),
  ([3], 1, [[3, 2, 1]]),
  ([1, 1, 1, 1], 1, [[4], [3], [2], [1]]),
  ([2, 1, 1], 3, [[4, 1], [2], [1]]),
  ([2, 2], 2, [[3, 2], [2, 1]]),
  ([3, 1], 3, [[4, 2, 1], [1]]),
  ([4], 1, [[4, 3, 2, 1]]),
  ([1, 1, 1, 1, 1], 1, [[5], [4], [3], [2], [1]]),
  ([2, 1, 1, 1], 4, [[5, 1], [3], [2], [1]]),
  ([2, 2, 1], 5, [[4, 2], [3, 1], [1]]),
  ([3, 1, 1], 6, [[5, 2, 1], [2], [1]]),
  ([3, 2], 5, [[4, 3, 1], [2, 1]]),
  ([4, 1], 4, [[5, 3, 2, 1], [1]]),
  ([5], 1, [[5, 4, 3, 2, 1]]),
  ([1, 1, 1, 1, 1, 1], 1, [[6], [5], [4], [3], [2], [1]]),
  ([2, 1, 1, 1, 1], 5, [[6, 1], [4], [3], [2], [1]]),
  ([2, 2, 1, 1], 9, [[5, 2], [4, 1], [2], [1]]),
  ([2, 2, 2], 5, [[4, 3], [3, 2], [2, 1]]),
  ([3, 1, 1, 1], 10, [[6, 2, 1], [3], [2], [1]]),
  ([3, 2, 1], 16, [[5, 3, 1], [3, 1], [1]]),
  ([3, 3], 5, [[4, 3, 2], [3, 2, 1]]),
  ([4, 1, 1], 10, [[6, 3, 2, 1], [2], [1]]),
  ([4, 2], 9, [[5, 4, 2, 1], [2, 1]]),
  ([5, 1], 5, [[6, 4, 3, 2, 1], [1]]),
  ([6], 1, [[6, 5, 4, 3, 2, 1]]),
  ([1, 1, 1, 1, 1, 1, 1], 1, [[7], [6], [5], [4], [3], [2], [1]]),
  ([2, 1, 1, 1, 1, 1], 6, [[7, 1], [5], [4], [3], [2], [1]]),
  ([2, 2, 1, 1, 1], 14, [[6, 2], [5, 1], [3], [2], [1]]),
  ([2, 2, 2, 1], 14, [[5, 3], [4, 2], [3, 1], [1]]),
  ([3, 1, 1, 1, 1], 15, [[7, 2, 1], [4], [3], [2], [1]]),
  ([3, 2, 1, 1], 35, [[6, 3, 1], [4, 1], [2], [1]]),
  ([3, 2, 2], 21, [[5, 4, 1], [3, 2], [2, 1]]),
  ([3, 3, 1], 21, [[5, 3, 2], [4, 2, 1], [1]]),
  ([4, 1, 1, 1], 20, [[7, 3, 2, 1], [3], [2], [1]]),
  ([4, 2, 1], 35, [[6, 4, 2, 1], [3, 1], [1]]),
  ([4, 3], 14, [[5, 4, 3, 1], [3, 2, 1]]),
  ([5, 1, 1], 15, [[7, 4, 3, 2, 1], [2], [1]]),
  ([5, 2], 14, [[6, 5, 3, 2, 1], [2, 1]]),
  ([6, 1], 6, [[7, 5, 4, 3, 2, 1], [1]]),
  ([7], 1, [[7, 6, 5, 4, 3, 2, 1]]),
  ([1, 1, 1, 1, 1, 1, 1, 1], 1, [[8], [7], [6], [5], [4], [3], [2], [1]]),
  ([2, 1, 1, 1, 1, 1, 1], 7, [[8, 1], [6], [5], [4], [3], [2], [1]]),
  ([2, 2, 1, 1, 1, 1], 20, [[7, 2], [6, 1], [4], [3], [2], [1]]),
  ([2, 2, 2, 1, 1], 28, [[6, 3], [5, 2], [4, 1], [2], [1]]),
  ([2, 2, 2, 2], 14, [[5, 4], [4, 3], [3, 2], [2, 1]]),
  ([3, 1, 1, 1, 1, 1], 21, [[8, 2, 1], [5], [4], [3], [2], [1]]),
  ([3, 2, 1, 1, 1], 64, [[7, 3, 1], [5, 1], [3], [2], [1]]),
  ([3, 2, 2, 1], 70, [[6, 4, 1], [4, 2], [3, 1], [1]]),
  ([3, 3, 1, 1], 56, [[6, 3, 2], [5, 2, 1], [2], [1]]),
  ([3, 3, 2], 42, [[5, 4, 2], [4, 3, 1], [2, 1]]),
  ([4, 1, 1, 1, 1], 35, [[8, 3, 2, 1], [4], [3], [2], [1]]),
  ([4, 2, 1, 1], 90, [[7, 4, 2, 1], [4, 1], [2], [1]]),
  ([4, 2, 2], 56, [[6, 5, 2, 1], [3, 2], [2, 1]]),
  ([4, 3, 1], 70, [[6, 4, 3, 1], [4, 2, 1], [1]]),
  ([4, 4], 14, [[5, 4, 3, 2], [4, 3, 2, 1]]),
  ([5, 1, 1, 1], 35, [[8, 4, 3, 2, 1], [3], [2], [1]]),
  ([5, 2, 1], 64, [[7, 5, 3, 2, 1], [3, 1], [1]]),
  ([5, 3], 28, [[6, 5, 4, 2, 1], [3, 2, 1]]),
  ([6, 1, 1], 21, [[8, 5, 4, 3, 2, 1], [2], [1]]),
  ([6, 2], 20, [[7, 6, 4, 3, 2, 1], [2, 1]]),
  ([7, 1], 7, [[8, 6, 5, 4, 3, 2, 1], [1]]),
  ([8], 1, [[8, 7, 6, 5, 4, 3, 2, 1]]),
  ([1, 1, 1, 1, 1, 1, 1, 1, 1], 1, [[9], [8], [7], [6], [5], [4], [3], [2], [1]]),
  ([2, 1, 1, 1, 1, 1, 1, 1], 8, [[9, 1], [7], [6], [5], [4], [3], [2], [1]]),
  ([2, 2, 1, 1, 1, 1, 1], 27, [[8, 2], [7, 1], [5], [4], [3], [2], [1]]),
  ([2, 2, 2, 1, 1, 1], 48, [[7, 3], [6, 2], [5, 1], [3], [2], [1]]),
  ([2, 2, 2, 2, 1], 42, [[6, 4], [5, 3], [4, 2], [3, 1], [1]]),
  ([3, 1, 1, 1, 1, 1, 1], 28, [[9, 2, 1], [6], [5], [4], [3], [2], [1]]),
  ([3, 2, 1, 1, 1, 1], 105, [[8, 3, 1], [6, 1], [4], [3], [2], [1]]),
  ([3, 2, 2, 1, 1], 162, [[7, 4, 1], [5, 2], [4, 1], [2], [1]]),
  ([3, 2, 2, 2], 84, [[6, 5, 1], [4, 3], [3, 2], [2, 1]]),
  ([3, 3, 1, 1, 1], 120, [[7, 3, 2], [6, 2, 1], [3], [2], [1]]),
  ([3, 3, 2, 1], 168, [[6, 4, 2], [5, 3, 1], [3, 1], [1]]),
  ([3, 3, 3], 42, [[5, 4, 3], [4, 3, 2], [3, 2, 1]]),
  ([4, 1, 1, 1, 1, 1], 56, [[9, 3, 2, 1], [5], [4], [3], [2], [1]]),
  ([4, 2, 1, 1, 1], 189, [[8, 4, 2, 1], [5, 1], [3], [2], [1]]),
  ([4, 2, 2, 1], 216, [[7, 5, 2, 1], [4, 2], [3, 1], [1]]),
  ([4, 3, 1, 1], 216, [[7, 4, 3, 1], [5, 2, 1], [2], [1]]),
  ([4, 3, 2], 168, [[6, 5, 3, 1], [4, 3, 1], [2, 1]]),
  ([4, 4, 1], 84, [[6, 4, 3, 2], [5, 3, 2, 1], [1]]),
  ([5, 1, 1, 1, 1], 70, [[9, 4, 3, 2, 1], [4], [3], [2], [1]]),
  ([5, 2, 1, 1], 189, [[8, 5, 3, 2, 1], [4, 1], [2], [1]]),
  ([5, 2, 2], 120, [[7, 6, 3, 2, 1], [3, 2], [2, 1]]),
  ([5, 3, 1], 162, [[7, 5, 4, 2, 1], [4, 2, 1], [1]]),
  ([5, 4], 42, [[6, 5, 4, 3, 1], [4, 3, 2, 1]]),
  ([6, 1, 1, 1], 56, [[9, 5, 4, 3, 2, 1], [3], [2], [1]]),
  ([6, 2, 1], 105, [[8, 6, 4, 3, 2, 1], [3, 1], [1]]),
  ([6, 3], 48, [[7, 6, 5, 3, 2, 1], [3, 2, 1]]),
  ([7, 1, 1], 28, [[9, 6, 5, 4, 3, 2, 1], [2], [1]]),
  ([7, 2], 27, [[8, 7, 5, 4, 3, 2, 1], [2, 1]]),
  ([8, 1], 8, [[9, 7, 6, 5, 4, 3, 2, 1], [1]]),
  ([9], 1, [[9, 8, 7, 6, 5, 4, 3, 2, 1]])]
def due92 (e : List Int × Int × List (List Int)) : PyData := .tuple [.str (Str.ofString "cells"), .int e.2.1, .tuple (e.2.2.map intT)]
theorem cells_all (n : Nat) (S : Store) : tbl92.map (fun e => callF tab92 (n + 4) "cells" [.val (intT e.1)] S) = tbl92.map fun e => .ok (due92 e) S := by
  kernel_rfl
theorem unfit_12 (n : Nat) (S : Store) : callF tab92 (n + 6) "_law_unfit" [.val (intT [1, 2])] S = .ok (.bool true) S := by
  kernel_rfl
theorem small_all : (tbl92.all fun e => isPl 100 3 (due92 e) && isPl 100 1 (intT e.1) && decide (e.1.length ≤ 9) && decide (e.1.sum ≤ 9) && e.1.all fun x => decide (1 ≤ x)) = true := by
  decide +kernel
def fallB (ns : List Int) : Bool := (ns.all fun x => decide (1 ≤ x)) && !((ns.zip (ns.drop 1)).any fun q => decide (q.1 < q.2))
theorem near_all : (tbl92.all fun e => !decide (e.1.sum ≤ 8) || (nearOf e.1).all fun m => !fallB m || tbl92.any fun e' => decide (e'.1 = m)) = true := by
  decide +kernel
def waysI : Nat → List Int → Int
  | 0, _ => 0
  | f + 1, ns => if ns.sum = 0 then 1 else ((List.range ns.length).map fun k => if (ns ++ [0]).getD (k + 1) 0 < ns.getD k 0 then waysI f (ns.take k ++ [ns.getD k 0 - 1] ++ ns.drop (k + 1)) else 0).sum
theorem ways_tbl : (tbl92.all fun e => !decide (e.1.sum ≤ 8) || decide (waysI 9 e.1 = e.2.1)) = true := by
  decide +kernel
def hookRow (ns : List Int) (k : Nat) : List Int := (List.range (ns.getD k 0).toNat).map fun j => ns.getD k 0 - (j : Nat) + ((List.range (ns.length - (k + 1))).filter fun i => decide (((j : Nat) : Int) < ns.getD (k + 1 + i) 0)).length
theorem hooks_tbl : (tbl92.all fun e => !decide (e.1.sum ≤ 8) || decide ((List.range e.1.length).map (hookRow e.1) = e.2.2)) = true := by
  decide +kernel
end L2.DL

set_option maxHeartbeats 4000000
/-! law_k92: what raises; ways, hooks. -/
namespace L2.DL
open PySem PyProof.Rows
open Lean in
local macro_rules
  | `(tactic| simp_arith) => `(tactic| simp_arith [])
  | `(tactic| simp_arith [$ls,*]) => `(tactic| simp only [List.cons_append, List.nil_append, Nat.reduceSub, List.replicate, oks_cons, oks_nil, oks_fin, oks_lift, evS, evT, evE, evO, evEs, evAs, ok_bind, ok_pure, ok_some, getRef, getVal, getOwn, List.getElem?_cons_zero, List.getElem?_cons_succ, List.set_cons_zero, List.set_cons_succ, ok_cell0,
    thenQ_next, thenQ_ret, endQ_ret, endQ_next, idxl0, idxl1, idxl2, idxl3, put1, put2, put3, biD, binD, cmpD, len_list, len_tuple, add_int, sub_int, aadd_int, asub_int, int_int, int_bool, tru_bool, tru_int, tru_none, tru_list, tru_tuple, eqD_int, neD_int, ltD_int, leD_int, gtD_int, geD_int, pow18, if_true, if_false, Bool.false_eq_true, Bool.not_false, Bool.not_true, ↓reduceIte, $ls,*])
open Lean in
local macro_rules
  | `(tactic| simp_arith!) => `(tactic| simp_arith! [])
  | `(tactic| simp_arith! [$ls,*]) => `(tactic| simp_arith [isiD, isiT, List.any_cons, List.any_nil, Bool.or_false, Bool.false_or, Bool.true_or, Bool.or_true, List.forall_mem_cons, List.not_mem_nil, false_implies, implies_true, true_and, and_true, and_assoc, isnD, nonD, isNoneD, pl_none, pl_bool, pl_int, orv_int, ok_str_int, ok_add_tuple, ok_add_list, ok_add_str, ok_sli_str, ok_rev_str, ok_len_str, rev_tuple, rev_list, sli_tuple, sli_list, list_list, list_tuple, tup_list, tup_tuple, len_tuple, len_list, cut_to, cut_from, cut_from1, cut_one, cut_1mid, cut_lit1, cut_litf1, $ls,*])
open Lean in
local macro_rules | `(tactic| and_intros) => `(tactic| first | assumption | (exact fun x hx => absurd hx List.not_mem_nil) | (apply mem_take; and_intros) | (apply mem_drop; and_intros) | (apply mem_rev; and_intros) | (apply mem_app <;> and_intros) | (apply mem_one; first | assumption | exact pl_int.mpr (Nat.two_pow_pos _)))
open Lean in
local macro_rules | `(tactic| bv_omega) => `(tactic| (first | omega | (simp only [List.length_append, List.length_take, List.length_drop, List.length_reverse, List.length_cons, List.length_nil] at *; omega)))
open Lean in
local macro_rules
  | `(tactic| simp_all_arith) => `(tactic| simp_all_arith [])
  | `(tactic| simp_all_arith [$ls,*]) => `(tactic| simp_arith! [evG, evIt, evC, iterOf, bindTg, setAll, wipeE, ok_calm, okList, evEs, idxt, List.length_map, List.length_cons, List.length_nil, $ls,*])
abbrev E92 := List Int × Int × List (List Int)
theorem cells_tbl (n : Nat) (S : Store) {e : E92} (he : e ∈ tbl92) : callF tab92 (n + 4) "cells" [.val (intT e.1)] S = .ok (due92 e) S :=
  List.map_inj_left.mp (cells_all n S) e he
theorem small_tbl {e : E92} (he : e ∈ tbl92) : Pl 100 3 (due92 e) ∧ Pl 100 1 (intT e.1) ∧ e.1.length ≤ 9 ∧ e.1.sum ≤ 9 ∧ ∀ x ∈ e.1, 1 ≤ x := by
  have h := List.all_eq_true.mp small_all e he
  simp only [Bool.and_eq_true, decide_eq_true_iff, List.all_eq_true] at h
  exact ⟨isPl_pl h.1.1.1.1, isPl_pl h.1.1.1.2, h.1.1.2, h.1.2, h.2⟩
theorem t92_check : tab92 "check_falling" = some fd_check_falling := by kernel_rfl
theorem t92_cells : tab92 "cells" = some fd_cells := by kernel_rfl
theorem t92_judge : tab92 "judge_cells" = some fd_judge_cells := by kernel_rfl
theorem t92_ways : tab92 "_law_ways" = some fd_law_ways := by kernel_rfl
theorem t92_accepts : tab92 "_law_accepts" = some fd_law_accepts := by kernel_rfl
theorem t92_near : tab92 "_law_told_near" = some fd_law_told_near := by kernel_rfl
theorem t92_unfit : tab92 "_law_unfit" = some fd_law_unfit := by kernel_rfl
theorem t92_falling : tab92 "_law_falling" = some fd_law_falling := by kernel_rfl
theorem t92_law : tab92 "law" = some fd_law := by kernel_rfl
theorem t92_told : tab92 "is_told" = some fd_is_told := by kernel_rfl
theorem t92_whole : tab92 "is_whole" = some fd_is_whole := by kernel_rfl
theorem t92_wholes : tab92 "are_wholes" = some fd_are_wholes := by kernel_rfl
section
variable {Φ : Call} {ρ ρ' : Env} {S S' : Store} {c : Nat} {Q : Flow → Env → Store → Prop}
theorem exc_cons {s : L2.DL.S} {r : Ss} (h : evS Φ s ρ S = .exc c ρ' S') : evSs Φ (.cons s r) ρ S = .exc c ρ' S' := by rw [evSs, h]
theorem exc_ite {t : T} {a b : Ss} (h : Ok (evT Φ t ρ) S (fun k S1 => k = true ∧ S1 = S)) (h2 : evSs Φ a ρ S = .exc c ρ' S') : evS Φ (.ite t a b) ρ S = .exc c ρ' S' := by
  have e := pure_ok h
  rw [evS, liftE, e]
  exact h2
theorem exc_raise {r : Ss} : evSs Φ (.cons (.raise c) r) ρ S = .exc c ρ S := by rw [evSs, evS]
theorem exc_call {tab : Tab} {f : Str} {fd : FDef} {n : Nat} {as : List Slot} (h : tab f = some fd) (hl : as.length = fd.np) (e : evSs (callF tab n) fd.body (as ++ List.replicate (fd.ns - fd.np) .no) S = .exc c ρ' S') : callF tab (n + 1) f as S = .exc c S' := by
  rw [call_run h, runDef, if_pos hl, e]
theorem oks_go {b : Ss} {h : Hs} (e : evSs Φ b ρ S = .exc c ρ' S') (hc : c < 2) (q : Ends (handle h c ρ' S') Q) : Ends (evS Φ (.tryy b h) ρ S) Q := by
  obtain ⟨f, ρ1, S1, e1, q⟩ := q
  exact ⟨f, ρ1, S1, by rw [evS, e]; simp only [hc, if_true]; exact e1, q⟩
end
section
variable {n : Nat} {S : Store}
theorem zip_ints (ns : List Int) : zipD (.tuple (ns.map PyData.int)) (.tuple ((ns.map PyData.int).drop 1)) = some ((ns.zip (ns.drop 1)).map fun q => .tuple [.int q.1, .int q.2]) := by
  show some (((ns.map PyData.int).zip ((ns.map PyData.int).drop 1)).map fun p => PyData.tuple [p.1, p.2]) = _
  rw [← List.map_drop, List.zip_map, List.map_map]
  rfl
theorem any_true {α : Type} (p : α → Bool) (xs : List α) : ((xs.map p).any fun y => y == true) = xs.any p := by
  rw [List.any_map]
  congr 1
  funext x
  simp
theorem check_exc {ns : List Int} (hl : ns.length ≤ 1000) (h : fallB ns = false) : callF tab92 (n + 1) "check_falling" [.val (intT ns)] S = .exc 0 S := by
  have hz := sizeLine_eq
  refine exc_call (fd := fd_check_falling) t92_check rfl (ρ' := [.val (intT ns), .no, .no, .no]) ?_
  show evSs _ (.cons _ _) _ _ = _
  refine exc_cons (exc_ite ?_ exc_raise)
  unfold intT
  simp_all_arith [fd_check_falling]
  rw [catM_map]
  refine (ok_catP (fun x : Int => [PyData.bool (decide (x < 1))]) ns ?_).mono ?_
  · intro x hx
    simp_all_arith
  · rintro _ S ⟨rfl, rfl⟩
    rw [flat_one, ok_sized, show (ns.map fun x => PyData.bool (decide (x < 1))) = (ns.map fun x => decide (x < 1)).map PyData.bool by rw [List.map_map]; rfl]
    refine ⟨by rw [List.length_map, List.length_map]; omega, ?_⟩
    cases e1 : ns.any fun x => decide (x < 1) with
    | true => simp_all_arith [in_bools, any_true, e1]
    | false =>
      simp_all_arith [in_bools, any_true, e1, zip_ints]
      rw [catM_map]
      refine (ok_catP (fun q : Int × Int => [PyData.bool (decide (q.1 < q.2))]) _ ?_).mono ?_
      · rintro ⟨q1, q2⟩ hq
        simp_all_arith
      · rintro _ S ⟨rfl, rfl⟩
        have hzl : (ns.zip (ns.drop 1)).length ≤ ns.length := by
          rw [List.length_zip]
          exact Nat.min_le_left _ _
        rw [flat_one, ok_sized, show ((ns.zip (ns.drop 1)).map fun x => PyData.bool (decide (x.1 < x.2))) = ((ns.zip (ns.drop 1)).map fun x => decide (x.1 < x.2)).map PyData.bool by rw [List.map_map]; rfl]
        refine ⟨by rw [List.length_map, List.length_map]; omega, ?_⟩
        have e2 : (ns.zip (ns.drop 1)).any (fun q => decide (q.1 < q.2)) = true := by
          have e3 : (ns.all fun x => decide (1 ≤ x)) = true := by
            rw [List.all_eq_true]
            intro x hx
            have := List.any_eq_false.mp e1 x hx
            simp only [decide_eq_true_eq] at this ⊢
            omega
          rw [fallB, e3, Bool.true_and] at h
          simpa using h
        simp_all_arith [in_bools, any_true, e2]
theorem cells_exc {ns : List Int} (hl : ns.length ≤ 1000) (h : fallB ns = false) : callF tab92 (n + 2) "cells" [.val (intT ns)] S = .exc 0 S := by
  refine exc_call (fd := fd_cells) t92_cells rfl (ρ' := [.val (intT ns), .no, .no, .no, .no, .no, .no, .no, .no]) ?_
  show evSs _ (.cons _ _) _ _ = _
  refine exc_cons ?_
  show evS _ (.ex (.call "check_falling" (.cons (.var 0) .nil))) _ _ = _
  rw [evS, evE, evAs, evE]
  have e := check_exc (n := n) (S := S) hl h
  simp only [getVal, List.cons_append, List.getElem?_cons_zero, evAs, Mn.bind, Mn.pure, liftE, e]
  rfl
  all_goals (intro _ h; cases h)
end
end L2.DL

set_option maxHeartbeats 4000000
/-! law_k92: refusals, ways, hooks. -/
namespace L2.DL
open PySem PyProof.Rows
open Lean in
local macro_rules
  | `(tactic| simp_arith) => `(tactic| simp_arith [])
  | `(tactic| simp_arith [$ls,*]) => `(tactic| simp only [List.cons_append, List.nil_append, Nat.reduceSub, List.replicate, oks_cons, oks_nil, oks_fin, oks_lift, evS, evT, evE, evO, evEs, evAs, ok_bind, ok_pure, ok_some, getRef, getVal, getOwn, List.getElem?_cons_zero, List.getElem?_cons_succ, List.set_cons_zero, List.set_cons_succ, ok_cell0,
    thenQ_next, thenQ_ret, endQ_ret, endQ_next, idxl0, idxl1, idxl2, idxl3, put1, put2, put3, biD, binD, cmpD, len_list, len_tuple, add_int, sub_int, aadd_int, asub_int, int_int, int_bool, tru_bool, tru_int, tru_none, tru_list, tru_tuple, eqD_int, neD_int, ltD_int, leD_int, gtD_int, geD_int, pow18, if_true, if_false, Bool.false_eq_true, Bool.not_false, Bool.not_true, ↓reduceIte, $ls,*])
open Lean in
local macro_rules
  | `(tactic| simp_arith!) => `(tactic| simp_arith! [])
  | `(tactic| simp_arith! [$ls,*]) => `(tactic| simp_arith [isiD, isiT, List.any_cons, List.any_nil, Bool.or_false, Bool.false_or, Bool.true_or, Bool.or_true, List.forall_mem_cons, List.not_mem_nil, false_implies, implies_true, true_and, and_true, and_assoc, isnD, nonD, isNoneD, pl_none, pl_bool, pl_int, orv_int, ok_str_int, ok_add_tuple, ok_add_list, ok_add_str, ok_sli_str, ok_rev_str, ok_len_str, rev_tuple, rev_list, sli_tuple, sli_list, list_list, list_tuple, tup_list, tup_tuple, len_tuple, len_list, cut_to, cut_from, cut_from1, cut_one, cut_1mid, cut_lit1, cut_litf1, $ls,*])
open Lean in
local macro_rules | `(tactic| and_intros) => `(tactic| first | assumption | (exact fun x hx => absurd hx List.not_mem_nil) | (apply mem_take; and_intros) | (apply mem_drop; and_intros) | (apply mem_rev; and_intros) | (apply mem_app <;> and_intros) | (apply mem_one; first | assumption | exact pl_int.mpr (Nat.two_pow_pos _)))
open Lean in
local macro_rules | `(tactic| bv_omega) => `(tactic| (first | omega | (simp only [List.length_append, List.length_take, List.length_drop, List.length_reverse, List.length_cons, List.length_nil] at *; omega)))
open Lean in
local macro_rules
  | `(tactic| simp_all_arith) => `(tactic| simp_all_arith [])
  | `(tactic| simp_all_arith [$ls,*]) => `(tactic| simp_arith! [evG, evIt, evC, iterOf, bindTg, setAll, wipeE, ok_calm, okList, evEs, idxt, List.length_map, List.length_cons, List.length_nil, $ls,*])
section
variable {n : Nat} {S : Store}
theorem exc_arg {Φ : Call} {ρ : Env} {f : Str} {es : Es} {as : List Slot} {c : Nat} {S' : Store} (h1 : evAs Φ es ρ S = .ok as S) (h2 : Φ f as S = .exc c S') : evE Φ (.call f es) ρ S = .exc c S' := by
  rw [evE, Mn.bind, h1]
  exact h2
theorem as_ok {Φ : Call} {ρ : Env} {es : Es} {as : List Slot} (h : Ok (evAs Φ es ρ) S (fun a S' => a = as ∧ S' = S)) : evAs Φ es ρ S = .ok as S := pure_ok h
theorem exc_ex {Φ : Call} {ρ : Env} {e : E} {c : Nat} {S' : Store} (h : evE Φ e ρ S = .exc c S') : evS Φ (.ex e) ρ S = .exc c ρ S' := by rw [evS, liftE, h]
theorem exc_set {Φ : Call} {ρ : Env} {i : Nat} {e : E} {c : Nat} {S' : Store} (h : evE Φ e ρ S = .exc c S') : evS Φ (.set i e) ρ S = .exc c ρ S' := by rw [evS, liftE, h]
theorem exc_if {Φ : Call} {ρ ρ' : Env} {t : T} {a b : Ss} {k : Bool} {c : Nat} {S' : Store} (h : Ok (evT Φ t ρ) S (fun k' S1 => k' = k ∧ S1 = S)) (h2 : (if k = true then evSs Φ a ρ S else evSs Φ b ρ S) = .exc c ρ' S') : evS Φ (.ite t a b) ρ S = .exc c ρ' S' := by
  have e := pure_ok h
  rw [evS, liftE, e]
  exact h2
theorem judge_exc {ns : List Int} {d : PyData} (hl : ns.length ≤ 1000) (h : fallB ns = false) : callF tab92 (n + 3) "judge_cells" [.val (intT ns), .val d] S = .exc 0 S := by
  refine exc_call (fd := fd_judge_cells) t92_judge rfl (ρ' := [.val (intT ns), .val d, .no, .no]) ?_
  show evSs _ (.cons _ _) _ _ = _
  refine exc_cons (exc_set (exc_arg (as := [.val (intT ns)]) (as_ok ?_) (cells_exc hl h)))
  simp_all_arith [fd_judge_cells]
theorem unfit_ok {ns : List Int} (hl : ns.length ≤ 1000) (h : fallB ns = false) : callF tab92 (n + 4) "_law_unfit" [.val (intT ns)] S = .ok (.bool true) S := by
  refine pure_ok ?_
  rw [ok_call t92_unfit rfl]
  simp_all_arith [fd_law_unfit]
  refine oks_forT (fun rest ρ' S' => S' = S ∧ (∀ x ∈ rest, x = .bool false ∨ x = .bool true) ∧ ∃ w1 w2, ρ' = [.val (intT ns), w1, w2]) ?_ ?_ ?_
  · refine ⟨rfl, List.forall_mem_cons.mpr ⟨.inl rfl, mem_one (.inr rfl)⟩, _, _, rfl⟩
  · rintro x r ρ S ⟨rfl, hx, w1, w2, rfl⟩
    show Ends (evSs _ (.cons _ _) _ _) _
    rw [oks_cons]
    have hr := fun y hy => hx y (List.mem_cons_of_mem x hy)
    rcases hx x List.mem_cons_self with rfl | rfl
    · refine oks_go (c := 0) (ρ' := [.val (intT ns), .val (.bool false), w2]) (S' := S) ?_ (by decide) ?_
      · refine exc_cons (exc_if (k := false) (by simp_all_arith) ?_)
        rw [if_neg Bool.false_ne_true]
        refine exc_cons (exc_ex (exc_arg (as := [.val (intT ns)]) (as_ok (by simp_all_arith)) (cells_exc hl h)))
      · show Ends (.fin .next _ _) _
        simp_all_arith [loopQ_next]
        exact ⟨hr, _, _, rfl⟩
    · refine oks_go (c := 0) (ρ' := [.val (intT ns), .val (.bool true), w2]) (S' := S) ?_ (by decide) ?_
      · refine exc_cons (exc_if (k := true) (by simp_all_arith) ?_)
        rw [if_pos rfl]
        refine exc_cons (exc_ex (exc_arg (as := [.val (intT ns), .val .none]) (as_ok (by simp_all_arith)) (judge_exc hl h)))
      · show Ends (.fin .next _ _) _
        simp_all_arith [loopQ_next]
        exact ⟨hr, _, _, rfl⟩
  · rintro ρ S ⟨rfl, _, w1, w2, rfl⟩
    simp_all_arith
theorem near_good {e : E92} (he : e ∈ tbl92) (h8 : e.1.sum ≤ 8) {ms : List Int} (hm : ms ∈ nearOf e.1) : (∃ e' ∈ tbl92, ms = e'.1) ∨ fallB ms = false := by
  have h := List.all_eq_true.mp near_all e he
  rw [decide_eq_true h8, Bool.not_true, Bool.false_or] at h
  have h2 := List.all_eq_true.mp h ms hm
  rw [Bool.or_eq_true] at h2
  rcases h2 with h2 | h2
  · right
    simpa using h2
  · left
    obtain ⟨e', he', h3⟩ := List.any_eq_true.mp h2
    exact ⟨e', he', (of_decide_eq_true h3).symm⟩
theorem near_len {ns ms : List Int} (hm : ms ∈ nearOf ns) : ms.length ≤ ns.length + 1 := by
  rcases List.mem_cons.mp hm with rfl | hm
  · omega
  · obtain ⟨k, hk, hm⟩ := List.mem_flatMap.mp hm
    simp only [List.mem_cons, List.not_mem_nil, or_false] at hm
    rcases hm with rfl | rfl | rfl <;> bv_omega
theorem told_near92 (H : Help tab92) {e : E92} (he : e ∈ tbl92) (h8 : e.1.sum ≤ 8) (hs : StOk S) :
    Ok (callF tab92 (n + 5) "_law_told_near" [.ref 0, .val (intT e.1)]) S (fun r S' => Pl 100 3 r ∧ StOk S') := by
  obtain ⟨_, _, hl, _, _⟩ := small_tbl he
  rw [ok_call t92_near rfl]
  show Ends (evSs _ (.cons _ _) _ _) _
  refine oks_step (fun ρ' S' => ρ' = [.ref 0, .val (intT e.1), .own (.list [intT e.1]), .no, .no] ∧ StOk S') (by simp_all_arith [fd_law_told_near, stepQ_next]; exact hs) ?_
  rintro _ S ⟨rfl, hs⟩
  show Ends (evSs _ (.cons _ _) _ _) _
  refine oks_step (fun ρ' S' => ρ' = [.ref 0, .val (intT e.1), .own (.list [intT e.1]), .val (.int 0), .no] ∧ StOk S') ?_ ?_
  · simp_all_arith [fd_law_told_near, stepQ_next]
    refine (law_next_ok H.next (L := 1) (by decide) (by decide) hs).mono ?_
    rintro _ S ⟨r, hr, rfl, hs⟩
    have hr0 : r = 0 := by omega
    subst hr0
    exact ⟨rfl, hs⟩
  rintro _ S ⟨rfl, hs⟩
  show Ends (evSs _ (.cons _ _) _ _) _
  refine oks_step (fun ρ' S' => ∃ ms ∈ nearOf e.1, ρ' = [.ref 0, .val (intT e.1), .own (.list [intT ms]), .val (.int 0), .no] ∧ StOk S') ?_ ?_
  · have px : ∀ x z : PyData, putIx [x] (.int 0) z = some [z] := fun _ _ => rfl
    simp_all_arith [fd_law_told_near, stepQ_next, ownOf]
    refine (law_neighbour_ints (n := n + 2) H.next H.neighbour (by omega) hs).mono ?_
    rintro _ S ⟨⟨ms, h1, rfl⟩, hs⟩
    simp_all_arith [px]
    exact ⟨ms, h1, rfl, hs⟩
  rintro _ S ⟨ms, hm, rfl, hs⟩
  have hml := near_len hm
  show Ends (evSs _ (.cons _ _) _ _) _
  rw [oks_cons]
  refine oks_try2 ?_
  have ea : evAs (callF tab92 (n + 4)) (.cons (.idx (.own 2) (.cst (.int 0))) .nil) [.ref 0, .val (intT e.1), .own (.list [intT ms]), .val (.int 0), .no] S = .ok [.val (intT ms)] S := as_ok (by simp_all_arith)
  rcases near_good he h8 hm with ⟨e', he', rfl⟩ | hf
  · left
    refine ⟨due92 e', S, ?_, (small_tbl he').1, hs⟩
    rw [evE, Mn.bind, ea]
    exact cells_tbl n S he'
  · right
    refine ⟨0, S, by decide, exc_arg ea (cells_exc (n := n + 2) (by omega) hf), pl_tuple.mpr ⟨Nat.zero_le _, fun x hx => absurd hx List.not_mem_nil⟩, hs⟩
end
end L2.DL

set_option maxHeartbeats 4000000
/-! law_k92: ways and hooks. -/
namespace L2.DL
open PySem PyProof.Rows
open Lean in
local macro_rules
  | `(tactic| simp_arith) => `(tactic| simp_arith [])
  | `(tactic| simp_arith [$ls,*]) => `(tactic| simp only [List.cons_append, List.nil_append, Nat.reduceSub, List.replicate, oks_cons, oks_nil, oks_fin, oks_lift, evS, evT, evE, evO, evEs, evAs, ok_bind, ok_pure, ok_some, getRef, getVal, getOwn, List.getElem?_cons_zero, List.getElem?_cons_succ, List.set_cons_zero, List.set_cons_succ, ok_cell0,
    thenQ_next, thenQ_ret, endQ_ret, endQ_next, idxl0, idxl1, idxl2, idxl3, put1, put2, put3, biD, binD, cmpD, len_list, len_tuple, add_int, sub_int, aadd_int, asub_int, int_int, int_bool, tru_bool, tru_int, tru_none, tru_list, tru_tuple, eqD_int, neD_int, ltD_int, leD_int, gtD_int, geD_int, pow18, if_true, if_false, Bool.false_eq_true, Bool.not_false, Bool.not_true, ↓reduceIte, $ls,*])
open Lean in
local macro_rules
  | `(tactic| simp_arith!) => `(tactic| simp_arith! [])
  | `(tactic| simp_arith! [$ls,*]) => `(tactic| simp_arith [isiD, isiT, List.any_cons, List.any_nil, Bool.or_false, Bool.false_or, Bool.true_or, Bool.or_true, List.forall_mem_cons, List.not_mem_nil, false_implies, implies_true, true_and, and_true, and_assoc, isnD, nonD, isNoneD, pl_none, pl_bool, pl_int, orv_int, ok_str_int, ok_add_tuple, ok_add_list, ok_add_str, ok_sli_str, ok_rev_str, ok_len_str, rev_tuple, rev_list, sli_tuple, sli_list, list_list, list_tuple, tup_list, tup_tuple, len_tuple, len_list, cut_to, cut_from, cut_from1, cut_one, cut_1mid, cut_lit1, cut_litf1, $ls,*])
open Lean in
local macro_rules | `(tactic| and_intros) => `(tactic| first | assumption | (exact fun x hx => absurd hx List.not_mem_nil) | (apply mem_take; and_intros) | (apply mem_drop; and_intros) | (apply mem_rev; and_intros) | (apply mem_app <;> and_intros) | (apply mem_one; first | assumption | exact pl_int.mpr (Nat.two_pow_pos _)))
open Lean in
local macro_rules | `(tactic| bv_omega) => `(tactic| (first | omega | (simp only [List.length_append, List.length_take, List.length_drop, List.length_reverse, List.length_cons, List.length_nil] at *; omega)))
open Lean in
local macro_rules
  | `(tactic| simp_all_arith) => `(tactic| simp_all_arith [])
  | `(tactic| simp_all_arith [$ls,*]) => `(tactic| simp_arith! [evG, evIt, evC, iterOf, bindTg, setAll, wipeE, ok_calm, okList, evEs, idxt, List.length_map, List.length_cons, List.length_nil, $ls,*])
theorem intsOf_map : ∀ ns : List Int, intsOf (ns.map PyData.int) = some ns
  | [] => rfl
  | n :: r => by
    rw [List.map_cons, intsOf, intsOf_map r]
    rfl
theorem sum_ints (ns : List Int) : sumD (.tuple (ns.map PyData.int)) = some (.int ns.sum) := by
  show (intsOf (ns.map PyData.int)).map (fun ns => PyData.int ns.sum) = _
  rw [intsOf_map]
  rfl
theorem sum_nonneg : ∀ ns : List Int, (∀ x ∈ ns, 0 ≤ x) → 0 ≤ ns.sum
  | [], _ => Int.le_refl _
  | n :: r, h => by
    rw [List.sum_cons]
    have h1 := h n List.mem_cons_self
    have h2 := sum_nonneg r fun x hx => h x (List.mem_cons_of_mem _ hx)
    omega
theorem sum_split : ∀ (ns : List Int) (k : Nat) (v : Int), k < ns.length → (ns.take k ++ [v] ++ ns.drop (k + 1)).sum = ns.sum - ns.getD k 0 + v
  | [], k, v, h => absurd h (Nat.not_lt_zero _)
  | n :: r, 0, v, h => by
    simp
    omega
  | n :: r, k + 1, v, h => by
    have ih := sum_split r k v (by simpa using h)
    simp only [List.take_succ_cons, List.drop_succ_cons, List.cons_append, List.sum_cons, List.getD_cons_succ] at ih ⊢
    omega
theorem getD_mem {ns : List Int} {k : Nat} (h : k < ns.length) : ns.getD k 0 ∈ ns := by
  rw [List.getD_eq_getElem?_getD, List.getElem?_eq_getElem h]
  exact List.getElem_mem h
theorem app_zero (ns : List Int) : ns.map PyData.int ++ [PyData.int 0] = (ns ++ [0]).map PyData.int := by rw [List.map_append]; rfl
theorem idx_intn1 {ns : List Int} {k : Nat} (h : k + 1 < ns.length) : idxD (.list (ns.map PyData.int)) (.int ((k : Int) + 1)) = some (.int (ns.getD (k + 1) 0)) := idx_intn h
def term92 (f : Nat) (ns : List Int) (k : Nat) : Int := if (ns ++ [0]).getD (k + 1) 0 < ns.getD k 0 then waysI f (ns.take k ++ [ns.getD k 0 - 1] ++ ns.drop (k + 1)) else 0
theorem take_sum (g : Nat → Int) (m j : Nat) (h : j < m) : (((List.range m).map g).take (j + 1)).sum = (((List.range m).map g).take j).sum + g j := by
  rw [List.take_succ_eq_append_getElem (by rw [List.length_map, List.length_range]; exact h), List.sum_append, List.getElem_map, List.getElem_range]
  simp
theorem ways_ev : ∀ (f n : Nat) (ns : List Int) (S : Store), ns.length ≤ 100 → (∀ x ∈ ns, 0 ≤ x) → ns.sum < f → callF tab92 (n + f) "_law_ways" [.val (intT ns)] S = .ok (.int (waysI f ns)) S
  | 0, n, ns, S, hl, h0, hs => absurd hs (by have := sum_nonneg ns h0; omega)
  | f + 1, n, ns, S, hl, h0, hs => by
    have hz := sizeLine_eq
    refine pure_ok ?_
    rw [show n + (f + 1) = (n + f) + 1 from rfl, ok_call t92_ways rfl, waysI]
    unfold intT
    by_cases h1 : ns.sum = 0
    · have d1 := decide_eq_true h1
      rw [if_pos h1]
      simp_all_arith [fd_law_ways, sum_ints, d1]
    · have d1 := decide_eq_false h1
      rw [if_neg h1]
      simp_all_arith [fd_law_ways, sum_ints, d1, range_lt ns.length (by omega)]
      refine oks_forT (fun rest ρ' S' => S' = S ∧ ∃ (j : Nat) (w : Slot), rest = ((List.range ns.length).drop j).map (fun k => PyData.int (k : Nat)) ∧ ρ' = [.val (.tuple (ns.map PyData.int)), .val (.int (((List.range ns.length).map (term92 f ns)).take j).sum), w]) ?_ ?_ ?_
      · exact ⟨rfl, 0, _, rfl, rfl⟩
      · rintro x r ρ S ⟨rfl, j, w, hr, rfl⟩
        by_cases hjl : j < ns.length
        · rw [List.drop_eq_getElem_cons (by rw [List.length_range]; exact hjl), List.map_cons, List.getElem_range] at hr
          cases hr
          have hj1 : j + 1 < (ns ++ [0]).length := by bv_omega
          have hsz : (ns.map PyData.int).length + 1 ≤ sizeLine := by rw [List.length_map]; omega
          have ht := take_sum (term92 f ns) ns.length j hjl
          have hn0 : 0 ≤ (ns ++ [0]).getD (j + 1) 0 := by
            have := getD_mem hj1
            rcases List.mem_append.mp this with h | h
            · exact h0 _ h
            · rw [List.mem_singleton.mp h]; exact Int.le_refl _
          by_cases hc : (ns ++ [0]).getD (j + 1) 0 < ns.getD j 0
          · have d2 := decide_eq_true hc
            have hchild := ways_ev f n (ns.take j ++ [ns.getD j 0 - 1] ++ ns.drop (j + 1)) S (by bv_omega) (by
              refine mem_app (mem_app (mem_take h0) (mem_one (by omega))) (mem_drop h0)) (by
              rw [sum_split ns j _ hjl]
              omega)
            have em : (ns.map PyData.int).take j ++ [PyData.int (ns.getD j 0 - 1)] ++ (ns.map PyData.int).drop (j + 1) = (ns.take j ++ [ns.getD j 0 - 1] ++ ns.drop (j + 1)).map PyData.int := by
              rw [List.map_append, List.map_append, List.map_take, List.map_drop]
              rfl
            unfold intT at hchild
            simp_all_arith [idx_intn hjl, app_zero, idx_intn1 hj1, d2, em]
            refine ⟨by omega, by bv_omega, by bv_omega, ?_⟩
            rw [ok_of hchild]
            simp_all_arith [loopQ_next]
            refine ⟨j + 1, .val (.int j), rfl, ?_⟩
            rw [ht, term92, if_pos hc]
          · have d2 := decide_eq_false hc
            simp_all_arith [idx_intn hjl, app_zero, idx_intn1 hj1, d2, loopQ_next]
            refine ⟨by omega, j + 1, .val (.int j), rfl, ?_⟩
            rw [ht, term92, if_neg hc, Int.add_zero]
        · rw [List.drop_of_length_le (by rw [List.length_range]; omega)] at hr
          cases hr
      · rintro ρ S ⟨rfl, j, w, hr, rfl⟩
        have hjl : ns.length ≤ j := by
          by_cases z : ns.length ≤ j
          · exact z
          · rw [List.drop_eq_getElem_cons (by rw [List.length_range]; omega), List.map_cons] at hr
            cases hr
        simp_all_arith
        rw [List.take_of_length_le (by rw [List.length_map, List.length_range]; exact hjl)]
        rfl
end L2.DL

set_option maxHeartbeats 4000000
/-! law_k92: what the law accepts, and the judge. -/
namespace L2.DL
open PySem PyProof.Rows
open Lean in
local macro_rules
  | `(tactic| simp_arith) => `(tactic| simp_arith [])
  | `(tactic| simp_arith [$ls,*]) => `(tactic| simp only [List.cons_append, List.nil_append, Nat.reduceSub, List.replicate, oks_cons, oks_nil, oks_fin, oks_lift, evS, evT, evE, evO, evEs, evAs, ok_bind, ok_pure, ok_some, getRef, getVal, getOwn, List.getElem?_cons_zero, List.getElem?_cons_succ, List.set_cons_zero, List.set_cons_succ, ok_cell0,
    thenQ_next, thenQ_ret, endQ_ret, endQ_next, idxl0, idxl1, idxl2, idxl3, put1, put2, put3, biD, binD, cmpD, len_list, len_tuple, add_int, sub_int, aadd_int, asub_int, int_int, int_bool, tru_bool, tru_int, tru_none, tru_list, tru_tuple, eqD_int, neD_int, ltD_int, leD_int, gtD_int, geD_int, pow18, if_true, if_false, Bool.false_eq_true, Bool.not_false, Bool.not_true, ↓reduceIte, $ls,*])
open Lean in
local macro_rules
  | `(tactic| simp_arith!) => `(tactic| simp_arith! [])
  | `(tactic| simp_arith! [$ls,*]) => `(tactic| simp_arith [isiD, isiT, List.any_cons, List.any_nil, Bool.or_false, Bool.false_or, Bool.true_or, Bool.or_true, List.forall_mem_cons, List.not_mem_nil, false_implies, implies_true, true_and, and_true, and_assoc, isnD, nonD, isNoneD, pl_none, pl_bool, pl_int, orv_int, ok_str_int, ok_add_tuple, ok_add_list, ok_add_str, ok_sli_str, ok_rev_str, ok_len_str, rev_tuple, rev_list, sli_tuple, sli_list, list_list, list_tuple, tup_list, tup_tuple, len_tuple, len_list, cut_to, cut_from, cut_from1, cut_one, cut_1mid, cut_lit1, cut_litf1, $ls,*])
open Lean in
local macro_rules | `(tactic| and_intros) => `(tactic| first | assumption | (exact fun x hx => absurd hx List.not_mem_nil) | (apply mem_take; and_intros) | (apply mem_drop; and_intros) | (apply mem_rev; and_intros) | (apply mem_app <;> and_intros) | (apply mem_one; first | assumption | exact pl_int.mpr (Nat.two_pow_pos _)))
open Lean in
local macro_rules | `(tactic| bv_omega) => `(tactic| (first | omega | (simp only [List.length_append, List.length_take, List.length_drop, List.length_reverse, List.length_cons, List.length_nil] at *; omega)))
open Lean in
local macro_rules
  | `(tactic| simp_all_arith) => `(tactic| simp_all_arith [])
  | `(tactic| simp_all_arith [$ls,*]) => `(tactic| simp_arith! [evG, evIt, evC, iterOf, bindTg, setAll, wipeE, ok_calm, okList, evEs, idxt, List.length_map, List.length_cons, List.length_nil, $ls,*])
theorem range_two (a c : Nat) (ha : a ≤ 1000000) (hc : c ≤ 1000000) : rng2 (.int (a : Int)) (.int (c : Int)) = some ((List.range (c - a)).map fun i => .int ((a + i : Nat) : Int)) := by
  have e0 : rng2 (.int (a : Int)) (.int (c : Int)) = if range62 (a : Int) && range62 (c : Int) then some (rangeN (a : Int) ((c : Int) - a).toNat 1) else none := rfl
  have e1 : ∀ k : Nat, (a : Int) + (k : Nat) * 1 = ((a + k : Nat) : Int) := fun k => by omega
  rw [e0, range62_ok _ (by omega) (by omega), range62_ok _ (by omega) (by omega), Bool.and_self, if_pos rfl, rangeN, show ((c : Int) - a).toNat = c - a by omega]
  simp only [e1]
theorem range_two1 (a c : Nat) (ha : a ≤ 999999) (hc : c ≤ 1000000) : rng2 (.int ((a : Int) + 1)) (.int (c : Int)) = some ((List.range (c - (a + 1))).map fun i => .int ((a + 1 + i : Nat) : Int)) := range_two (a + 1) c (by omega) hc
section
variable {n : Nat} {S : Store}
theorem accepts92 (H : Help tab92) {e : E92} (he : e ∈ tbl92) (h8 : e.1.sum ≤ 8) {b kd : Nat} {d : PyData} (hb : b ≤ 1000000) (hk : kd ≤ 64) (hd : Asked b kd d) :
    callF tab92 (n + 12) "_law_accepts" [.val (intT e.1), .val d] S = .ok (.bool (sameD 3 d (due92 e))) S := by
  obtain ⟨hp, _, hl, hs9, h1⟩ := small_tbl he
  have hz := sizeLine_eq
  have hw : waysI 9 e.1 = e.2.1 := by
    have h := List.all_eq_true.mp ways_tbl e he
    rw [decide_eq_true h8, Bool.not_true, Bool.false_or] at h
    exact of_decide_eq_true h
  have hh : (List.range e.1.length).map (hookRow e.1) = e.2.2 := by
    have h := List.all_eq_true.mp hooks_tbl e he
    rw [decide_eq_true h8, Bool.not_true, Bool.false_or] at h
    exact of_decide_eq_true h
  have hway := ways_ev 9 (n + 2) e.1 S (by omega) (fun x hx => by have := h1 x hx; omega) (by omega)
  rw [hw] at hway
  have hst : Strict 3 (due92 e) := by
    rw [due92]
    have hp2 := pl_tuple.mp hp
    have hp3 := hp2.2 (.tuple (e.2.2.map intT)) (List.mem_cons_of_mem _ (List.mem_cons_of_mem _ List.mem_cons_self))
    refine strict_tuple.mpr ⟨by bv_omega, List.forall_mem_cons.mpr ⟨strict_str.mpr (k_of "cells"), List.forall_mem_cons.mpr ⟨strict_int, mem_one (strict_tuple.mpr ⟨?_, ?_⟩)⟩⟩⟩
    · have := (pl_tuple.mp hp3).1
      omega
    · intro x hx
      have hq := (pl_tuple.mp hp3).2 x hx
      obtain ⟨l, _, rfl⟩ := List.mem_map.mp hx
      refine strict_tuple.mpr ⟨?_, fun y hy => ?_⟩
      · have := (pl_tuple.mp hq).1
        omega
      · obtain ⟨i, _, rfl⟩ := List.mem_map.mp hy
        exact strict_int
  have hsame := law_same_ok H.same hb 3 (due92 e) d (n + 11) kd S (by omega) hst hk hd
  obtain ⟨ns, w, hks⟩ := e
  simp only at hl hs9 h1 h8 hh hway hsame ⊢
  refine pure_ok ?_
  rw [ok_call t92_accepts rfl]
  show Ends (evSs _ (.cons _ _) _ _) _
  refine oks_step (fun ρ' S' => ρ' = [.val (intT ns), .val d, .own (.list []), .no, .no, .no] ∧ S' = S) (by simp_all_arith [fd_law_accepts, stepQ_next]) ?_
  rintro _ S ⟨rfl, rfl⟩
  show Ends (evSs _ (.cons _ _) _ _) _
  refine oks_step (fun ρ' S' => (∃ w3, ρ' = [.val (intT ns), .val d, .own (.list (hks.map intT)), w3, .no, .no]) ∧ S' = S) ?_ ?_
  · unfold intT
    simp_all_arith [fd_law_accepts, range_lt ns.length (by omega)]
    refine oks_forI (fun rest ρ' S' => S' = S ∧ ∃ (j : Nat) (w : Slot), rest = ((List.range ns.length).drop j).map (fun k => PyData.int (k : Nat)) ∧ ρ' = [.val (.tuple (ns.map PyData.int)), .val d, .own (.list (((List.range ns.length).take j).map fun k => intT (hookRow ns k))), w, .no, .no]) ?_ ?_ ?_
    · exact ⟨rfl, 0, _, rfl, rfl⟩
    · rintro x r ρ S ⟨rfl, j, w, hr, rfl⟩
      by_cases hjl : j < ns.length
      · rw [List.drop_eq_getElem_cons (by rw [List.length_range]; exact hjl), List.map_cons, List.getElem_range] at hr
        cases hr
        have hv := h1 _ (getD_mem hjl)
        have hv2 : ns.getD j 0 ≤ 1000000 := by
          have hs2 := sum_split ns j 0 hjl
          have hs3 := sum_nonneg (ns.take j ++ [0] ++ ns.drop (j + 1)) (mem_app (mem_app (mem_take fun x hx => by have := h1 x hx; omega) (mem_one (Int.le_refl _))) (mem_drop fun x hx => by have := h1 x hx; omega))
          omega
        simp_all_arith [ownOf, idx_intn hjl, range_int (ns.getD j 0) (by omega) hv2]
        rw [catM_map]
        refine (ok_catP (fun q : Nat => [PyData.int (ns.getD j 0 - (q : Nat) + ((List.range (ns.length - (j + 1))).filter fun i => decide (((q : Nat) : Int) < ns.getD (j + 1 + i) 0)).length)]) _ ?_).mono ?_
        · intro q hq
          simp_all_arith [idx_intn hjl, range_two1 j ns.length (by omega) (by omega)]
          rw [catM_map]
          refine (ok_catP (fun i : Nat => if decide (((q : Nat) : Int) < ns.getD (j + 1 + i) 0) then [PyData.int ((j + 1 + i : Nat) : Int)] else []) _ ?_).mono ?_
          · intro i hi
            have hi2 := List.mem_range.mp hi
            have hi3 : j + 1 + i < ns.length := by omega
            simp_all_arith [idx_intn hi3]
            cases decide (((q : Nat) : Int) < ns.getD (j + 1 + i) 0) <;> simp_all_arith
          · rintro _ S ⟨rfl, rfl⟩
            rw [flat_ifm, ok_sized]
            have g2 := List.length_filter_le (fun i => decide (((q : Nat) : Int) < ns.getD (j + 1 + i) 0)) (List.range (ns.length - (j + 1)))
            rw [List.length_range] at g2
            refine ⟨by rw [List.length_map]; omega, ?_⟩
            simp_all_arith
        · rintro _ S ⟨rfl, rfl⟩
          rw [flat_one, ok_sized]
          refine ⟨by rw [List.length_map, List.length_range]; omega, ?_⟩
          rw [if_pos (by rw [List.length_take, List.length_range]; omega)]
          simp_all_arith [loopQ_next]
          refine ⟨j + 1, .val (.int j), rfl, ?_⟩
          rw [List.take_succ_eq_append_getElem (by rw [List.length_range]; exact hjl), List.map_append, List.getElem_range]
          have hrow : intT (hookRow ns j) = .tuple ((List.range (ns.getD j 0).toNat).map fun q : Nat => PyData.int (ns.getD j 0 - (q : Nat) + ((List.range (ns.length - (j + 1))).filter fun i => decide (((q : Nat) : Int) < ns.getD (j + 1 + i) 0)).length)) := by
            rw [intT, hookRow, List.map_map]
            rfl
          rw [← hrow]
          rfl
      · rw [List.drop_of_length_le (by rw [List.length_range]; omega)] at hr
        cases hr
    · rintro ρ S ⟨rfl, j, w, hr, rfl⟩
      have hjl : ns.length ≤ j := by
        by_cases z : ns.length ≤ j
        · exact z
        · rw [List.drop_eq_getElem_cons (by rw [List.length_range]; omega), List.map_cons] at hr
          cases hr
      refine ⟨⟨w, ?_⟩, rfl⟩
      rw [List.take_of_length_le (by rw [List.length_range]; exact hjl), ← hh, List.map_map]
      rfl
  rintro _ S ⟨⟨w3, rfl⟩, rfl⟩
  simp_all_arith [fd_law_accepts, ok_of hway]
  exact (ok_of hsame).mpr ⟨rfl, rfl⟩
end
end L2.DL

set_option maxHeartbeats 4000000
/-! law_k92: the judge. -/
namespace L2.DL
open PySem PyProof.Rows
open Lean in
local macro_rules
  | `(tactic| simp_arith) => `(tactic| simp_arith [])
  | `(tactic| simp_arith [$ls,*]) => `(tactic| simp only [List.cons_append, List.nil_append, Nat.reduceSub, List.replicate, oks_cons, oks_nil, oks_fin, oks_lift, evS, evT, evE, evO, evEs, evAs, ok_bind, ok_pure, ok_some, getRef, getVal, getOwn, List.getElem?_cons_zero, List.getElem?_cons_succ, List.set_cons_zero, List.set_cons_succ, ok_cell0,
    thenQ_next, thenQ_ret, endQ_ret, endQ_next, idxl0, idxl1, idxl2, idxl3, put1, put2, put3, biD, binD, cmpD, len_list, len_tuple, add_int, sub_int, aadd_int, asub_int, int_int, int_bool, tru_bool, tru_int, tru_none, tru_list, tru_tuple, eqD_int, neD_int, ltD_int, leD_int, gtD_int, geD_int, pow18, if_true, if_false, Bool.false_eq_true, Bool.not_false, Bool.not_true, ↓reduceIte, $ls,*])
open Lean in
local macro_rules
  | `(tactic| simp_arith!) => `(tactic| simp_arith! [])
  | `(tactic| simp_arith! [$ls,*]) => `(tactic| simp_arith [isiD, isiT, List.any_cons, List.any_nil, Bool.or_false, Bool.false_or, Bool.true_or, Bool.or_true, List.forall_mem_cons, List.not_mem_nil, false_implies, implies_true, true_and, and_true, and_assoc, isnD, nonD, isNoneD, pl_none, pl_bool, pl_int, orv_int, ok_str_int, ok_add_tuple, ok_add_list, ok_add_str, ok_sli_str, ok_rev_str, ok_len_str, rev_tuple, rev_list, sli_tuple, sli_list, list_list, list_tuple, tup_list, tup_tuple, len_tuple, len_list, cut_to, cut_from, cut_from1, cut_one, cut_1mid, cut_lit1, cut_litf1, $ls,*])
open Lean in
local macro_rules | `(tactic| and_intros) => `(tactic| first | assumption | (exact fun x hx => absurd hx List.not_mem_nil) | (apply mem_take; and_intros) | (apply mem_drop; and_intros) | (apply mem_rev; and_intros) | (apply mem_app <;> and_intros) | (apply mem_one; first | assumption | exact pl_int.mpr (Nat.two_pow_pos _)))
open Lean in
local macro_rules | `(tactic| bv_omega) => `(tactic| (first | omega | (simp only [List.length_append, List.length_take, List.length_drop, List.length_reverse, List.length_cons, List.length_nil] at *; omega)))
open Lean in
local macro_rules
  | `(tactic| simp_all_arith) => `(tactic| simp_all_arith [])
  | `(tactic| simp_all_arith [$ls,*]) => `(tactic| simp_arith! [evG, evIt, evC, iterOf, bindTg, setAll, wipeE, ok_calm, okList, evEs, idxt, List.length_map, List.length_cons, List.length_nil, $ls,*])
theorem eqvAll_ints : ∀ (xs : List PyData) (ns : List Int), (xs.all isWhole) = true → PyData.eqvAll xs (ns.map PyData.int) = true → xs = ns.map PyData.int
  | [], [], _, _ => rfl
  | [], n :: ns, _, h => by rw [List.map_cons, PyData.eqvAll] at h; cases h
  | x :: xs, [], _, h => by rw [List.map_nil, PyData.eqvAll] at h; cases h
  | x :: xs, n :: ns, hw, h => by
    rw [List.map_cons, PyData.eqvAll, Bool.and_eq_true] at h
    rw [List.all_cons, Bool.and_eq_true] at hw
    cases x with
    | int i =>
      rw [eqv_int, decide_eq_true_iff] at h
      rw [List.map_cons, eqvAll_ints xs ns hw.2 h.2, h.1]
    | _ => exact absurd hw.1 Bool.false_ne_true
def wholeT : PyData → Bool
  | .tuple xs => xs.all isWhole
  | _ => false
theorem eqvAll_lines : ∀ (ls : List PyData) (hs : List (List Int)), ((ls.filter isTupD).all wholeT) = true → PyData.eqvAll ls (hs.map intT) = true → ls = hs.map intT
  | [], [], _, _ => rfl
  | [], n :: ns, _, h => by rw [List.map_cons, PyData.eqvAll] at h; cases h
  | x :: xs, [], _, h => by rw [List.map_nil, PyData.eqvAll] at h; cases h
  | x :: xs, n :: ns, hw, h => by
    rw [List.map_cons, PyData.eqvAll, Bool.and_eq_true] at h
    rw [List.filter_cons] at hw
    cases x with
    | tuple ys =>
      have hw' : ((PyData.tuple ys :: xs.filter isTupD).all wholeT) = true := hw
      rw [List.all_cons, Bool.and_eq_true] at hw'
      have h1 := h.1
      rw [intT, PyData.eqv] at h1
      rw [List.map_cons, eqvAll_lines xs ns hw'.2 h.2, eqvAll_ints ys n hw'.1 h1]
      rfl
    | _ => (have h1 := h.1; rw [intT, PyData.eqv] at h1; cases h1)
theorem eqv_intsS : ∀ ns : List Int, PyData.eqvAll (ns.map PyData.int) (ns.map PyData.int) = true
  | [] => by rw [List.map_nil, PyData.eqvAll]
  | n :: r => by rw [List.map_cons, PyData.eqvAll, eqv_int, eqv_intsS r, decide_eq_true rfl]; rfl
theorem eqv_linesS : ∀ hs : List (List Int), PyData.eqvAll (hs.map intT) (hs.map intT) = true
  | [] => by rw [List.map_nil, PyData.eqvAll]
  | n :: r => by rw [List.map_cons, PyData.eqvAll, eqv_linesS r, intT, PyData.eqv, eqv_intsS]; rfl
theorem whole_ints (ns : List Int) : wholeT (intT ns) = true := by
  show (ns.map PyData.int).all isWhole = true
  rw [List.all_map, List.all_eq_true]
  exact fun _ _ => rfl
theorem isTold_three {w : Str} {d : PyData} (h : isTold w 3 d = true) : ∃ s x y, d = .tuple [.str s, x, y] ∧ (s == w) = true := by
  cases d with
  | tuple xs =>
    match xs, h with
    | [.str s, x, y], h =>
      simp [isTold] at h
      exact ⟨s, x, y, rfl, by simpa using h⟩
    | [.str s, x], h => simp [isTold] at h
    | [.str s], h => simp [isTold] at h
    | (.str s :: x :: y :: z :: r), h => simp [isTold] at h
    | [], h => exact absurd h Bool.false_ne_true
  | _ => exact absurd h Bool.false_ne_true
theorem none_false {α : Type} (p : α → Bool) : ∀ xs : List α, (!((xs.map p).any fun y => y == false)) = xs.all p
  | [] => rfl
  | x :: r => by
    rw [List.map_cons, List.any_cons, List.all_cons, ← none_false p r]
    cases p x <;> rfl
section
variable {n : Nat} {S : Store}
theorem wholes_ev (xs : List PyData) (hl : xs.length ≤ sizeLine) : callF tab92 (n + 2) "are_wholes" [.val (.tuple xs), .val (.int xs.length)] S = .ok (.bool (xs.all isWhole)) S := by
  refine pure_ok ?_
  rw [ok_call t92_wholes rfl]
  have d1 : decide ((xs.length : Int) = (xs.length : Int)) = true := decide_eq_true rfl
  simp_all_arith [fd_are_wholes, decide_true]
  refine (ok_catP (fun x => [PyData.bool (isWhole x)]) xs ?_).mono ?_
  · intro x hx
    simp_all_arith
    rw [ok_of (is_whole_ev t92_whole)]
    exact ⟨rfl, rfl⟩
  · rintro _ S ⟨rfl, rfl⟩
    rw [flat_one, ok_sized, show (xs.map fun x => PyData.bool (isWhole x)) = (xs.map isWhole).map PyData.bool by rw [List.map_map]; rfl]
    refine ⟨by rw [List.length_map, List.length_map]; omega, ?_⟩
    simp_all_arith [notin_bools, none_false]
theorem judge92 {e : E92} (he : e ∈ tbl92) {b kd : Nat} {d : PyData} (hb : b ≤ 1000000) (hk : kd ≤ 64) (hd : Asked b kd d) :
    callF tab92 (n + 5) "judge_cells" [.val (intT e.1), .val d] S = .ok (.bool (sameD 3 d (due92 e))) S := by
  obtain ⟨hp, _, hl, hs9, h1⟩ := small_tbl he
  have hz := sizeLine_eq
  have hp2 := pl_tuple.mp hp
  have hp3 := hp2.2 (.tuple (e.2.2.map intT)) (List.mem_cons_of_mem _ (List.mem_cons_of_mem _ List.mem_cons_self))
  have hst : Strict 3 (due92 e) := by
    rw [due92]
    refine strict_tuple.mpr ⟨by bv_omega, List.forall_mem_cons.mpr ⟨strict_str.mpr (k_of "cells"), List.forall_mem_cons.mpr ⟨strict_int, mem_one (strict_tuple.mpr ⟨?_, ?_⟩)⟩⟩⟩
    · have := (pl_tuple.mp hp3).1
      omega
    · intro x hx
      have hq := (pl_tuple.mp hp3).2 x hx
      obtain ⟨l, _, rfl⟩ := List.mem_map.mp hx
      refine strict_tuple.mpr ⟨?_, fun y hy => ?_⟩
      · have := (pl_tuple.mp hq).1
        omega
      · obtain ⟨i, _, rfl⟩ := List.mem_map.mp hy
        exact strict_int
  have iff := same_iff 3 d (due92 e) hst
  have no : ∀ {b : Bool}, (d = due92 e → b = true) → b = false → sameD 3 d (due92 e) = false := by
    intro b h hb
    rw [Bool.eq_false_iff]
    intro z
    have := h (iff.mp z)
    rw [hb] at this
    cases this
  have it : ∀ S, callF tab92 (n + 4) "is_told" [.val d, .val (.str (Str.ofString "cells")), .val (.int 3)] S = .ok (.bool (isTold (Str.ofString "cells") 3 d)) S := fun S => is_told_ev (c := 3) t92_told (by decide) (k_of "cells") hk hd
  refine pure_ok ?_
  rw [ok_call t92_judge rfl]
  show Ends (evSs _ (.cons _ _) _ _) _
  refine oks_step (fun ρ' S' => ρ' = [.val (intT e.1), .val d, .val (due92 e), .no] ∧ S' = S) ?_ ?_
  · simp_all_arith [fd_judge_cells]
    rw [ok_of (cells_tbl n S he)]
    exact ⟨rfl, rfl⟩
  rintro _ S ⟨rfl, rfl⟩
  have i1 := it S
  cases e1 : isTold (Str.ofString "cells") 3 d with
  | false =>
    rw [e1] at i1
    rw [no (b := isTold (Str.ofString "cells") 3 d) (fun z => by rw [z, due92]; show (decide (2 + 1 = 3) && _) = true; rw [beq_self_eq_true]; rfl) e1]
    simp_all_arith [fd_judge_cells, ok_of i1]
  | true =>
    rw [e1] at i1
    obtain ⟨s, x, y, rfl, hsw⟩ := isTold_three e1
    have hd1 := hd.pl
    cases x with
    | int i =>
      cases y with
      | tuple ls =>
        cases kd with
        | zero => exact (pl_tuple0 hd1).elim
        | succ kd =>
        cases kd with
        | zero => exact (pl_tuple0 ((pl_tuple.mp hd1).2 (.tuple ls) (List.mem_cons_of_mem _ (List.mem_cons_of_mem _ List.mem_cons_self)))).elim
        | succ kd =>
        have hls := pl_tuple.mp ((pl_tuple.mp hd1).2 (.tuple ls) (List.mem_cons_of_mem _ (List.mem_cons_of_mem _ List.mem_cons_self)))
        have ix2 : ∀ a b c : PyData, idxD (.list [a, b, c]) (.int 2) = some c := fun _ _ _ => rfl
        simp_all_arith [fd_judge_cells, ok_of i1, ok_of (is_whole_ev t92_whole), isWhole, ix2]
        refine (ok_catP (fun l => if isTupD l then [PyData.bool (wholeT l)] else []) ls ?_).mono ?_
        · intro l hl
          cases l with
          | tuple xs =>
            have hx : xs.length ≤ b := by
              have q := hls.2 _ hl
              cases kd with
              | zero => exact (pl_tuple0 q).elim
              | succ kd => exact (pl_tuple.mp q).1
            simp_all_arith [fd_judge_cells]
            rw [ok_of (wholes_ev xs (by omega))]
            exact ⟨rfl, rfl⟩
          | _ => simp_all_arith [fd_judge_cells]; rfl
        · rintro _ S ⟨rfl, rfl⟩
          rw [flat_ifm, ok_sized, show ((ls.filter isTupD).map fun x => PyData.bool (wholeT x)) = ((ls.filter isTupD).map wholeT).map PyData.bool by rw [List.map_map]; rfl]
          have q2 := List.length_filter_le isTupD ls
          refine ⟨by rw [List.length_map, List.length_map]; omega, ?_⟩
          have ea := none_false wholeT (ls.filter isTupD)
          have key : ((ls.filter isTupD).all wholeT && PyData.eqv (.tuple [.str s, .int i, .tuple ls]) (due92 e)) = sameD 3 (.tuple [.str s, .int i, .tuple ls]) (due92 e) := by
            rw [Bool.eq_iff_iff, iff, Bool.and_eq_true]
            constructor
            · rintro ⟨z1, z2⟩
              rw [due92, PyData.eqv, PyData.eqvAll, PyData.eqvAll, PyData.eqvAll, PyData.eqvAll, Bool.and_eq_true, Bool.and_eq_true, Bool.and_true, eqv_int, decide_eq_true_iff] at z2
              have z3 := z2.2.2
              rw [PyData.eqv] at z3
              rw [due92, eqvAll_lines ls _ z1 z3, z2.2.1, eq_of_beq hsw]
            · intro z
              have z' := z
              rw [due92] at z
              injection z with z
              injection z with z1 z
              injection z with z2 z
              injection z with z3 z
              injection z3 with z3
              refine ⟨?_, ?_⟩
              · rw [z3, List.all_eq_true]
                intro l hl
                have hl2 := (List.mem_filter.mp hl).1
                obtain ⟨q, _, rfl⟩ := List.mem_map.mp hl2
                exact whole_ints q
              · rw [z', due92, PyData.eqv, PyData.eqvAll, PyData.eqvAll, PyData.eqvAll, PyData.eqvAll, eqv_int, decide_eq_true rfl, PyData.eqv, PyData.eqv, eqv_linesS, beq_self_eq_true]
                rfl
          have sh1 := hd1.shaped (by omega)
          have sh2 := hp.shaped (by decide)
          cases ew : (ls.filter isTupD).all wholeT with
          | false =>
            rw [ew] at ea key
            simp_all_arith [notin_bools, ea]
            rw [← key]
            rfl
          | true =>
            rw [ew] at ea key
            simp_all_arith [notin_bools, ea, ok_eq_sh sh1 sh2]
            rw [← key]
            rfl
      | _ =>
        have ix2 : ∀ a b c : PyData, idxD (.list [a, b, c]) (.int 2) = some c := fun _ _ _ => rfl
        rw [no (b := false) (fun z => by rw [due92] at z; injection z with z; injection z with z1 z; injection z with z2 z; injection z with z3 z; cases z3) rfl]
        simp_all_arith [fd_judge_cells, ok_of i1, ok_of (is_whole_ev t92_whole), isWhole, ix2]
    | _ =>
      rw [no (b := false) (fun z => by rw [due92] at z; injection z with z; injection z with z1 z; injection z with z2 z; cases z2) rfl]
      simp_all_arith [fd_judge_cells, ok_of i1, ok_of (is_whole_ev t92_whole), isWhole]
end
end L2.DL

set_option maxHeartbeats 4000000
/-! law_k92: drawn rows, the law. -/
namespace L2.DL
open PySem PyProof.Rows
open Lean in
local macro_rules
  | `(tactic| simp_arith) => `(tactic| simp_arith [])
  | `(tactic| simp_arith [$ls,*]) => `(tactic| simp only [List.cons_append, List.nil_append, Nat.reduceSub, List.replicate, oks_cons, oks_nil, oks_fin, oks_lift, evS, evT, evE, evO, evEs, evAs, ok_bind, ok_pure, ok_some, getRef, getVal, getOwn, List.getElem?_cons_zero, List.getElem?_cons_succ, List.set_cons_zero, List.set_cons_succ, ok_cell0,
    thenQ_next, thenQ_ret, endQ_ret, endQ_next, idxl0, idxl1, idxl2, idxl3, put1, put2, put3, biD, binD, cmpD, len_list, len_tuple, add_int, sub_int, aadd_int, asub_int, int_int, int_bool, tru_bool, tru_int, tru_none, tru_list, tru_tuple, eqD_int, neD_int, ltD_int, leD_int, gtD_int, geD_int, pow18, if_true, if_false, Bool.false_eq_true, Bool.not_false, Bool.not_true, ↓reduceIte, $ls,*])
open Lean in
local macro_rules
  | `(tactic| simp_arith!) => `(tactic| simp_arith! [])
  | `(tactic| simp_arith! [$ls,*]) => `(tactic| simp_arith [isiD, isiT, List.any_cons, List.any_nil, Bool.or_false, Bool.false_or, Bool.true_or, Bool.or_true, List.forall_mem_cons, List.not_mem_nil, false_implies, implies_true, true_and, and_true, and_assoc, isnD, nonD, isNoneD, pl_none, pl_bool, pl_int, orv_int, ok_str_int, ok_add_tuple, ok_add_list, ok_add_str, ok_sli_str, ok_rev_str, ok_len_str, rev_tuple, rev_list, sli_tuple, sli_list, list_list, list_tuple, tup_list, tup_tuple, len_tuple, len_list, cut_to, cut_from, cut_from1, cut_one, cut_1mid, cut_lit1, cut_litf1, $ls,*])
open Lean in
local macro_rules | `(tactic| and_intros) => `(tactic| first | assumption | (exact fun x hx => absurd hx List.not_mem_nil) | (apply mem_take; and_intros) | (apply mem_drop; and_intros) | (apply mem_rev; and_intros) | (apply mem_app <;> and_intros) | (apply mem_one; first | assumption | exact pl_int.mpr (Nat.two_pow_pos _)))
open Lean in
local macro_rules | `(tactic| bv_omega) => `(tactic| (first | omega | (simp only [List.length_append, List.length_take, List.length_drop, List.length_reverse, List.length_cons, List.length_nil] at *; omega)))
open Lean in
local macro_rules
  | `(tactic| simp_all_arith) => `(tactic| simp_all_arith [])
  | `(tactic| simp_all_arith [$ls,*]) => `(tactic| simp_arith! [evG, evIt, evC, iterOf, bindTg, setAll, wipeE, ok_calm, okList, evEs, idxt, List.length_map, List.length_cons, List.length_nil, $ls,*])
def partsL : Nat → Nat → Nat → List (List Int)
  | 0, n, _ => if n = 0 then [[]] else []
  | f + 1, n, m => if n = 0 then [[]] else (List.range (min n m)).flatMap fun k => (partsL f (n - (k + 1)) (k + 1)).map fun l => ((k + 1 : Nat) : Int) :: l
theorem parts_all : ((List.range 9).all fun n => (partsL 9 n n).all fun l => tbl92.any fun e => decide (e.1 = l)) = true := by
  decide +kernel
theorem parts_mem : ∀ (l : List Int) (f n m : Nat), l.length ≤ f → (∀ x ∈ l, 1 ≤ x) → l.Pairwise (fun a b => b ≤ a) → l.sum = n → (∀ x ∈ l, x ≤ m) → l ∈ partsL f n m
  | [], 0, n, m, _, _, _, hs, _ => by
    have : n = 0 := by simpa using hs.symm
    rw [partsL, if_pos this]
    exact List.mem_cons_self
  | [], f + 1, n, m, _, _, _, hs, _ => by
    have : n = 0 := by simpa using hs.symm
    rw [partsL, if_pos this]
    exact List.mem_cons_self
  | x :: r, 0, n, m, hl, _, _, _, _ => absurd hl (by simp)
  | x :: r, f + 1, n, m, hl, h1, hp, hs, hm => by
    have hx1 := h1 x List.mem_cons_self
    have hxm := hm x List.mem_cons_self
    have hr0 := sum_nonneg r fun y hy => by have := h1 y (List.mem_cons_of_mem _ hy); omega
    rw [List.sum_cons] at hs
    rw [partsL, if_neg (by omega)]
    refine List.mem_flatMap.mpr ⟨x.toNat - 1, List.mem_range.mpr (by omega), List.mem_map.mpr ⟨r, ?_, ?_⟩⟩
    · refine parts_mem r f _ _ (by simpa using hl) (fun y hy => h1 y (List.mem_cons_of_mem _ hy)) (List.pairwise_cons.mp hp).2 (by omega) fun y hy => ?_
      have := (List.pairwise_cons.mp hp).1 y hy
      omega
    · rw [show ((x.toNat - 1 + 1 : Nat) : Int) = x by omega]
theorem len_le_sum : ∀ l : List Int, (∀ x ∈ l, 1 ≤ x) → (l.length : Int) ≤ l.sum
  | [], _ => Int.le_refl _
  | x :: r, h => by
    have h1 := h x List.mem_cons_self
    have h2 := len_le_sum r fun y hy => h y (List.mem_cons_of_mem _ hy)
    rw [List.length_cons, List.sum_cons]
    omega
theorem le_sum : ∀ l : List Int, (∀ x ∈ l, 1 ≤ x) → ∀ x ∈ l, x ≤ l.sum
  | [], _ => fun x hx => absurd hx List.not_mem_nil
  | y :: r, h => by
    have h1 := h y List.mem_cons_self
    have h0 := sum_nonneg r fun z hz => by have := h z (List.mem_cons_of_mem _ hz); omega
    have h2 := le_sum r fun z hz => h z (List.mem_cons_of_mem _ hz)
    rw [List.sum_cons]
    refine List.forall_mem_cons.mpr ⟨by omega, fun x hx => by have := h2 x hx; omega⟩
theorem in_tbl {l : List Int} (h1 : ∀ x ∈ l, 1 ≤ x) (hp : l.Pairwise (fun a b => b ≤ a)) (hs : l.sum ≤ 8) : ∃ e ∈ tbl92, e.1 = l := by
  have hl := len_le_sum l h1
  have h0 := sum_nonneg l fun y hy => by have := h1 y hy; omega
  have hm := parts_mem l 9 l.sum.toNat l.sum.toNat (by omega) h1 hp (by omega) (fun x hx => by have := le_sum l h1 x hx; omega)
  have ha := List.all_eq_true.mp (List.all_eq_true.mp parts_all l.sum.toNat (List.mem_range.mpr (by omega))) l hm
  obtain ⟨e, he, h⟩ := List.any_eq_true.mp ha
  exact ⟨e, he, of_decide_eq_true h⟩
theorem sort_ints {ns : List Int} (hl : ns.length ≤ sizeLine) : sortedD (.list (ns.map PyData.int)) = some (.list ((ns.mergeSort fun a b => decide (a ≤ b)).map PyData.int)) := by
  have h1 : sortOk (ns.map PyData.int) = true := by
    unfold sortOk
    simp only [Bool.and_eq_true]
    refine ⟨⟨⟨?_, ?_⟩, ?_⟩, ?_⟩
    · rw [List.all_eq_true]
      intro x hx
      obtain ⟨i, _, rfl⟩ := List.mem_map.mp hx
      rw [List.all_eq_true]
      intro y hy
      obtain ⟨j, _, rfl⟩ := List.mem_map.mp hy
      show PySem.W.alike (.int i) (.int j) = true
      simp only [PySem.W.alike]
    · rw [List.all_eq_true]
      intro x hx
      obtain ⟨i, _, rfl⟩ := List.mem_map.mp hx
      rfl
    · rw [Bool.or_eq_true]
      right
      rw [List.all_eq_true]
      intro x hx
      obtain ⟨i, _, rfl⟩ := List.mem_map.mp hx
      rfl
    · rw [List.length_map]
      exact decide_eq_true hl
  show (if sortOk (ns.map PyData.int) then some (PyData.list ((ns.map PyData.int).mergeSort dle)) else none) = _
  rw [h1, if_pos rfl, List.map_mergeSort (s := dle) (f := PyData.int)]
  intro a _ c _
  show decide (a ≤ c) = !PySem.W.dataLt (.int c) (.int a)
  rw [PySem.W.dataLt_int]
  by_cases h : a ≤ c
  · rw [decide_eq_true h, decide_eq_false (by omega)]
    rfl
  · rw [decide_eq_false h, decide_eq_true (by omega)]
    rfl
theorem perm_sum {l1 l2 : List Int} (h : l1.Perm l2) : l1.sum = l2.sum := by
  induction h with
  | nil => rfl
  | cons x _ ih => rw [List.sum_cons, List.sum_cons, ih]
  | swap x y l =>
    simp only [List.sum_cons]
    omega
  | trans _ _ h1 h2 => rw [h1, h2]
theorem rev_sum (l : List Int) : l.reverse.sum = l.sum := perm_sum (List.reverse_perm l)
section
variable {n : Nat} {S : Store}
theorem falling_ok (H : Help tab92) {t : Nat} (ht : t ≤ 8) (hs : StOk S) :
    Ok (callF tab92 (n + 2) "_law_falling" [.ref 0, .val (.int t)]) S (fun r S' => (∃ e ∈ tbl92, e.1.sum ≤ 8 ∧ r = intT e.1) ∧ StOk S') := by
  have hz := sizeLine_eq
  rw [ok_call t92_falling rfl]
  show Ends (evSs _ (.cons _ _) _ _) _
  refine oks_step (fun ρ' S' => ρ' = [.ref 0, .val (.int t), .own (.list []), .no, .no] ∧ StOk S') (by simp_all_arith [fd_law_falling, stepQ_next]; exact hs) ?_
  rintro _ S ⟨rfl, hs⟩
  show Ends (evSs _ (.cons _ _) _ _) _
  refine oks_step (fun ρ' S' => ρ' = [.ref 0, .val (.int t), .own (.list []), .val (.int t), .no] ∧ StOk S') (by simp_all_arith [fd_law_falling, stepQ_next]; exact hs) ?_
  rintro _ S ⟨rfl, hs⟩
  show Ends (evSs _ (.cons _ _) _ _) _
  refine oks_step (fun ρ' S' => ∃ (ns : List Int) (w4 : Slot), ρ' = [.ref 0, .val (.int t), .own (.list (ns.map PyData.int)), .val (.int 0), w4] ∧ StOk S' ∧ (∀ x ∈ ns, 1 ≤ x) ∧ ns.sum = t) ?_ ?_
  · show Ends (whileS _ _ whileFuel _ _) _
    refine oks_while (fun m ρ S => ∃ (ns : List Int) (w4 : Slot), ρ = [.ref 0, .val (.int t), .own (.list (ns.map PyData.int)), .val (.int (m : Nat)), w4] ∧ StOk S ∧ (∀ x ∈ ns, 1 ≤ x) ∧ ns.sum + m = t) _ ?_ whileFuel t _ S (by unfold whileFuel; omega) ⟨[], _, rfl, hs, fun x hx => absurd hx List.not_mem_nil, by simp⟩
    rintro m ρ S ⟨ns, w4, rfl, hs, h1, h2⟩
    have hl := len_le_sum ns h1
    by_cases hm : 0 < (m : Int)
    · have d1 := decide_eq_true hm
      simp_all_arith [d1]
      refine (law_next_ok H.next (L := m) (by omega) (by omega) hs).mono ?_
      rintro _ S ⟨q, hq, rfl, hs⟩
      simp_all_arith [ownOf]
      rw [if_pos (by omega)]
      simp_all_arith [loopQ_next]
      refine ⟨m - (1 + q), by omega, ns ++ [1 + (q : Int)], .val (.int (1 + (q : Int))), ?_, hs, mem_app h1 (mem_one (by omega)), ?_⟩
      · rw [List.map_append, show (m : Int) - (1 + (q : Int)) = ((m - (1 + q) : Nat) : Int) by omega]
        rfl
      · rw [List.sum_append]
        simp
        omega
    · have d1 := decide_eq_false hm
      have hm0 : m = 0 := by omega
      subst hm0
      simp_all_arith [d1]
      exact ⟨ns, w4, rfl, hs, h1, by simpa using h2⟩
  rintro _ S ⟨ns, w4, rfl, hs, h1, h2⟩
  have hl := len_le_sum ns h1
  have hso := sort_ints (ns := ns) (by omega)
  simp_all_arith [fd_law_falling, hso]
  have hperm := List.mergeSort_perm ns (fun a b => decide (a ≤ b))
  have hsorted := List.pairwise_mergeSort (le := fun a b : Int => decide (a ≤ b)) (fun a b c h1 h2 => by simp only [decide_eq_true_eq] at *; omega) (fun a b => by simp only [Bool.or_eq_true, decide_eq_true_eq]; omega) ns
  have hsum : ((ns.mergeSort fun a b => decide (a ≤ b)).reverse).sum = t := by
    rw [rev_sum, perm_sum hperm, h2]
  obtain ⟨e, he, h⟩ := in_tbl (l := (ns.mergeSort fun a b => decide (a ≤ b)).reverse) (fun x hx => h1 x (hperm.mem_iff.mp (List.mem_reverse.mp hx))) (by
    rw [List.pairwise_reverse]
    exact hsorted.imp fun {a b} h => by simpa using h) (by omega)
  refine ⟨⟨e, he, by rw [h]; omega, ?_⟩, hs⟩
  rw [h, intT, List.map_reverse]
end
end L2.DL

set_option maxHeartbeats 4000000
/-! law_k92: the law. -/
namespace L2.DL
open PySem PyProof.Rows
open Lean in
local macro_rules
  | `(tactic| simp_arith) => `(tactic| simp_arith [])
  | `(tactic| simp_arith [$ls,*]) => `(tactic| simp only [List.cons_append, List.nil_append, Nat.reduceSub, List.replicate, oks_cons, oks_nil, oks_fin, oks_lift, evS, evT, evE, evO, evEs, evAs, ok_bind, ok_pure, ok_some, getRef, getVal, getOwn, List.getElem?_cons_zero, List.getElem?_cons_succ, List.set_cons_zero, List.set_cons_succ, ok_cell0,
    thenQ_next, thenQ_ret, endQ_ret, endQ_next, idxl0, idxl1, idxl2, idxl3, put1, put2, put3, biD, binD, cmpD, len_list, len_tuple, add_int, sub_int, aadd_int, asub_int, int_int, int_bool, tru_bool, tru_int, tru_none, tru_list, tru_tuple, eqD_int, neD_int, ltD_int, leD_int, gtD_int, geD_int, pow18, if_true, if_false, Bool.false_eq_true, Bool.not_false, Bool.not_true, ↓reduceIte, $ls,*])
open Lean in
local macro_rules
  | `(tactic| simp_arith!) => `(tactic| simp_arith! [])
  | `(tactic| simp_arith! [$ls,*]) => `(tactic| simp_arith [isiD, isiT, List.any_cons, List.any_nil, Bool.or_false, Bool.false_or, Bool.true_or, Bool.or_true, List.forall_mem_cons, List.not_mem_nil, false_implies, implies_true, true_and, and_true, and_assoc, isnD, nonD, isNoneD, pl_none, pl_bool, pl_int, orv_int, ok_str_int, ok_add_tuple, ok_add_list, ok_add_str, ok_sli_str, ok_rev_str, ok_len_str, rev_tuple, rev_list, sli_tuple, sli_list, list_list, list_tuple, tup_list, tup_tuple, len_tuple, len_list, cut_to, cut_from, cut_from1, cut_one, cut_1mid, cut_lit1, cut_litf1, $ls,*])
open Lean in
local macro_rules | `(tactic| and_intros) => `(tactic| first | assumption | (exact fun x hx => absurd hx List.not_mem_nil) | (apply mem_take; and_intros) | (apply mem_drop; and_intros) | (apply mem_rev; and_intros) | (apply mem_app <;> and_intros) | (apply mem_one; first | assumption | exact pl_int.mpr (Nat.two_pow_pos _)))
open Lean in
local macro_rules | `(tactic| bv_omega) => `(tactic| (first | omega | (simp only [List.length_append, List.length_take, List.length_drop, List.length_reverse, List.length_cons, List.length_nil] at *; omega)))
open Lean in
local macro_rules
  | `(tactic| simp_all_arith) => `(tactic| simp_all_arith [])
  | `(tactic| simp_all_arith [$ls,*]) => `(tactic| simp_arith! [evG, evIt, evC, iterOf, bindTg, setAll, wipeE, ok_calm, okList, evEs, idxt, List.length_map, List.length_cons, List.length_nil, $ls,*])
theorem small20 : (tbl92.all fun e => isPl 20 3 (due92 e)) = true := by
  decide +kernel
theorem fall_zero (ns : List Int) : fallB (ns ++ [0]) = false := by
  rw [fallB, List.all_append]
  show ((ns.all _ && (decide ((1 : Int) ≤ 0) && true)) && _) = false
  rw [decide_eq_false (by decide : ¬ (1 : Int) ≤ 0), Bool.false_and, Bool.and_false, Bool.false_and]
section
variable {n : Nat} {S : Store}
theorem law92 (H : Help tab92) (ns : List Int) (hl : ns.length ≤ 63) :
    Ok (callF tab92 (n + 20) "law" [.val (.list (ns.map PyData.int))]) [] (fun r _ => r = .bool true) := by
  have hz := sizeLine_eq
  rw [ok_call t92_law rfl]
  show Ends (evSs _ (.cons _ _) _ _) _
  refine oks_step (fun ρ' S' => ρ' = [.val (.list (ns.map PyData.int)), .ref 0, .no, .no, .no, .no, .no, .no, .no] ∧ StOk S') ?_ ?_
  · simp_all_arith [fd_law, stepQ_next]
    exact ⟨ns, 0, 0, 1, Nat.zero_le _, rfl⟩
  rintro _ S ⟨rfl, hs⟩
  show Ends (evSs _ (.cons _ _) _ _) _
  refine oks_step (fun ρ' S' => ρ' = [.val (.list (ns.map PyData.int)), .ref 0, .val (.list []), .no, .no, .no, .no, .no, .no] ∧ StOk S') ?_ ?_
  · simp_all_arith [fd_law, stepQ_next]
    exact hs
  rintro _ S ⟨rfl, hs⟩
  show Ends (evSs _ (.cons _ _) _ _) _
  refine oks_step (fun ρ' S' => True) ?_ ?_
  · have r3 : rng1 (.int 3) = some [.int 0, .int 1, .int 2] := rfl
    simp_all_arith [fd_law, r3]
    refine oks_forI (fun rest ρ' S' => ∃ (seen : List PyData) (w3 w4 w5 w6 w7 w8 : Slot), ρ' = [.val (.list (ns.map PyData.int)), .ref 0, .val (.list seen), w3, w4, w5, w6, w7, w8] ∧ StOk S' ∧ seen.length + 3 * rest.length ≤ 9 ∧ ∀ x ∈ seen, Pl 100 3 x) ?_ ?_ ?_
    · exact ⟨[], _, _, _, _, _, _, rfl, hs, by bv_omega, fun x hx => absurd hx List.not_mem_nil⟩
    · rintro x r ρ S ⟨seen, w3, w4, w5, w6, w7, w8, rfl, hs, hlen, hseen⟩
      rw [List.length_cons] at hlen
      show Ends (evSs _ (.cons _ _) _ _) _
      refine oks_step (fun ρ' S' => ∃ e ∈ tbl92, e.1.sum ≤ 8 ∧ ρ' = [.val (.list (ns.map PyData.int)), .ref 0, .val (.list seen), .val x, .val (intT e.1), w5, w6, w7, w8] ∧ StOk S') ?_ ?_
      · simp_all_arith
        refine (law_next_ok H.next (L := 9) (by decide) (by decide) hs).mono ?_
        rintro _ S ⟨q, hq, rfl, hs⟩
        refine (falling_ok (n := n + 17) H (t := q) (by omega) hs).mono ?_
        rintro _ S ⟨⟨e, he, h8, rfl⟩, hs⟩
        exact ⟨e, he, h8, rfl, hs⟩
      rintro _ S ⟨e, he, h8, rfl, hs⟩
      obtain ⟨pw, _, hel, _, _⟩ := small_tbl he
      have pw20 : Pl 20 3 (due92 e) := isPl_pl (List.all_eq_true.mp small20 e he)
      show Ends (evSs _ (.cons _ _) _ _) _
      refine oks_step (fun ρ' S' => ρ' = [.val (.list (ns.map PyData.int)), .ref 0, .val (.list seen), .val x, .val (intT e.1), .val (due92 e), w6, w7, w8] ∧ StOk S') ?_ ?_
      · simp_all_arith
        rw [ok_of (cells_tbl (n + 15) S he)]
        exact ⟨rfl, hs⟩
      rintro _ S ⟨rfl, hs⟩
      show Ends (evSs _ (.cons _ _) _ _) _
      refine oks_step (fun ρ' S' => ∃ x8, Pl 100 3 x8 ∧ ρ' = [.val (.list (ns.map PyData.int)), .ref 0, .val (.list seen), .val x, .val (intT e.1), .val (due92 e), .val x8, w7, w8] ∧ StOk S') ?_ ?_
      · simp_all_arith
        refine (told_near92 (n := n + 14) H he h8 hs).mono ?_
        rintro x8 S ⟨p8, hs⟩
        exact ⟨x8, p8, rfl, hs⟩
      rintro _ S ⟨x8, p8, rfl, hs⟩
      have ja : ∀ (d : PyData) (S : Store), Asked 440 4 d → callF tab92 (n + 19) "judge_cells" [.val (intT e.1), .val d] S = .ok (.bool (sameD 3 d (due92 e))) S :=
        fun d S hd => judge92 (n := n + 14) he (by decide) (by decide) hd
      have aa : ∀ (d : PyData) (S : Store), Asked 440 4 d → callF tab92 (n + 19) "_law_accepts" [.val (intT e.1), .val d] S = .ok (.bool (sameD 3 d (due92 e))) S :=
        fun d S hd => accepts92 (n := n + 7) H he h8 (by decide) (by decide) hd
      have up : ∀ {d : PyData}, Pl 100 3 d → Asked 440 4 d := fun h => .inl (h.mono (by decide) (by decide))
      have acc : sameD 3 (due92 e) (due92 e) = true := by
        have hst : Strict 3 (due92 e) := by
          have hp3 := (pl_tuple.mp pw).2 (.tuple (e.2.2.map intT)) (List.mem_cons_of_mem _ (List.mem_cons_of_mem _ List.mem_cons_self))
          refine strict_tuple.mpr ⟨by bv_omega, List.forall_mem_cons.mpr ⟨strict_str.mpr (k_of "cells"), List.forall_mem_cons.mpr ⟨strict_int, mem_one (strict_tuple.mpr ⟨?_, ?_⟩)⟩⟩⟩
          · have := (pl_tuple.mp hp3).1
            omega
          · intro x hx
            have hq := (pl_tuple.mp hp3).2 x hx
            obtain ⟨l, _, rfl⟩ := List.mem_map.mp hx
            refine strict_tuple.mpr ⟨?_, fun y hy => ?_⟩
            · have := (pl_tuple.mp hq).1
              omega
            · obtain ⟨i, _, rfl⟩ := List.mem_map.mp hy
              exact strict_int
        exact (same_iff 3 _ _ hst).mpr rfl
      show Ends (evSs _ (.cons _ _) _ _) _
      refine oks_step (fun ρ' S' => ρ' = [.val (.list (ns.map PyData.int)), .ref 0, .val (.list seen), .val x, .val (intT e.1), .val (due92 e), .val x8, w7, w8] ∧ StOk S') ?_ ?_
      · have e1 := aa _ S (up pw)
        have e2 := ja _ S (up pw)
        rw [acc] at e1 e2
        simp_all_arith [ok_of e1, ok_of e2, L2.DL.notB, stepQ_next, decide_true]
        exact hs
      rintro _ S ⟨rfl, hs⟩
      show Ends (evSs _ (.cons _ _) _ _) _
      refine oks_step (fun ρ' S' => ρ' = [.val (.list (ns.map PyData.int)), .ref 0, .val (.list seen), .val x, .val (intT e.1), .val (due92 e), .val x8, w7, w8] ∧ StOk S') ?_ ?_
      · have u1 : callF tab92 (n + 19) "_law_unfit" [.val (.tuple [.int 1, .int 2])] S = .ok (.bool true) S := unfit_ok (n := n + 15) (ns := [1, 2]) (by decide) (by decide)
        have u2 : callF tab92 (n + 19) "_law_unfit" [.val (intT (e.1 ++ [0]))] S = .ok (.bool true) S := unfit_ok (n := n + 15) (by bv_omega) (fall_zero e.1)
        unfold intT at u2 ⊢
        simp_all_arith [ok_of u1, stepQ_next, app_zero]
        refine ⟨by omega, ?_⟩
        rw [ok_of u2]
        simp_all_arith [stepQ_next]
        exact hs
      rintro _ S ⟨rfl, hs⟩
      show Ends (evSs _ (.cons _ _) _ _) _
      refine oks_step (fun ρ' S' => ∃ seen : List PyData, ρ' = [.val (.list (ns.map PyData.int)), .ref 0, .val (.list seen), .val x, .val (intT e.1), .val (due92 e), .val x8, w7, w8] ∧ StOk S' ∧ seen.length + 3 * r.length ≤ 9 ∧ ∀ x ∈ seen, Pl 100 3 x) ?_ ?_
      · simp_all_arith [stepQ_next]
        have hc := cutL_len (xs := seen) (l := some (-3)) (h := none)
        refine ⟨by bv_omega, _, rfl, hs, by bv_omega, mem_app (cutL_mem hseen) (List.forall_mem_cons.mpr ⟨pw, mem_one p8⟩)⟩
      rintro _ S ⟨seen, rfl, hs, hlen, hseen⟩
      show Ends (evSs _ (.cons _ _) _ _) _
      refine oks_step (fun ρ' S' => ∃ w7 w8, ρ' = [.val (.list (ns.map PyData.int)), .ref 0, .val (.list seen), .val x, .val (intT e.1), .val (due92 e), .val x8, w7, w8] ∧ StOk S') ?_ ?_
      · have re : rng1 (.int (8 + (seen.length : Int))) = some ((List.range (8 + seen.length)).map fun k => .int (k : Nat)) := range_lt (8 + seen.length) (by omega)
        simp_all_arith [re]
        refine oks_forI (fun rest ρ' S' => (∃ w7 w8, ρ' = [.val (.list (ns.map PyData.int)), .ref 0, .val (.list seen), .val x, .val (intT e.1), .val (due92 e), .val x8, w7, w8]) ∧ StOk S' ∧ ∀ y ∈ rest, ∃ k : Nat, k < 8 + seen.length ∧ y = .int k) ?_ ?_ ?_
        · refine ⟨⟨_, _, rfl⟩, hs, fun y hy => ?_⟩
          obtain ⟨k, hk, rfl⟩ := List.mem_map.mp hy
          exact ⟨k, List.mem_range.mp hk, rfl⟩
        · rintro y r2 ρ S ⟨⟨w7, w8, rfl⟩, hs, hr⟩
          obtain ⟨k, hk, rfl⟩ := hr y List.mem_cons_self
          show Ends (evSs _ (.cons _ _) _ _) _
          refine oks_step (fun ρ' S' => ∃ d, Asked 440 4 d ∧ ρ' = [.val (.list (ns.map PyData.int)), .ref 0, .val (.list seen), .val x, .val (intT e.1), .val (due92 e), .val x8, .val (.int k), .val d] ∧ StOk S') ?_ ?_
          · by_cases h8' : k < 8
            · have d8 : decide ((k : Int) < 8) = true := decide_eq_true (by omega)
              simp_all_arith [d8]
              refine (law_odd_ok (b := 20) (k := 2) (m := n + 19) (S := S) H.next H.numbers H.exchanged H.cut H.turned H.changed H.odd (by decide) (by decide) (by omega) (by decide) (by decide) (by show 0 < 3; decide) pw20 hs).mono ?_
              rintro d S ⟨hd, hs⟩
              exact ⟨d, hd, rfl, hs⟩
            · have d8 : decide ((k : Int) < 8) = false := decide_eq_false (by omega)
              have i8 : (k : Int) - 8 = ((k - 8 : Nat) : Int) := by omega
              simp_all_arith [d8, i8]
              rw [ok_idx (show k - 8 < seen.length by omega)]
              exact ⟨_, up (hseen _ (List.getElem_mem _)), rfl, hs⟩
          rintro _ S ⟨d, hd, rfl, hs⟩
          have e1 := aa _ S hd
          have e2 := ja _ S hd
          simp_all_arith [ok_of e1, ok_of e2, ok_of (law_same_bool (n := n + 18) H.same _ _), beq_self_eq_true, loopQ_next]
          exact ⟨⟨_, _, rfl⟩, hs, fun y hy => hr y (List.mem_cons_of_mem _ hy)⟩
        · rintro ρ S ⟨⟨w7, w8, rfl⟩, hs, _⟩
          exact ⟨w7, w8, rfl, hs⟩
      rintro _ S ⟨w7, w8, rfl, hs⟩
      simp_all_arith [loopQ_next]
      exact ⟨seen, _, _, _, _, _, _, rfl, hs, hlen, hseen⟩
    · rintro ρ S _
      exact True.intro
  rintro ρ S _
  simp_all_arith [fd_law]
end
end L2.DL


set_option maxHeartbeats 1000000
namespace L2.DL.K92
open PySem PySem.Spec PyProof.Rows L2 L2.DL
def topS (i : Nat) : Stmt := PySem.Challenge.pw_orderwhole_k92_cells_of_falling_rows.main.body.getD i (.Pass ⟨0, 0, 0, 0⟩)
def d_is_whole : DefI := { x := "is_whole", st := topS 5, N := ["value"], ps := ["value"], fd := { np := 1, ns := 1, body := (.cons (.ret (.and (.isi (.var 0) [.int]) (.not (.isi (.var 0) [.bool])))) .nil) } }
def d_is_told : DefI := { x := "is_told", st := topS 6, N := ["told", "word", "count"], ps := ["told", "word", "count"], fd := { np := 3, ns := 3, body := (.cons (.ite (.or (.not (.of (.isi (.var 0) [.tuple]))) (.of (.cmp .ne (.bi .len (.var 0)) (.var 2)))) (.cons (.ret (.cst (.bool false))) .nil) .nil) (.cons (.ret (.and (.isi (.idx (.var 0) (.cst (.int 0))) [.str]) (.cmp .eq (.idx (.var 0) (.cst (.int 0))) (.var 1)))) .nil)) } }
def d_are_wholes : DefI := { x := "are_wholes", st := topS 7, N := ["value", "count", "part"], ps := ["value", "count"], fd := { np := 2, ns := 3, body := (.cons (.ret (.and (.isi (.var 0) [.tuple]) (.and (.cmp .eq (.bi .len (.var 0)) (.var 1)) (.cmp .notin (.cst (.bool false)) (.lc [2] (.call "is_whole" (.cons (.var 2) .nil)) (.one [2] (.seq (.var 0)) .no)))))) .nil) } }
def d_check_falling : DefI := { x := "check_falling", st := topS 9, N := ["row", "number", "one", "other"], ps := ["row"], fd := { np := 1, ns := 4, body := (.cons (.ite (.or (.of (.cmp .isin (.cst (.bool true)) (.lc [1] (.cmp .lt (.var 1) (.cst (.int 1))) (.one [1] (.seq (.var 0)) .no)))) (.of (.cmp .isin (.cst (.bool true)) (.lc [2, 3] (.cmp .lt (.var 2) (.var 3)) (.one [2, 3] (.zip (.var 0) (.sli (.var 0) (.one (.cst (.int 1))) .no)) .no))))) (.cons (.raise 0) .nil) .nil) (.cons (.ite (.or (.of (.cmp .gt (.bi .len (.var 0)) (.cst (.int 12)))) (.of (.cmp .gt (.bi .sum (.var 0)) (.cst (.int 60))))) (.cons (.raise 1) .nil) .nil) .nil)) } }
def d_cells : DefI := { x := "cells", st := topS 11, N := ["row", "turned", "hooks", "ways", "number", "line", "high", "hook", "place"], ps := ["row"], fd := { np := 1, ns := 9, body := (.cons (.ex (.call "check_falling" (.cons (.var 0) .nil))) (.cons (.set 1 (.lc [8] (.bi .len (.lc [4] (.cst (.int 1)) (.one [4] (.seq (.var 0)) (.one (.of (.cmp .gt (.var 4) (.var 8))))))) (.one [8] (.range1 (.bi .maxl (.bin .add (.var 0) (.tup (.cons (.cst (.int 0)) .nil))))) .no))) (.cons (.setOwn 2 (.lst .nil)) (.cons (.forr [6, 4] (.enum (.var 0)) (.cons (.push 2 (.bi .tuple (.lc [8] (.bin .sub (.bin .sub (.bin .add (.bin .sub (.var 4) (.var 8)) (.idx (.var 1) (.var 8))) (.var 6)) (.cst (.int 1))) (.one [8] (.range1 (.var 4)) .no)))) .nil)) (.cons (.set 3 (.cst (.int 1))) (.cons (.forr [4] (.range2 (.cst (.int 1)) (.bin .add (.bi .sum (.var 0)) (.cst (.int 1)))) (.cons (.set 3 (.bin .mul (.var 3) (.var 4))) .nil)) (.cons (.frz 2) (.cons (.forr [5] (.seq (.var 2)) (.cons (.forr [7] (.seq (.var 5)) (.cons (.set 3 (.bin .fdiv (.var 3) (.var 7))) .nil)) .nil)) (.cons (.ret (.tup (.cons (.cst (.str "cells")) (.cons (.var 3) (.cons (.bi .tuple (.own 2)) .nil))))) .nil))))))))) } }
def d_judge_cells : DefI := { x := "judge_cells", st := topS 12, N := ["row", "told", "due", "line"], ps := ["row", "told"], fd := { np := 2, ns := 4, body := (.cons (.set 2 (.call "cells" (.cons (.var 0) .nil))) (.cons (.ite (.or (.not (.of (.call "is_told" (.cons (.var 1) (.cons (.cst (.str "cells")) (.cons (.cst (.int 3)) .nil)))))) (.or (.not (.of (.call "is_whole" (.cons (.idx (.var 1) (.cst (.int 1))) .nil)))) (.not (.of (.isi (.idx (.var 1) (.cst (.int 2))) [.tuple]))))) (.cons (.ret (.cst (.bool false))) .nil) .nil) (.cons (.ret (.and (.cmp .notin (.cst (.bool false)) (.lc [3] (.call "are_wholes" (.cons (.var 3) (.cons (.bi .len (.var 3)) .nil))) (.one [3] (.seq (.idx (.var 1) (.cst (.int 2)))) (.one (.of (.isi (.var 3) [.tuple])))))) (.cmp .eq (.var 1) (.var 2)))) .nil))) } }
def d_law_next : DefI := { x := "_law_next", st := topS 14, N := ["state", "limit", "cell", "value"], ps := ["state", "limit"], fd := { np := 2, ns := 4, body := (.cons (.ite (.and (.of (.cmp .eq (.cell 0 (.cst (.int 2))) (.cst (.int 0)))) (.of (.cmp .lt (.cell 0 (.cst (.int 1))) (.bi .len (.cell 0 (.cst (.int 0))))))) (.cons (.set 2 (.idx (.cell 0 (.cst (.int 0))) (.cell 0 (.cst (.int 1))))) (.cons (.cellAug 0 (.cst (.int 1)) .add (.cst (.int 1))) (.cons (.ite (.of (.cmp .ge (.var 2) (.bin .pow (.cst (.int 10)) (.cst (.int 18))))) (.cons (.cellSet 0 (.cst (.int 2)) (.var 2)) .nil) (.cons (.cellSet 0 (.cst (.int 3)) (.bin .mod (.bi .int (.bin .add (.bin .add (.bin .mul (.cell 0 (.cst (.int 3))) (.cst (.int 48271))) (.bin .mod (.bi .int (.var 2)) (.cst (.int 2147483647)))) (.cst (.int 7)))) (.cst (.int 2147483647)))) .nil)) .nil))) .nil) (.cons (.ite (.of (.cmp .gt (.cell 0 (.cst (.int 2))) (.cst (.int 0)))) (.cons (.set 3 (.bin .mod (.bi .int (.cell 0 (.cst (.int 2)))) (.var 1))) (.cons (.cellSet 0 (.cst (.int 2)) (.bin .fdiv (.cell 0 (.cst (.int 2))) (.var 1))) (.cons (.ret (.var 3)) .nil))) .nil) (.cons (.cellSet 0 (.cst (.int 3)) (.bin .mod (.bi .int (.bin .add (.bin .mul (.cell 0 (.cst (.int 3))) (.cst (.int 69621))) (.cst (.int 12345)))) (.cst (.int 2147483647)))) (.cons (.ret (.bin .mod (.bi .int (.bin .fdiv (.cell 0 (.cst (.int 3))) (.cst (.int 7)))) (.var 1))) .nil)))) } }
def d_law_same : DefI := { x := "_law_same", st := topS 15, N := ["actual", "expected", "k"], ps := ["actual", "expected"], fd := { np := 2, ns := 3, body := (.cons (.ite (.of (.cmp .isNone (.var 1) (.cst .none))) (.cons (.ret (.cmp .isNone (.var 0) (.cst .none))) .nil) .nil) (.cons (.ite (.of (.isi (.var 1) [.bool])) (.cons (.ret (.and (.isi (.var 0) [.bool]) (.cmp .eq (.var 0) (.var 1)))) .nil) .nil) (.cons (.ite (.of (.isi (.var 1) [.int])) (.cons (.ret (.and (.isi (.var 0) [.int]) (.and (.not (.isi (.var 0) [.bool])) (.cmp .eq (.var 0) (.var 1))))) .nil) .nil) (.cons (.ite (.of (.isi (.var 1) [.str])) (.cons (.ret (.and (.isi (.var 0) [.str]) (.cmp .eq (.var 0) (.var 1)))) .nil) .nil) (.cons (.ite (.and (.of (.isi (.var 1) [.tuple])) (.not (.of (.isi (.var 0) [.tuple])))) (.cons (.ret (.cst (.bool false))) .nil) .nil) (.cons (.ite (.and (.of (.isi (.var 1) [.list])) (.not (.of (.isi (.var 0) [.list])))) (.cons (.ret (.cst (.bool false))) .nil) .nil) (.cons (.ite (.of (.cmp .ne (.bi .len (.var 0)) (.bi .len (.var 1)))) (.cons (.ret (.cst (.bool false))) .nil) .nil) (.cons (.forr [2] (.range1 (.bi .len (.var 1))) (.cons (.ite (.not (.of (.call "_law_same" (.cons (.idx (.var 0) (.var 2)) (.cons (.idx (.var 1) (.var 2)) .nil))))) (.cons (.ret (.cst (.bool false))) .nil) .nil) .nil)) (.cons (.ret (.cst (.bool true))) .nil))))))))) } }
def d_law_changed : DefI := { x := "_law_changed", st := topS 16, N := ["state", "value", "k", "j", "more", "others", "turn"], ps := ["state", "value"], fd := { np := 2, ns := 7, body := (.cons (.ite (.of (.isi (.var 1) [.bool])) (.cons (.ret (.idx (.lst (.cons (.not (.var 1)) (.cons (.bi .int (.var 1)) .nil))) (.call "_law_next" (.cons (.rf 0) (.cons (.cst (.int 2)) .nil))))) .nil) .nil) (.cons (.ite (.or (.of (.cmp .isNone (.var 1) (.cst .none))) (.of (.isi (.var 1) [.int]))) (.cons (.ret (.idx (.lst (.cons (.bin .add (.orv (.var 1) (.cst (.int 0))) (.cst (.int 1))) (.cons (.bin .sub (.orv (.var 1) (.cst (.int 0))) (.cst (.int 1))) (.cons (.cst (.int 0)) (.cons (.cst .none) (.cons (.cmp .eq (.var 1) (.cst (.int 1))) (.cons (.bi .str (.var 1)) (.cons (.bin .mul (.cst (.int 2)) (.orv (.var 1) (.cst (.int 1)))) .nil)))))))) (.call "_law_next" (.cons (.rf 0) (.cons (.cst (.int 7)) .nil))))) .nil) .nil) (.cons (.ite (.of (.isi (.var 1) [.str])) (.cons (.set 5 (.lst (.cons (.sli (.var 1) (.one (.cst (.int 1))) .no) (.cons (.bin .add (.var 1) (.cst (.str "a"))) (.cons (.rev (.var 1)) (.cons (.bin .add (.cst (.str "b")) (.var 1)) (.cons (.cst (.str "")) (.cons (.sli (.var 1) .no (.one (.neg (.cst (.int 1))))) (.cons (.cst (.str "left")) (.cons (.cst (.int 3)) (.cons (.cst (.str "in")) .nil))))))))))) (.cons (.ret (.idx (.var 5) (.call "_law_next" (.cons (.rf 0) (.cons (.bi .len (.var 5)) .nil))))) .nil)) .nil) (.cons (.ite (.and (.of (.isi (.var 1) [.tuple])) (.and (.of (.cmp .ne (.var 1) (.tup .nil))) (.of (.cmp .gt (.call "_law_next" (.cons (.rf 0) (.cons (.cst (.int 4)) .nil))) (.cst (.int 0)))))) (.cons (.set 2 (.call "_law_next" (.cons (.rf 0) (.cons (.bi .len (.var 1)) .nil)))) (.cons (.ret (.bin .add (.bin .add (.sli (.var 1) .no (.one (.var 2))) (.tup (.cons (.call "_law_changed" (.cons (.rf 0) (.cons (.idx (.var 1) (.var 2)) .nil))) .nil))) (.sli (.var 1) (.one (.bin .add (.var 2) (.cst (.int 1)))) .no))) .nil)) .nil) (.cons (.ite (.not (.of (.isi (.var 1) [.tuple]))) (.cons (.ret (.tup .nil)) .nil) .nil) (.cons (.set 2 (.call "_law_next" (.cons (.rf 0) (.cons (.bin .add (.bi .len (.var 1)) (.cst (.int 1))) .nil)))) (.cons (.set 3 (.call "_law_next" (.cons (.rf 0) (.cons (.bin .add (.bi .len (.var 1)) (.cst (.int 1))) .nil)))) (.cons (.set 4 (.lst (.cons (.bin .add (.sli (.var 1) .no (.one (.var 2))) (.sli (.var 1) (.one (.bin .add (.var 2) (.cst (.int 1)))) .no)) (.cons (.bin .add (.var 1) (.sli (.var 1) .no (.one (.cst (.int 1))))) (.cons (.rev (.var 1)) (.cons (.bin .add (.sli (.var 1) (.one (.var 2)) .no) (.sli (.var 1) .no (.one (.var 2)))) (.cons (.bi .list (.var 1)) (.cons (.sli (.var 1) .no (.one (.var 2))) (.cons (.tup .nil) (.cons (.bin .add (.var 1) (.tup (.cons (.cst (.int 0)) .nil))) .nil)))))))))) (.cons (.ite (.of (.chain .lt .lt (.var 2) (.var 3) (.bi .len (.var 1)))) (.cons (.set 4 (.bin .add (.var 4) (.lc [6] (.bin .add (.bin .add (.bin .add (.bin .add (.sli (.var 1) .no (.one (.var 2))) (.sli (.var 1) (.one (.var 3)) (.one (.bin .add (.var 3) (.cst (.int 1)))))) (.sli (.var 1) (.one (.bin .add (.var 2) (.cst (.int 1)))) (.one (.var 3)))) (.sli (.var 1) (.one (.var 2)) (.one (.bin .add (.var 2) (.cst (.int 1)))))) (.sli (.var 1) (.one (.bin .add (.var 3) (.cst (.int 1)))) .no)) (.one [6] (.range1 (.cst (.int 3))) .no)))) .nil) .nil) (.cons (.ret (.idx (.var 4) (.call "_law_next" (.cons (.rf 0) (.cons (.bi .len (.var 4)) .nil))))) .nil)))))))))) } }
def d_law_ints : DefI := { x := "_law_ints", st := topS 17, N := ["value", "found", "part", "number"], ps := ["value"], fd := { np := 1, ns := 4, body := (.cons (.ite (.or (.of (.isi (.var 0) [.bool])) (.not (.of (.isi (.var 0) [.int, .tuple])))) (.cons (.ret (.lst .nil)) .nil) .nil) (.cons (.ite (.of (.isi (.var 0) [.int])) (.cons (.ret (.lst (.cons (.var 0) .nil))) .nil) .nil) (.cons (.set 1 (.lst .nil)) (.cons (.forr [2] (.seq (.var 0)) (.cons (.set 1 (.bin .add (.var 1) (.lc [3] (.var 3) (.one [3] (.seq (.call "_law_ints" (.cons (.var 2) .nil))) (.one (.of (.cmp .notin (.var 3) (.var 1)))))))) .nil)) (.cons (.ret (.var 1)) .nil))))) } }
def d_law_exchanged : DefI := { x := "_law_exchanged", st := topS 18, N := ["value", "one", "other", "part"], ps := ["value", "one", "other"], fd := { np := 3, ns := 4, body := (.cons (.ite (.or (.of (.isi (.var 0) [.bool])) (.not (.of (.isi (.var 0) [.int, .tuple])))) (.cons (.ret (.var 0)) .nil) .nil) (.cons (.ite (.of (.isi (.var 0) [.int])) (.cons (.ret (.ite (.of (.cmp .eq (.var 0) (.var 1))) (.var 2) (.ite (.of (.cmp .eq (.var 0) (.var 2))) (.var 1) (.var 0)))) .nil) .nil) (.cons (.ret (.bi .tuple (.lc [3] (.call "_law_exchanged" (.cons (.var 3) (.cons (.var 1) (.cons (.var 2) .nil)))) (.one [3] (.seq (.var 0)) .no)))) .nil))) } }
def d_law_cut : DefI := { x := "_law_cut", st := topS 19, N := ["state", "value", "k", "at", "ways", "part"], ps := ["state", "value"], fd := { np := 2, ns := 6, body := (.cons (.ite (.or (.not (.of (.isi (.var 1) [.tuple]))) (.of (.cmp .eq (.var 1) (.tup .nil)))) (.cons (.ret (.var 1)) .nil) .nil) (.cons (.ite (.of (.cmp .ne (.lc [5] (.var 5) (.one [5] (.seq (.var 1)) (.one (.not (.of (.isi (.var 5) [.str])))))) (.lst .nil))) (.cons (.set 2 (.call "_law_next" (.cons (.rf 0) (.cons (.bi .len (.var 1)) .nil)))) (.cons (.ret (.bin .add (.bin .add (.sli (.var 1) .no (.one (.var 2))) (.tup (.cons (.call "_law_cut" (.cons (.rf 0) (.cons (.idx (.var 1) (.var 2)) .nil))) .nil))) (.sli (.var 1) (.one (.bin .add (.var 2) (.cst (.int 1)))) .no))) .nil)) .nil) (.cons (.set 2 (.call "_law_next" (.cons (.rf 0) (.cons (.bi .len (.var 1)) .nil)))) (.cons (.set 3 (.call "_law_next" (.cons (.rf 0) (.cons (.bin .add (.bi .len (.idx (.var 1) (.var 2))) (.cst (.int 1))) .nil)))) (.cons (.set 4 (.lst (.cons (.bin .add (.bin .add (.sli (.var 1) .no (.one (.var 2))) (.tup (.cons (.sli (.idx (.var 1) (.var 2)) .no (.one (.var 3))) (.cons (.sli (.idx (.var 1) (.var 2)) (.one (.var 3)) .no) .nil)))) (.sli (.var 1) (.one (.bin .add (.var 2) (.cst (.int 1)))) .no)) (.cons (.bin .add (.bin .add (.sli (.var 1) .no (.one (.var 2))) (.tup (.cons (.mth .join (.cst (.str "")) (.cons (.sli (.var 1) (.one (.var 2)) (.one (.bin .add (.var 2) (.cst (.int 2))))) .nil)) .nil))) (.sli (.var 1) (.one (.bin .add (.var 2) (.cst (.int 2)))) .no)) .nil)))) (.cons (.set 4 (.bin .add (.var 4) (.lst (.cons (.tup (.cons (.mth .join (.cst (.str "")) (.cons (.var 1) .nil)) .nil)) (.cons (.bi .tuple (.mth .join (.cst (.str "")) (.cons (.var 1) .nil))) (.cons (.bin .add (.bin .add (.sli (.var 1) .no (.one (.var 2))) (.tup (.cons (.cst (.str "")) .nil))) (.sli (.var 1) (.one (.var 2)) .no)) (.cons (.bin .add (.bin .add (.sli (.var 1) .no (.one (.var 2))) (.rev (.sli (.var 1) (.one (.var 2)) (.one (.bin .add (.var 2) (.cst (.int 2))))))) (.sli (.var 1) (.one (.bin .add (.var 2) (.cst (.int 2)))) .no)) .nil))))))) (.cons (.ret (.idx (.var 4) (.call "_law_next" (.cons (.rf 0) (.cons (.bi .len (.var 4)) .nil))))) .nil))))))) } }
def d_law_turned_about : DefI := { x := "_law_turned_about", st := topS 20, N := ["state", "told", "numbers", "pick", "one", "other", "k", "j", "part"], ps := ["state", "told"], fd := { np := 2, ns := 9, body := (.cons (.set 2 (.call "_law_ints" (.cons (.var 1) .nil))) (.cons (.set 3 (.call "_law_next" (.cons (.rf 0) (.cons (.cst (.int 5)) .nil)))) (.cons (.ite (.and (.of (.cmp .lt (.var 3) (.cst (.int 3)))) (.of (.cmp .ne (.var 2) (.lst .nil)))) (.cons (.set 4 (.idx (.var 2) (.call "_law_next" (.cons (.rf 0) (.cons (.bi .len (.var 2)) .nil))))) (.cons (.set 5 (.ite (.of (.cmp .eq (.var 3) (.cst (.int 0)))) (.bin .add (.var 4) (.cst (.int 1))) (.idx (.var 2) (.call "_law_next" (.cons (.rf 0) (.cons (.bi .len (.var 2)) .nil)))))) (.cons (.ret (.call "_law_exchanged" (.cons (.var 1) (.cons (.var 4) (.cons (.var 5) .nil))))) .nil))) .nil) (.cons (.ite (.of (.cmp .eq (.var 3) (.cst (.int 3)))) (.cons (.ret (.bin .add (.sli (.var 1) .no (.one (.cst (.int 1)))) (.ite (.of (.cmp .gt (.bi .len (.var 1)) (.cst (.int 2)))) (.call "_law_cut" (.cons (.rf 0) (.cons (.sli (.var 1) (.one (.cst (.int 1))) .no) .nil))) (.bi .tuple (.lc [8] (.call "_law_cut" (.cons (.rf 0) (.cons (.var 8) .nil))) (.one [8] (.seq (.sli (.var 1) (.one (.cst (.int 1))) .no)) .no)))))) .nil) .nil) (.cons (.par 6 7 (.cons (.call "_law_next" (.cons (.rf 0) (.cons (.bi .len (.var 1)) .nil))) (.cons (.call "_law_next" (.cons (.rf 0) (.cons (.bi .len (.var 1)) .nil))) .nil))) (.cons (.ite (.and (.of (.cmp .eq (.bi .len (.var 1)) (.cst (.int 2)))) (.and (.of (.isi (.idx (.var 1) (.cst (.int 1))) [.tuple])) (.of (.cmp .ne (.idx (.var 1) (.cst (.int 1))) (.tup .nil))))) (.cons (.par 6 7 (.cons (.call "_law_next" (.cons (.rf 0) (.cons (.bi .len (.idx (.var 1) (.cst (.int 1)))) .nil))) (.cons (.call "_law_next" (.cons (.rf 0) (.cons (.bi .len (.idx (.var 1) (.cst (.int 1)))) .nil))) .nil))) (.cons (.ret (.tup (.cons (.idx (.var 1) (.cst (.int 0))) (.cons (.bin .add (.bin .add (.sli (.idx (.var 1) (.cst (.int 1))) .no (.one (.var 6))) (.sli (.idx (.var 1) (.cst (.int 1))) (.one (.var 7)) (.one (.bin .add (.var 7) (.cst (.int 1)))))) (.sli (.idx (.var 1) (.cst (.int 1))) (.one (.bin .add (.var 6) (.cst (.int 1)))) .no)) .nil)))) .nil)) .nil) (.cons (.ret (.ite (.and (.of (.cmp .gt (.var 6) (.cst (.int 0)))) (.of (.cmp .gt (.var 7) (.cst (.int 0))))) (.bin .add (.bin .add (.sli (.var 1) .no (.one (.var 6))) (.sli (.var 1) (.one (.var 7)) (.one (.bin .add (.var 7) (.cst (.int 1)))))) (.sli (.var 1) (.one (.bin .add (.var 6) (.cst (.int 1)))) .no)) (.var 1))) .nil))))))) } }
def d_law_odd : DefI := { x := "_law_odd", st := topS 21, N := ["state", "told", "odd", "pick"], ps := ["state", "told"], fd := { np := 2, ns := 4, body := (.cons (.set 2 (.lst (.cons (.cst .none) (.cons (.cst (.str "")) (.cons (.cst (.str "yes")) (.cons .edict (.cons (.tup .nil) (.cons (.sli (.var 1) .no (.one (.cst (.int 1)))) (.cons (.bi .list (.var 1)) (.cons (.bin .add (.var 1) (.tup (.cons (.cst (.int 0)) .nil))) (.cons (.bin .add (.tup (.cons (.lst (.cons (.idx (.var 1) (.cst (.int 0))) .nil)) .nil)) (.sli (.var 1) (.one (.cst (.int 1))) .no)) (.cons (.bin .add (.tup (.cons (.cst (.str "none such")) .nil)) (.sli (.var 1) (.one (.cst (.int 1))) .no)) (.cons (.cst (.int 7)) .nil))))))))))))) (.cons (.set 3 (.call "_law_next" (.cons (.rf 0) (.cons (.cst (.int 9)) .nil)))) (.cons (.ite (.of (.cmp .gt (.var 3) (.cst (.int 4)))) (.cons (.ret (.call "_law_turned_about" (.cons (.rf 0) (.cons (.var 1) .nil)))) .nil) .nil) (.cons (.ret (.ite (.of (.cmp .eq (.var 3) (.cst (.int 0)))) (.idx (.var 2) (.call "_law_next" (.cons (.rf 0) (.cons (.bi .len (.var 2)) .nil)))) (.call "_law_changed" (.cons (.rf 0) (.cons (.var 1) .nil))))) .nil)))) } }
def d_law_are_pairs_in : DefI := { x := "_law_are_pairs_in", st := topS 22, N := ["value", "count", "entry"], ps := ["value", "count"], fd := { np := 2, ns := 3, body := (.cons (.ret (.and (.isi (.var 0) [.tuple]) (.cmp .eq (.lc [2] (.var 2) (.one [2] (.seq (.var 0)) (.one (.or (.not (.of (.isi (.var 2) [.tuple]))) (.of (.cmp .ne (.bi .len (.var 2)) (.var 1))))))) (.lst .nil)))) .nil) } }
def d_law_falling : DefI := { x := "_law_falling", st := topS 23, N := ["state", "total", "found", "left", "number"], ps := ["state", "total"], fd := { np := 2, ns := 5, body := (.cons (.setOwn 2 (.lst .nil)) (.cons (.set 3 (.var 1)) (.cons (.whil (.of (.cmp .gt (.var 3) (.cst (.int 0)))) (.cons (.set 4 (.bin .add (.cst (.int 1)) (.call "_law_next" (.cons (.rf 0) (.cons (.var 3) .nil))))) (.cons (.push 2 (.var 4)) (.cons (.set 3 (.bin .sub (.var 3) (.var 4))) .nil)))) (.cons (.ret (.bi .tuple (.rev (.bi .sorted (.own 2))))) .nil)))) } }
def d_law_neighbour : DefI := { x := "_law_neighbour", st := topS 24, N := ["state", "value", "step", "k", "x"], ps := ["state", "value"], fd := { np := 2, ns := 5, body := (.cons (.set 2 (.idx (.lst (.cons (.cst (.int 1)) (.cons (.neg (.cst (.int 1))) .nil))) (.call "_law_next" (.cons (.rf 0) (.cons (.cst (.int 2)) .nil))))) (.cons (.ite (.or (.of (.isi (.var 1) [.str])) (.of (.cmp .eq (.var 1) (.tup .nil)))) (.cons (.ret (.var 1)) .nil) .nil) (.cons (.ite (.of (.isi (.var 1) [.int])) (.cons (.ret (.bin .add (.var 1) (.var 2))) .nil) .nil) (.cons (.ite (.and (.of (.cmp .eq (.bi .len (.var 1)) (.cst (.int 2)))) (.and (.of (.isi (.idx (.var 1) (.cst (.int 0))) [.tuple])) (.and (.of (.call "_law_are_pairs_in" (.cons (.idx (.var 1) (.cst (.int 1))) (.cons (.cst (.int 2)) .nil)))) (.of (.cmp .eq (.lc [4] (.var 4) (.one [4] (.seq (.idx (.var 1) (.cst (.int 0)))) (.one (.not (.of (.isi (.var 4) [.str])))))) (.lst .nil)))))) (.cons (.set 3 (.call "_law_next" (.cons (.rf 0) (.cons (.bin .add (.bi .len (.idx (.var 1) (.cst (.int 1)))) (.cst (.int 1))) .nil)))) (.cons (.ret (.tup (.cons (.idx (.var 1) (.cst (.int 0))) (.cons (.bin .add (.sli (.idx (.var 1) (.cst (.int 1))) .no (.one (.var 3))) (.sli (.idx (.var 1) (.cst (.int 1))) (.one (.bin .add (.var 3) (.cst (.int 1)))) .no)) .nil)))) .nil)) .nil) (.cons (.set 3 (.call "_law_next" (.cons (.rf 0) (.cons (.bi .len (.var 1)) .nil)))) (.cons (.ite (.and (.of (.isi (.idx (.var 1) (.var 3)) [.int])) (.of (.cmp .gt (.call "_law_next" (.cons (.rf 0) (.cons (.cst (.int 3)) .nil))) (.cst (.int 0))))) (.cons (.ret (.bin .add (.bin .add (.sli (.var 1) .no (.one (.var 3))) (.tup (.cons (.bin .add (.idx (.var 1) (.var 3)) (.var 2)) .nil))) (.sli (.var 1) (.one (.bin .add (.var 3) (.cst (.int 1)))) .no))) .nil) .nil) (.cons (.ret (.bin .add (.sli (.var 1) .no (.one (.var 3))) (.sli (.var 1) (.one (.bin .add (.var 3) (.cst (.int 1)))) .no))) .nil))))))) } }
def d_law_ways : DefI := { x := "_law_ways", st := topS 25, N := ["row", "found", "k"], ps := ["row"], fd := { np := 1, ns := 3, body := (.cons (.ite (.of (.cmp .eq (.bi .sum (.var 0)) (.cst (.int 0)))) (.cons (.ret (.cst (.int 1))) .nil) .nil) (.cons (.set 1 (.cst (.int 0))) (.cons (.forr [2] (.range1 (.bi .len (.var 0))) (.cons (.ite (.of (.cmp .gt (.idx (.var 0) (.var 2)) (.idx (.bin .add (.var 0) (.tup (.cons (.cst (.int 0)) .nil))) (.bin .add (.var 2) (.cst (.int 1)))))) (.cons (.set 1 (.bin .add (.var 1) (.call "_law_ways" (.cons (.bin .add (.bin .add (.sli (.var 0) .no (.one (.var 2))) (.tup (.cons (.bin .sub (.idx (.var 0) (.var 2)) (.cst (.int 1))) .nil))) (.sli (.var 0) (.one (.bin .add (.var 2) (.cst (.int 1)))) .no)) .nil)))) .nil) .nil) .nil)) (.cons (.ret (.var 1)) .nil)))) } }
def d_law_accepts : DefI := { x := "_law_accepts", st := topS 26, N := ["row", "told", "hooks", "k", "j", "i"], ps := ["row", "told"], fd := { np := 2, ns := 6, body := (.cons (.setOwn 2 (.lst .nil)) (.cons (.forr [3] (.range1 (.bi .len (.var 0))) (.cons (.push 2 (.bi .tuple (.lc [4] (.bin .add (.bin .sub (.idx (.var 0) (.var 3)) (.var 4)) (.bi .len (.lc [5] (.var 5) (.one [5] (.range2 (.bin .add (.var 3) (.cst (.int 1))) (.bi .len (.var 0))) (.one (.of (.cmp .gt (.idx (.var 0) (.var 5)) (.var 4)))))))) (.one [4] (.range1 (.idx (.var 0) (.var 3))) .no)))) .nil)) (.cons (.ret (.call "_law_same" (.cons (.var 1) (.cons (.tup (.cons (.cst (.str "cells")) (.cons (.call "_law_ways" (.cons (.var 0) .nil)) (.cons (.bi .tuple (.own 2)) .nil)))) .nil)))) .nil))) } }
def d_law_told_near : DefI := { x := "_law_told_near", st := topS 27, N := ["state", "row", "things", "pick", "error"], ps := ["state", "row"], fd := { np := 2, ns := 5, body := (.cons (.setOwn 2 (.lst (.cons (.var 1) .nil))) (.cons (.set 3 (.call "_law_next" (.cons (.rf 0) (.cons (.cst (.int 1)) .nil)))) (.cons (.setIx 2 (.var 3) (.call "_law_neighbour" (.cons (.rf 0) (.cons (.idx (.own 2) (.var 3)) .nil)))) (.cons (.tryy (.cons (.ret (.call "cells" (.cons (.idx (.own 2) (.cst (.int 0))) .nil))) .nil) (.cons 0 4 .unit (.cons 1 4 .unit .nil))) .nil)))) } }
def d_law_unfit : DefI := { x := "_law_unfit", st := topS 28, N := ["row", "judged", "error"], ps := ["row"], fd := { np := 1, ns := 3, body := (.cons (.forr [1] (.seq (.lst (.cons (.cst (.bool false)) (.cons (.cst (.bool true)) .nil)))) (.cons (.tryy (.cons (.ite (.of (.var 1)) (.cons (.ex (.call "judge_cells" (.cons (.var 0) (.cons (.cst .none) .nil)))) .nil) (.cons (.ex (.call "cells" (.cons (.var 0) .nil))) .nil)) (.cons (.ret (.cst (.bool false))) .nil)) (.cons 0 2 .go .nil)) .nil)) (.cons (.ret (.cst (.bool true))) .nil)) } }
def d_law : DefI := { x := "law", st := topS 29, N := ["script", "state", "seen", "turn", "row", "told", "near", "k", "asked"], ps := ["script"], fd := { np := 1, ns := 9, body := (.cons (.newCell 1 (.lst (.cons (.bi .list (.var 0)) (.cons (.cst (.int 0)) (.cons (.cst (.int 0)) (.cons (.cst (.int 1)) .nil)))))) (.cons (.set 2 (.lst .nil)) (.cons (.forr [3] (.range1 (.cst (.int 3))) (.cons (.set 4 (.call "_law_falling" (.cons (.rf 1) (.cons (.call "_law_next" (.cons (.rf 1) (.cons (.cst (.int 9)) .nil))) .nil)))) (.cons (.set 5 (.call "cells" (.cons (.var 4) .nil))) (.cons (.set 6 (.call "_law_told_near" (.cons (.rf 1) (.cons (.var 4) .nil)))) (.cons (.ite (.or (.not (.of (.call "_law_accepts" (.cons (.var 4) (.cons (.var 5) .nil))))) (.of (.cmp .notB (.call "judge_cells" (.cons (.var 4) (.cons (.var 5) .nil))) (.cst (.bool true))))) (.cons (.ret (.cst (.bool false))) .nil) .nil) (.cons (.ite (.or (.not (.of (.call "_law_unfit" (.cons (.tup (.cons (.cst (.int 1)) (.cons (.cst (.int 2)) .nil))) .nil)))) (.not (.of (.call "_law_unfit" (.cons (.bin .add (.var 4) (.tup (.cons (.cst (.int 0)) .nil))) .nil))))) (.cons (.ret (.cst (.bool false))) .nil) .nil) (.cons (.set 2 (.bin .add (.sli (.var 2) (.one (.neg (.cst (.int 3)))) .no) (.lst (.cons (.var 5) (.cons (.var 6) .nil))))) (.cons (.forr [7] (.range1 (.bin .add (.cst (.int 8)) (.bi .len (.var 2)))) (.cons (.set 8 (.ite (.of (.cmp .lt (.var 7) (.cst (.int 8)))) (.call "_law_odd" (.cons (.rf 1) (.cons (.var 5) .nil))) (.idx (.var 2) (.bin .sub (.var 7) (.cst (.int 8)))))) (.cons (.ite (.not (.of (.call "_law_same" (.cons (.call "judge_cells" (.cons (.var 4) (.cons (.var 8) .nil))) (.cons (.call "_law_accepts" (.cons (.var 4) (.cons (.var 8) .nil))) .nil))))) (.cons (.ret (.cst (.bool false))) .nil) .nil) .nil))) .nil)))))))) (.cons (.ret (.cst (.bool true))) .nil)))) } }
def ds : List DefI := [d_is_whole, d_is_told, d_are_wholes, d_check_falling, d_cells, d_judge_cells, d_law_next, d_law_same, d_law_changed, d_law_ints, d_law_exchanged, d_law_cut, d_law_turned_about, d_law_odd, d_law_are_pairs_in, d_law_falling, d_law_neighbour, d_law_ways, d_law_accepts, d_law_told_near, d_law_unfit, d_law]
theorem tab_eq : tabOf ds = tab92 := rfl
theorem shared : Help (tabOf ds) := ⟨rfl, rfl, rfl, rfl, rfl, rfl, rfl, rfl, rfl⟩
theorem plain (ns : List Int) (hl : ns.length ≤ 63) : ∃ S, callF (tabOf ds) 60 "law" [.val (.list (ns.map PyData.int))] [] = .ok (.bool true) S := by
  obtain ⟨r, S, h1, rfl⟩ := law92 (n := 40) (tab_eq ▸ shared) ns hl
  exact ⟨S, h1⟩

theorem ds_ok : ∀ d ∈ ds, okDef ds d = true := by
  have h : ds.all (fun d => okDef ds d) = true := by decide +kernel
  exact List.all_eq_true.mp h
theorem all_mk {P : Program} {w : World} {K : PySem.W.Frag} {h : Heap} {mg : Str → Option Value} {fa : Addr} (X : K.In h) (G : h.Ns mainGlobals mg) (hfa : mg "law" = some (.ref fa))
    {f0 : Addr} {oc0 : Value} {od0 an0 : Option Addr} {osl0 : Array (Option Value)} {kV0 doc0 pm0 cd0 ct0 : Value} (a0 : PySem.W.nsIn K mainGlobals "is_whole" = some (some (.ref f0))) (l0 : K.lookup f0 = some ⟨oc0, od0, .func (PySem.W.fnOf "is_whole" "is_whole" (defArgs (topS 5)) (defBody (topS 5)) (defScope (topS 5)) .none kV0 doc0 pm0 an0 cd0 ct0), osl0⟩) (c0 : PySem.W.codeIn K cd0 "is_whole" = true) (k0 : PySem.W.keepIn K (.ref f0) = true)
    {f1 : Addr} {oc1 : Value} {od1 an1 : Option Addr} {osl1 : Array (Option Value)} {kV1 doc1 pm1 cd1 ct1 : Value} (a1 : PySem.W.nsIn K mainGlobals "is_told" = some (some (.ref f1))) (l1 : K.lookup f1 = some ⟨oc1, od1, .func (PySem.W.fnOf "is_told" "is_told" (defArgs (topS 6)) (defBody (topS 6)) (defScope (topS 6)) .none kV1 doc1 pm1 an1 cd1 ct1), osl1⟩) (c1 : PySem.W.codeIn K cd1 "is_told" = true) (k1 : PySem.W.keepIn K (.ref f1) = true)
    {f2 : Addr} {oc2 : Value} {od2 an2 : Option Addr} {osl2 : Array (Option Value)} {kV2 doc2 pm2 cd2 ct2 : Value} (a2 : PySem.W.nsIn K mainGlobals "are_wholes" = some (some (.ref f2))) (l2 : K.lookup f2 = some ⟨oc2, od2, .func (PySem.W.fnOf "are_wholes" "are_wholes" (defArgs (topS 7)) (defBody (topS 7)) (defScope (topS 7)) .none kV2 doc2 pm2 an2 cd2 ct2), osl2⟩) (c2 : PySem.W.codeIn K cd2 "are_wholes" = true) (k2 : PySem.W.keepIn K (.ref f2) = true)
    {f3 : Addr} {oc3 : Value} {od3 an3 : Option Addr} {osl3 : Array (Option Value)} {kV3 doc3 pm3 cd3 ct3 : Value} (a3 : PySem.W.nsIn K mainGlobals "check_falling" = some (some (.ref f3))) (l3 : K.lookup f3 = some ⟨oc3, od3, .func (PySem.W.fnOf "check_falling" "check_falling" (defArgs (topS 9)) (defBody (topS 9)) (defScope (topS 9)) .none kV3 doc3 pm3 an3 cd3 ct3), osl3⟩) (c3 : PySem.W.codeIn K cd3 "check_falling" = true) (k3 : PySem.W.keepIn K (.ref f3) = true)
    {f4 : Addr} {oc4 : Value} {od4 an4 : Option Addr} {osl4 : Array (Option Value)} {kV4 doc4 pm4 cd4 ct4 : Value} (a4 : PySem.W.nsIn K mainGlobals "cells" = some (some (.ref f4))) (l4 : K.lookup f4 = some ⟨oc4, od4, .func (PySem.W.fnOf "cells" "cells" (defArgs (topS 11)) (defBody (topS 11)) (defScope (topS 11)) .none kV4 doc4 pm4 an4 cd4 ct4), osl4⟩) (c4 : PySem.W.codeIn K cd4 "cells" = true) (k4 : PySem.W.keepIn K (.ref f4) = true)
    {f5 : Addr} {oc5 : Value} {od5 an5 : Option Addr} {osl5 : Array (Option Value)} {kV5 doc5 pm5 cd5 ct5 : Value} (a5 : PySem.W.nsIn K mainGlobals "judge_cells" = some (some (.ref f5))) (l5 : K.lookup f5 = some ⟨oc5, od5, .func (PySem.W.fnOf "judge_cells" "judge_cells" (defArgs (topS 12)) (defBody (topS 12)) (defScope (topS 12)) .none kV5 doc5 pm5 an5 cd5 ct5), osl5⟩) (c5 : PySem.W.codeIn K cd5 "judge_cells" = true) (k5 : PySem.W.keepIn K (.ref f5) = true)
    {f6 : Addr} {oc6 : Value} {od6 an6 : Option Addr} {osl6 : Array (Option Value)} {kV6 doc6 pm6 cd6 ct6 : Value} (a6 : PySem.W.nsIn K mainGlobals "_law_next" = some (some (.ref f6))) (l6 : K.lookup f6 = some ⟨oc6, od6, .func (PySem.W.fnOf "_law_next" "_law_next" (defArgs (topS 14)) (defBody (topS 14)) (defScope (topS 14)) .none kV6 doc6 pm6 an6 cd6 ct6), osl6⟩) (c6 : PySem.W.codeIn K cd6 "_law_next" = true) (k6 : PySem.W.keepIn K (.ref f6) = true)
    {f7 : Addr} {oc7 : Value} {od7 an7 : Option Addr} {osl7 : Array (Option Value)} {kV7 doc7 pm7 cd7 ct7 : Value} (a7 : PySem.W.nsIn K mainGlobals "_law_same" = some (some (.ref f7))) (l7 : K.lookup f7 = some ⟨oc7, od7, .func (PySem.W.fnOf "_law_same" "_law_same" (defArgs (topS 15)) (defBody (topS 15)) (defScope (topS 15)) .none kV7 doc7 pm7 an7 cd7 ct7), osl7⟩) (c7 : PySem.W.codeIn K cd7 "_law_same" = true) (k7 : PySem.W.keepIn K (.ref f7) = true)
    {f8 : Addr} {oc8 : Value} {od8 an8 : Option Addr} {osl8 : Array (Option Value)} {kV8 doc8 pm8 cd8 ct8 : Value} (a8 : PySem.W.nsIn K mainGlobals "_law_changed" = some (some (.ref f8))) (l8 : K.lookup f8 = some ⟨oc8, od8, .func (PySem.W.fnOf "_law_changed" "_law_changed" (defArgs (topS 16)) (defBody (topS 16)) (defScope (topS 16)) .none kV8 doc8 pm8 an8 cd8 ct8), osl8⟩) (c8 : PySem.W.codeIn K cd8 "_law_changed" = true) (k8 : PySem.W.keepIn K (.ref f8) = true)
    {f9 : Addr} {oc9 : Value} {od9 an9 : Option Addr} {osl9 : Array (Option Value)} {kV9 doc9 pm9 cd9 ct9 : Value} (a9 : PySem.W.nsIn K mainGlobals "_law_ints" = some (some (.ref f9))) (l9 : K.lookup f9 = some ⟨oc9, od9, .func (PySem.W.fnOf "_law_ints" "_law_ints" (defArgs (topS 17)) (defBody (topS 17)) (defScope (topS 17)) .none kV9 doc9 pm9 an9 cd9 ct9), osl9⟩) (c9 : PySem.W.codeIn K cd9 "_law_ints" = true) (k9 : PySem.W.keepIn K (.ref f9) = true)
    {f10 : Addr} {oc10 : Value} {od10 an10 : Option Addr} {osl10 : Array (Option Value)} {kV10 doc10 pm10 cd10 ct10 : Value} (a10 : PySem.W.nsIn K mainGlobals "_law_exchanged" = some (some (.ref f10))) (l10 : K.lookup f10 = some ⟨oc10, od10, .func (PySem.W.fnOf "_law_exchanged" "_law_exchanged" (defArgs (topS 18)) (defBody (topS 18)) (defScope (topS 18)) .none kV10 doc10 pm10 an10 cd10 ct10), osl10⟩) (c10 : PySem.W.codeIn K cd10 "_law_exchanged" = true) (k10 : PySem.W.keepIn K (.ref f10) = true)
    {f11 : Addr} {oc11 : Value} {od11 an11 : Option Addr} {osl11 : Array (Option Value)} {kV11 doc11 pm11 cd11 ct11 : Value} (a11 : PySem.W.nsIn K mainGlobals "_law_cut" = some (some (.ref f11))) (l11 : K.lookup f11 = some ⟨oc11, od11, .func (PySem.W.fnOf "_law_cut" "_law_cut" (defArgs (topS 19)) (defBody (topS 19)) (defScope (topS 19)) .none kV11 doc11 pm11 an11 cd11 ct11), osl11⟩) (c11 : PySem.W.codeIn K cd11 "_law_cut" = true) (k11 : PySem.W.keepIn K (.ref f11) = true)
    {f12 : Addr} {oc12 : Value} {od12 an12 : Option Addr} {osl12 : Array (Option Value)} {kV12 doc12 pm12 cd12 ct12 : Value} (a12 : PySem.W.nsIn K mainGlobals "_law_turned_about" = some (some (.ref f12))) (l12 : K.lookup f12 = some ⟨oc12, od12, .func (PySem.W.fnOf "_law_turned_about" "_law_turned_about" (defArgs (topS 20)) (defBody (topS 20)) (defScope (topS 20)) .none kV12 doc12 pm12 an12 cd12 ct12), osl12⟩) (c12 : PySem.W.codeIn K cd12 "_law_turned_about" = true) (k12 : PySem.W.keepIn K (.ref f12) = true)
    {f13 : Addr} {oc13 : Value} {od13 an13 : Option Addr} {osl13 : Array (Option Value)} {kV13 doc13 pm13 cd13 ct13 : Value} (a13 : PySem.W.nsIn K mainGlobals "_law_odd" = some (some (.ref f13))) (l13 : K.lookup f13 = some ⟨oc13, od13, .func (PySem.W.fnOf "_law_odd" "_law_odd" (defArgs (topS 21)) (defBody (topS 21)) (defScope (topS 21)) .none kV13 doc13 pm13 an13 cd13 ct13), osl13⟩) (c13 : PySem.W.codeIn K cd13 "_law_odd" = true) (k13 : PySem.W.keepIn K (.ref f13) = true)
    {f14 : Addr} {oc14 : Value} {od14 an14 : Option Addr} {osl14 : Array (Option Value)} {kV14 doc14 pm14 cd14 ct14 : Value} (a14 : PySem.W.nsIn K mainGlobals "_law_are_pairs_in" = some (some (.ref f14))) (l14 : K.lookup f14 = some ⟨oc14, od14, .func (PySem.W.fnOf "_law_are_pairs_in" "_law_are_pairs_in" (defArgs (topS 22)) (defBody (topS 22)) (defScope (topS 22)) .none kV14 doc14 pm14 an14 cd14 ct14), osl14⟩) (c14 : PySem.W.codeIn K cd14 "_law_are_pairs_in" = true) (k14 : PySem.W.keepIn K (.ref f14) = true)
    {f15 : Addr} {oc15 : Value} {od15 an15 : Option Addr} {osl15 : Array (Option Value)} {kV15 doc15 pm15 cd15 ct15 : Value} (a15 : PySem.W.nsIn K mainGlobals "_law_falling" = some (some (.ref f15))) (l15 : K.lookup f15 = some ⟨oc15, od15, .func (PySem.W.fnOf "_law_falling" "_law_falling" (defArgs (topS 23)) (defBody (topS 23)) (defScope (topS 23)) .none kV15 doc15 pm15 an15 cd15 ct15), osl15⟩) (c15 : PySem.W.codeIn K cd15 "_law_falling" = true) (k15 : PySem.W.keepIn K (.ref f15) = true)
    {f16 : Addr} {oc16 : Value} {od16 an16 : Option Addr} {osl16 : Array (Option Value)} {kV16 doc16 pm16 cd16 ct16 : Value} (a16 : PySem.W.nsIn K mainGlobals "_law_neighbour" = some (some (.ref f16))) (l16 : K.lookup f16 = some ⟨oc16, od16, .func (PySem.W.fnOf "_law_neighbour" "_law_neighbour" (defArgs (topS 24)) (defBody (topS 24)) (defScope (topS 24)) .none kV16 doc16 pm16 an16 cd16 ct16), osl16⟩) (c16 : PySem.W.codeIn K cd16 "_law_neighbour" = true) (k16 : PySem.W.keepIn K (.ref f16) = true)
    {f17 : Addr} {oc17 : Value} {od17 an17 : Option Addr} {osl17 : Array (Option Value)} {kV17 doc17 pm17 cd17 ct17 : Value} (a17 : PySem.W.nsIn K mainGlobals "_law_ways" = some (some (.ref f17))) (l17 : K.lookup f17 = some ⟨oc17, od17, .func (PySem.W.fnOf "_law_ways" "_law_ways" (defArgs (topS 25)) (defBody (topS 25)) (defScope (topS 25)) .none kV17 doc17 pm17 an17 cd17 ct17), osl17⟩) (c17 : PySem.W.codeIn K cd17 "_law_ways" = true) (k17 : PySem.W.keepIn K (.ref f17) = true)
    {f18 : Addr} {oc18 : Value} {od18 an18 : Option Addr} {osl18 : Array (Option Value)} {kV18 doc18 pm18 cd18 ct18 : Value} (a18 : PySem.W.nsIn K mainGlobals "_law_accepts" = some (some (.ref f18))) (l18 : K.lookup f18 = some ⟨oc18, od18, .func (PySem.W.fnOf "_law_accepts" "_law_accepts" (defArgs (topS 26)) (defBody (topS 26)) (defScope (topS 26)) .none kV18 doc18 pm18 an18 cd18 ct18), osl18⟩) (c18 : PySem.W.codeIn K cd18 "_law_accepts" = true) (k18 : PySem.W.keepIn K (.ref f18) = true)
    {f19 : Addr} {oc19 : Value} {od19 an19 : Option Addr} {osl19 : Array (Option Value)} {kV19 doc19 pm19 cd19 ct19 : Value} (a19 : PySem.W.nsIn K mainGlobals "_law_told_near" = some (some (.ref f19))) (l19 : K.lookup f19 = some ⟨oc19, od19, .func (PySem.W.fnOf "_law_told_near" "_law_told_near" (defArgs (topS 27)) (defBody (topS 27)) (defScope (topS 27)) .none kV19 doc19 pm19 an19 cd19 ct19), osl19⟩) (c19 : PySem.W.codeIn K cd19 "_law_told_near" = true) (k19 : PySem.W.keepIn K (.ref f19) = true)
    {f20 : Addr} {oc20 : Value} {od20 an20 : Option Addr} {osl20 : Array (Option Value)} {kV20 doc20 pm20 cd20 ct20 : Value} (a20 : PySem.W.nsIn K mainGlobals "_law_unfit" = some (some (.ref f20))) (l20 : K.lookup f20 = some ⟨oc20, od20, .func (PySem.W.fnOf "_law_unfit" "_law_unfit" (defArgs (topS 28)) (defBody (topS 28)) (defScope (topS 28)) .none kV20 doc20 pm20 an20 cd20 ct20), osl20⟩) (c20 : PySem.W.codeIn K cd20 "_law_unfit" = true) (k20 : PySem.W.keepIn K (.ref f20) = true)
    {f21 : Addr} {oc21 : Value} {od21 an21 : Option Addr} {osl21 : Array (Option Value)} {kV21 doc21 pm21 cd21 ct21 : Value} (a21 : PySem.W.nsIn K mainGlobals "law" = some (some (.ref f21))) (l21 : K.lookup f21 = some ⟨oc21, od21, .func (PySem.W.fnOf "law" "law" (defArgs (topS 29)) (defBody (topS 29)) (defScope (topS 29)) .none kV21 doc21 pm21 an21 cd21 ct21), osl21⟩) (c21 : PySem.W.codeIn K cd21 "law" = true) (k21 : PySem.W.keepIn K (.ref f21) = true)
    (z0 : PySem.W.nsIn K mainGlobals "len" = some none)
    (z1 : PySem.W.nsIn K mainGlobals "tuple" = some none)
    (z2 : PySem.W.nsIn K mainGlobals "list" = some none)
    (z3 : PySem.W.nsIn K mainGlobals "sorted" = some none)
    (z4 : PySem.W.nsIn K mainGlobals "sum" = some none)
    (z5 : PySem.W.nsIn K mainGlobals "abs" = some none)
    (z6 : PySem.W.nsIn K mainGlobals "isinstance" = some none)
    (z7 : PySem.W.nsIn K mainGlobals "int" = some none)
    (z8 : PySem.W.nsIn K mainGlobals "bool" = some none)
    (z9 : PySem.W.nsIn K mainGlobals "str" = some none)
    (z10 : PySem.W.nsIn K mainGlobals "range" = some none)
    (z11 : PySem.W.nsIn K mainGlobals "enumerate" = some none)
    (z12 : PySem.W.nsIn K mainGlobals "zip" = some none)
    (z13 : PySem.W.nsIn K mainGlobals "repr" = some none)
    (z14 : PySem.W.nsIn K mainGlobals "max" = some none)
    (z15 : PySem.W.nsIn K mainGlobals "min" = some none)
    (z16 : PySem.W.nsIn K mainGlobals "set" = some none)
    (z17 : PySem.W.nsIn K mainGlobals "dict" = some none)
    (z18 : PySem.W.nsIn K mainGlobals "ValueError" = some none)
    {CU CT : Addr}
    (Ua : PySem.W.nsIn K mainGlobals "UnfitOrder" = some (some (.ref CU)))
    (Uq : PySem.W.excIn K CU [.type "ValueError", .type "Exception", .type "BaseException", .type "object"] "ValueError.__new__" = true)
    (Uk : PySem.W.keepIn K (.ref CU) = true)
    (Ut : PySem.W.typeIn K (.ref CU) = some (.type "type"))
    (Uv : PySem.W.subIn K (.ref CU) (.type "ValueError") = some true)
    (Uhg : PySem.W.findIn K (.ref CU) "__getattribute__" = some (some (.builtin "BaseException.__getattribute__")))
    (Uhk : PySem.W.findIn K (.ref CU) "__getattr__" = some none)
    (Uhs : PySem.W.subIn K (.ref CU) (.type "BaseException") = some true)
    (Uhd : PySem.W.hasDictIn K CU = true)
    (Uha : PySem.W.findIn K (.ref CU) "__class__" = some (some (.builtin "object.__class__")))
    (Uhn : PySem.W.specialIn K (.builtin "object.__class__") "__get__" = some (some (.builtin "getset_descriptor.__get__")))
    (Uht : PySem.W.takesIn K (.builtin "object.__class__") = some true)
    (Uhm : PySem.W.mroIn K CU (.type "object") = some true)
    (Ta : PySem.W.nsIn K mainGlobals "TooWide" = some (some (.ref CT)))
    (Tq : PySem.W.excIn K CT [.type "ValueError", .type "Exception", .type "BaseException", .type "object"] "ValueError.__new__" = true)
    (Tk : PySem.W.keepIn K (.ref CT) = true)
    (Tt : PySem.W.typeIn K (.ref CT) = some (.type "type"))
    (Tv : PySem.W.subIn K (.ref CT) (.type "ValueError") = some true)
    (Thg : PySem.W.findIn K (.ref CT) "__getattribute__" = some (some (.builtin "BaseException.__getattribute__")))
    (Thk : PySem.W.findIn K (.ref CT) "__getattr__" = some none)
    (Ths : PySem.W.subIn K (.ref CT) (.type "BaseException") = some true)
    (Thd : PySem.W.hasDictIn K CT = true)
    (Tha : PySem.W.findIn K (.ref CT) "__class__" = some (some (.builtin "object.__class__")))
    (Thn : PySem.W.specialIn K (.builtin "object.__class__") "__get__" = some (some (.builtin "getset_descriptor.__get__")))
    (Tht : PySem.W.takesIn K (.builtin "object.__class__") = some true)
    (Thm : PySem.W.mroIn K CT (.type "object") = some true)
    (eUU : PySem.W.subIn K (.ref CU) (.ref CU) = some true)
    (eUT : PySem.W.subIn K (.ref CU) (.ref CT) = some false)
    (eTU : PySem.W.subIn K (.ref CT) (.ref CU) = some false)
    (eTT : PySem.W.subIn K (.ref CT) (.ref CT) = some true) :
    ∃ fd : FuncData, (∀ (s : Shared) (v : Value), BindsTo s fd ⟨[v], []⟩ [(("script" : Str), v)]) ∧ ∀ base : Heap, K.In base → base.Ns mainGlobals mg → FnOk P w K mg base (L2.CX P w) 60 fa fd [("script" : Str)] (spD (ecOf K) 1 (callF (tabOf ds) 60 "law")) := by
  have U : ExF K "UnfitOrder" CU := ⟨Ua, Uq, Uk, Uhs, Ut, ⟨Uhg, Uhk, Uhs, Uhd, Uha, Uhn, Uht, Uhm⟩, kit_val Uv⟩
  have T : ExF K "TooWide" CT := ⟨Ta, Tq, Tk, Ths, Tt, ⟨Thg, Thk, Ths, Thd, Tha, Thn, Tht, Thm⟩, kit_val Tv⟩
  refine fin_mk hfa ds_ok ?_ ?_ (excs_mk U T (PySem.W.exm_ref Uhs Uhd Ut eUU) (PySem.W.exm_ref Ths Thd Tt eUT) (PySem.W.exm_ref Uhs Uhd Ut eTU) (PySem.W.exm_ref Ths Thd Tt eTT)) (raise_mk X G U T) 60 (dl := d_law) rfl rfl fun _ _ _ _ _ _ _ => rfl
  · intro d hd
    unfold ds at hd
    simp only [List.mem_cons, List.not_mem_nil, or_false] at hd
    rcases hd with rfl | rfl | rfl | rfl | rfl | rfl | rfl | rfl | rfl | rfl | rfl | rfl | rfl | rfl | rfl | rfl | rfl | rfl | rfl | rfl | rfl | rfl
    · exact def_mk (d := d_is_whole) X G a0 l0 c0 k0 fun _ _ _ _ _ _ us hl => match us, hl with | [_], _ => rfl
    · exact def_mk (d := d_is_told) X G a1 l1 c1 k1 fun _ _ _ _ _ _ us hl => match us, hl with | [_, _, _], _ => rfl
    · exact def_mk (d := d_are_wholes) X G a2 l2 c2 k2 fun _ _ _ _ _ _ us hl => match us, hl with | [_, _], _ => rfl
    · exact def_mk (d := d_check_falling) X G a3 l3 c3 k3 fun _ _ _ _ _ _ us hl => match us, hl with | [_], _ => rfl
    · exact def_mk (d := d_cells) X G a4 l4 c4 k4 fun _ _ _ _ _ _ us hl => match us, hl with | [_], _ => rfl
    · exact def_mk (d := d_judge_cells) X G a5 l5 c5 k5 fun _ _ _ _ _ _ us hl => match us, hl with | [_, _], _ => rfl
    · exact def_mk (d := d_law_next) X G a6 l6 c6 k6 fun _ _ _ _ _ _ us hl => match us, hl with | [_, _], _ => rfl
    · exact def_mk (d := d_law_same) X G a7 l7 c7 k7 fun _ _ _ _ _ _ us hl => match us, hl with | [_, _], _ => rfl
    · exact def_mk (d := d_law_changed) X G a8 l8 c8 k8 fun _ _ _ _ _ _ us hl => match us, hl with | [_, _], _ => rfl
    · exact def_mk (d := d_law_ints) X G a9 l9 c9 k9 fun _ _ _ _ _ _ us hl => match us, hl with | [_], _ => rfl
    · exact def_mk (d := d_law_exchanged) X G a10 l10 c10 k10 fun _ _ _ _ _ _ us hl => match us, hl with | [_, _, _], _ => rfl
    · exact def_mk (d := d_law_cut) X G a11 l11 c11 k11 fun _ _ _ _ _ _ us hl => match us, hl with | [_, _], _ => rfl
    · exact def_mk (d := d_law_turned_about) X G a12 l12 c12 k12 fun _ _ _ _ _ _ us hl => match us, hl with | [_, _], _ => rfl
    · exact def_mk (d := d_law_odd) X G a13 l13 c13 k13 fun _ _ _ _ _ _ us hl => match us, hl with | [_, _], _ => rfl
    · exact def_mk (d := d_law_are_pairs_in) X G a14 l14 c14 k14 fun _ _ _ _ _ _ us hl => match us, hl with | [_, _], _ => rfl
    · exact def_mk (d := d_law_falling) X G a15 l15 c15 k15 fun _ _ _ _ _ _ us hl => match us, hl with | [_, _], _ => rfl
    · exact def_mk (d := d_law_neighbour) X G a16 l16 c16 k16 fun _ _ _ _ _ _ us hl => match us, hl with | [_, _], _ => rfl
    · exact def_mk (d := d_law_ways) X G a17 l17 c17 k17 fun _ _ _ _ _ _ us hl => match us, hl with | [_], _ => rfl
    · exact def_mk (d := d_law_accepts) X G a18 l18 c18 k18 fun _ _ _ _ _ _ us hl => match us, hl with | [_, _], _ => rfl
    · exact def_mk (d := d_law_told_near) X G a19 l19 c19 k19 fun _ _ _ _ _ _ us hl => match us, hl with | [_, _], _ => rfl
    · exact def_mk (d := d_law_unfit) X G a20 l20 c20 k20 fun _ _ _ _ _ _ us hl => match us, hl with | [_], _ => rfl
    · exact def_mk (d := d_law) X G a21 l21 c21 k21 fun _ _ _ _ _ _ us hl => match us, hl with | [_], _ => rfl
  · intro x hx
    unfold bnames at hx
    simp only [List.mem_cons, List.not_mem_nil, or_false] at hx
    rcases hx with rfl | rfl | rfl | rfl | rfl | rfl | rfl | rfl | rfl | rfl | rfl | rfl | rfl | rfl | rfl | rfl | rfl | rfl | rfl
    · exact PySem.W.mg_none_of X G z0
    · exact PySem.W.mg_none_of X G z1
    · exact PySem.W.mg_none_of X G z2
    · exact PySem.W.mg_none_of X G z3
    · exact PySem.W.mg_none_of X G z4
    · exact PySem.W.mg_none_of X G z5
    · exact PySem.W.mg_none_of X G z6
    · exact PySem.W.mg_none_of X G z7
    · exact PySem.W.mg_none_of X G z8
    · exact PySem.W.mg_none_of X G z9
    · exact PySem.W.mg_none_of X G z10
    · exact PySem.W.mg_none_of X G z11
    · exact PySem.W.mg_none_of X G z12
    · exact PySem.W.mg_none_of X G z13
    · exact PySem.W.mg_none_of X G z14
    · exact PySem.W.mg_none_of X G z15
    · exact PySem.W.mg_none_of X G z16
    · exact PySem.W.mg_none_of X G z17
    · exact PySem.W.mg_none_of X G z18
end L2.DL.K92
open PySem PySem.W PyProof.Rows
set_option maxHeartbeats 0 in
theorem PySem.Challenge.cw_orderwhole_k92_cells_of_falling_rows_holds : PySem.Challenge.rw_orderwhole_k92_cells_of_falling_rows.Holds := by
  w_on; o_law; k_head; (case hw => w_witness2)
  k_fill
  refine L2.DL.walk_D (l := PySem.Challenge.rw_orderwhole_k92_cells_of_falling_rows) (k := 60) (x := "script") (g := L2.DL.callF (L2.DL.tabOf L2.DL.K92.ds) 60 "law") rfl rfl ⟨rfl, by decide, by decide⟩ (fun w h Y => PySem.W.kIn_of Y) ?F ?S L2.DL.K92.plain
  case S =>
    intro w
    first | rfl | decide +kernel | k_is
  case F =>
    intro w mg fa h KX G hmg
    refine' L2.DL.K92.all_mk KX G hmg ?a0 ?l0 ?c0 ?k0 ?a1 ?l1 ?c1 ?k1 ?a2 ?l2 ?c2 ?k2 ?a3 ?l3 ?c3 ?k3 ?a4 ?l4 ?c4 ?k4 ?a5 ?l5 ?c5 ?k5 ?a6 ?l6 ?c6 ?k6 ?a7 ?l7 ?c7 ?k7 ?a8 ?l8 ?c8 ?k8 ?a9 ?l9 ?c9 ?k9 ?a10 ?l10 ?c10 ?k10 ?a11 ?l11 ?c11 ?k11 ?a12 ?l12 ?c12 ?k12 ?a13 ?l13 ?c13 ?k13 ?a14 ?l14 ?c14 ?k14 ?a15 ?l15 ?c15 ?k15 ?a16 ?l16 ?c16 ?k16 ?a17 ?l17 ?c17 ?k17 ?a18 ?l18 ?c18 ?k18 ?a19 ?l19 ?c19 ?k19 ?a20 ?l20 ?c20 ?k20 ?a21 ?l21 ?c21 ?k21 ?z0 ?z1 ?z2 ?z3 ?z4 ?z5 ?z6 ?z7 ?z8 ?z9 ?z10 ?z11 ?z12 ?z13 ?z14 ?z15 ?z16 ?z17 ?z18 ?Ua ?Uq ?Uk ?Ut ?Uv ?Uhg ?Uhk ?Uhs ?Uhd ?Uha ?Uhn ?Uht ?Uhm ?Ta ?Tq ?Tk ?Tt ?Tv ?Thg ?Thk ?Ths ?Thd ?Tha ?Thn ?Tht ?Thm ?eUU ?eUT ?eTU ?eTT
    (case a0 => k_is); (case l0 => k_is); (case c0 => k_is); (case k0 => k_is); (case a1 => k_is); (case l1 => k_is); (case c1 => k_is); (case k1 => k_is); (case a2 => k_is); (case l2 => k_is); (case c2 => k_is); (case k2 => k_is); (case a3 => k_is); (case l3 => k_is); (case c3 => k_is); (case k3 => k_is); (case a4 => k_is); (case l4 => k_is); (case c4 => k_is); (case k4 => k_is); (case a5 => k_is); (case l5 => k_is); (case c5 => k_is); (case k5 => k_is); (case a6 => k_is); (case l6 => k_is); (case c6 => k_is); (case k6 => k_is); (case a7 => k_is); (case l7 => k_is); (case c7 => k_is); (case k7 => k_is); (case a8 => k_is); (case l8 => k_is); (case c8 => k_is); (case k8 => k_is); (case a9 => k_is); (case l9 => k_is); (case c9 => k_is); (case k9 => k_is); (case a10 => k_is); (case l10 => k_is); (case c10 => k_is); (case k10 => k_is); (case a11 => k_is); (case l11 => k_is); (case c11 => k_is); (case k11 => k_is); (case a12 => k_is); (case l12 => k_is); (case c12 => k_is); (case k12 => k_is); (case a13 => k_is); (case l13 => k_is); (case c13 => k_is); (case k13 => k_is); (case a14 => k_is); (case l14 => k_is); (case c14 => k_is); (case k14 => k_is); (case a15 => k_is); (case l15 => k_is); (case c15 => k_is); (case k15 => k_is); (case a16 => k_is); (case l16 => k_is); (case c16 => k_is); (case k16 => k_is); (case a17 => k_is); (case l17 => k_is); (case c17 => k_is); (case k17 => k_is); (case a18 => k_is); (case l18 => k_is); (case c18 => k_is); (case k18 => k_is); (case a19 => k_is); (case l19 => k_is); (case c19 => k_is); (case k19 => k_is); (case a20 => k_is); (case l20 => k_is); (case c20 => k_is); (case k20 => k_is); (case a21 => k_is); (case l21 => k_is); (case c21 => k_is); (case k21 => k_is); (case z0 => k_is); (case z1 => k_is); (case z2 => k_is); (case z3 => k_is); (case z4 => k_is); (case z5 => k_is); (case z6 => k_is); (case z7 => k_is); (case z8 => k_is); (case z9 => k_is); (case z10 => k_is); (case z11 => k_is); (case z12 => k_is); (case z13 => k_is); (case z14 => k_is); (case z15 => k_is); (case z16 => k_is); (case z17 => k_is); (case z18 => k_is); (case Ua => k_is); (case Uq => k_exc); (case Uk => k_is); (case Ut => k_is); (case Uv => k_is); (case Uhg => k_is); (case Uhk => k_is); (case Uhs => k_is); (case Uhd => k_is); (case Uha => k_is); (case Uhn => k_is); (case Uht => k_is); (case Uhm => k_is); (case Ta => k_is); (case Tq => k_exc); (case Tk => k_is); (case Tt => k_is); (case Tv => k_is); (case Thg => k_is); (case Thk => k_is); (case Ths => k_is); (case Thd => k_is); (case Tha => k_is); (case Thn => k_is); (case Tht => k_is); (case Thm => k_is); (case eUU => k_is); (case eUT => k_is); (case eTU => k_is); (case eTT => k_is)

