import PyProof.Rows.All
import Wide.All
import OpenK.AllK
import Wide.FinOn
import HandS.ForMost
import HandS.Wide
import HandS.TupAny
import HandS.Style
import HandS.Conv
import HandS.Codes
import HandS.Exc
import KE.SortData
import KE.DataMinMax
import PyProof.NeData
import KE.DataCmp
import PyProof.ListStr
import HandS.ListItems
import HandS.More
import HandS.Text
import HandS.IsInst
import HandS.RaiseMore
import KE.KTupSum
import HandS.TupMul
import PyProof.ReprRoads
import PyProof.StrBlock2
import PyProof.Claim2Refuses
import HandS.Strs
import HandS.SetFor
import HandS.Dict
import HandS.List
import HandS.Small
import HandS.Walk
import HandS.Comp
import HandS.Iter
import HandS.TryOnly
import KE.GoesEnum
import KE.GoesZip
import KE.GoesMore
import HandS.ExcField
import HandS.ExcInit
import HandS.ExcOwn
import HandS.ExcIs
import KE.KExcIs
import PyProof.EqAt
import PyProof.EqKinds
import PyProof.TupleCall
import HandS.Base
import HandS.Call
import HandS.Finally
import HandS.Flow
import KE.KIndexOf
import HandS.Ends
import KE.IntTextText
import PySem.Challenge.RW_ranksredrawn_k02_forms
set_option Elab.async false
set_option linter.all false
set_option maxRecDepth 100000
section
set_option autoImplicit false
/-! A small evaluator: data, a store of objects that change, expressions and statements. Plain Lean; what it says of the program is shown in Snd. -/
namespace DV
open PySem (Str)

abbrev Key := Sum Int Str

/-- data: trees; loc l: the object at place l of the store; scr: a list that is only read (the script) -/
inductive D where
  | non | bl (b : Bool) | int (i : Int) | str (x : Str) | tup (xs : List D) | lst (xs : List D) | dct (kvs : List (Key × D)) | loc (l : Nat) | scr (xs : List D)
  deriving Inhabited

/-- an object that may change -/
inductive SO where
  | lst (xs : List D) | dct (kvs : List (Key × D)) | ins (C : String) (fs : List (Str × D)) | exn (C : String) (fs : List (Str × D))
  deriving Inhabited
abbrev Store := List SO
abbrev Fr := List (Option D)

inductive Res (α : Type) where
  | ok (a : α) | exc (c : String) (fs : List (Str × D)) (r : Fr) (m : Store) | err
def Res.bind {α β : Type} : Res α → (α → Res β) → Res β
  | .ok a, f => f a
  | .exc c fs r m, _ => .exc c fs r m
  | .err, _ => .err
@[simp] theorem bind_ok {α β : Type} (a : α) (f : α → Res β) : (Res.ok a).bind f = f a := rfl
@[simp] theorem bind_err {α β : Type} (f : α → Res β) : (Res.err : Res α).bind f = .err := rfl
@[simp] theorem bind_exc {α β : Type} (c : String) (fs : List (Str × D)) (r : Fr) (m : Store) (f : α → Res β) : (Res.exc c fs r m : Res α).bind f = .exc c fs r m := rfl
/-- an exception leaves the statement with the names as they stand, or is not covered -/
def atF {α : Type} (k : Bool) (r : Fr) : Res α → Res α
  | .ok a => .ok a
  | .exc c fs _ m => if k then .exc c fs r m else .err
  | .err => .err
def noX {α : Type} : Res α → Res α
  | .ok a => .ok a
  | _ => .err
@[simp] theorem atF_ok {α : Type} (k : Bool) (r : Fr) (a : α) : atF k r (.ok a) = .ok a := rfl
@[simp] theorem atF_err {α : Type} (k : Bool) (r : Fr) : atF k r (.err : Res α) = .err := rfl
@[simp] theorem noX_ok {α : Type} (a : α) : noX (.ok a) = .ok a := rfl
@[simp] theorem noX_err {α : Type} : noX (.err : Res α) = .err := rfl

def sizeMax : Nat := 2 ^ 24

/-! ### trees without places -/
mutual
def D.mapLoc (k : Nat → Option D) : D → Option D
  | .non => some .non | .bl b => some (.bl b) | .int i => some (.int i) | .str x => some (.str x)
  | .tup xs => (mapLocs k xs).map .tup
  | .lst xs => (mapLocs k xs).map .lst
  | .dct kvs => (mapLocK k kvs).map .dct
  | .loc l => k l
  | .scr xs => (mapLocs k xs).map .scr
def mapLocs (k : Nat → Option D) : List D → Option (List D)
  | [] => some []
  | x :: xs => (x.mapLoc k).bind fun y => (mapLocs k xs).map (y :: ·)
def mapLocK (k : Nat → Option D) : List (Key × D) → Option (List (Key × D))
  | [] => some []
  | (i, x) :: xs => (x.mapLoc k).bind fun y => (mapLocK k xs).map ((i, y) :: ·)
end
/-- places from n on are replaced by what stands there -/
def frz (n : Nat) (m : Store) : Nat → D → Option D
  | 0 => D.mapLoc fun l => if l < n then some (.loc l) else none
  | f + 1 => D.mapLoc fun l => if l < n then some (.loc l) else match m[l]? with
    | some (.lst xs) => (xs.mapM (frz n m f)).map .lst
    | some (.dct kvs) => (kvs.mapM fun p => (frz n m f p.2).map (p.1, ·)).map .dct
    | _ => none
/-- the whole tree -/
def tree (m : Store) (d : D) : Option D := frz 0 m 6 d

mutual
/-- all places in it are below n -/
def D.under (n : Nat) : D → Bool
  | .non => true | .bl _ => true | .int _ => true | .str _ => true
  | .tup xs => unders n xs
  | .lst xs => unders n xs
  | .dct kvs => underK n kvs
  | .loc l => decide (l < n)
  | .scr xs => unders n xs
def unders (n : Nat) : List D → Bool
  | [] => true
  | x :: xs => x.under n && unders n xs
def underK (n : Nat) : List (Key × D) → Bool
  | [] => true
  | (_, x) :: xs => x.under n && underK n xs
end
def SO.under (n : Nat) : SO → Bool
  | .lst xs => unders n xs
  | .dct kvs => underK n kvs
  | .ins _ fs => unders n (fs.map (·.2))
  | .exn _ fs => unders n (fs.map (·.2))

/-! ### equality, order, texts -/
mutual
def D.toPy : D → PySem.PyData
  | .non => .none | .bl b => .bool b | .int i => .int i | .str x => .str x
  | .tup xs => .tuple (toPys xs)
  | .lst xs => .list (toPys xs)
  | .dct kvs => .dict (toPyK kvs)
  | .loc _ => .none
  | .scr xs => .list (toPys xs)
def toPys : List D → List PySem.PyData
  | [] => []
  | x :: xs => x.toPy :: toPys xs
def toPyK : List (Key × D) → List (PySem.PyData × PySem.PyData)
  | [] => []
  | (.inl i, x) :: xs => (.int i, x.toPy) :: toPyK xs
  | (.inr s, x) :: xs => (.str s, x.toPy) :: toPyK xs
end

mutual
/-- == -/
def eqD : D → D → Bool
  | .non, .non => true
  | .bl a, .bl b => a == b
  | .int i, .int j => decide (i = j)
  | .bl a, .int j => decide ((if a then (1 : Int) else 0) = j)
  | .int i, .bl b => decide (i = if b then (1 : Int) else 0)
  | .str x, .str y => decide (x = y)
  | .tup xs, .tup ys => eqDs xs ys
  | .lst xs, .lst ys => eqDs xs ys
  | .dct xs, .dct ys => decide (xs.length = ys.length) && eqDK xs ys
  | _, _ => false
def eqDs : List D → List D → Bool
  | [], [] => true
  | x :: xs, y :: ys => eqD x y && eqDs xs ys
  | _, _ => false
/-- each entry of the first stands in the other -/
def eqDK : List (Key × D) → List (Key × D) → Bool
  | [], _ => true
  | (k, x) :: xs, ys => (match (ys.find? fun p => decide (p.1 = k)) with | some q => eqD x q.2 | none => false) && eqDK xs ys
end
mutual
/-- no dict in it, no place -/
def D.nd : D → Bool
  | .non => true | .bl _ => true | .int _ => true | .str _ => true
  | .tup xs => nds xs
  | .lst xs => nds xs
  | _ => false
def nds : List D → Bool
  | [] => true
  | x :: xs => x.nd && nds xs
end
mutual
def D.dep : D → Nat
  | .tup xs => deps xs + 1
  | .lst xs => deps xs + 1
  | _ => 0
def deps : List D → Nat
  | [] => 0
  | x :: xs => max x.dep (deps xs)
end
mutual
/-- < of alike data -/
def ltD : D → D → Bool
  | .bl a, .bl b => !a && b
  | .int i, .int j => decide (i < j)
  | .str x, .str y => decide (x.cps.toList < y.cps.toList)
  | .tup xs, .tup ys => ltDs xs ys
  | .lst xs, .lst ys => ltDs xs ys
  | _, _ => false
def ltDs : List D → List D → Bool
  | _, [] => false
  | [], _ :: _ => true
  | x :: xs, y :: ys => if eqD x y then ltDs xs ys else ltD x y
end
mutual
def alikeD : D → D → Bool
  | .non, .non => true
  | .bl _, .bl _ => true
  | .int _, .int _ => true
  | .str _, .str _ => true
  | .tup xs, .tup ys => alikeDs xs ys
  | .lst xs, .lst ys => alikeDs xs ys
  | _, _ => false
def alikeDs : List D → List D → Bool
  | x :: xs, y :: ys => alikeD x y && alikeDs xs ys
  | [], _ => true
  | _ :: _, [] => true
end
def isNon : D → Bool
  | .non => true
  | _ => false
def leD (a b : D) : Bool := !ltD b a
def isTup1 : D → Bool
  | .tup (_ :: _) => true
  | _ => false
def noTup : D → Bool
  | .tup _ => false
  | .non => false
  | _ => true
/-- a list that can be sorted, all of whose items are trees -/
def Sortable (xs : List D) : Prop := (∀ x ∈ xs, x.nd = true ∧ x.dep ≤ 30) ∧ (∀ x ∈ xs, ∀ y ∈ xs, alikeD x y = true) ∧ ((∀ x ∈ xs, isTup1 x = true) ∨ (∀ x ∈ xs, noTup x = true))
def sortD (xs : List D) : List D := xs.mergeSort leD

/-! ### what stands there -/
def lstX (m : Store) : D → Option (List D)
  | .lst xs => some xs
  | .loc l => match m[l]? with | some (.lst xs) => some xs | _ => none
  | _ => none
def lstV (m : Store) : D → Option (List D)
  | .scr xs => some xs
  | .lst xs => some xs
  | .loc l => match m[l]? with | some (.lst xs) => some xs | _ => none
  | _ => none
def tupV : D → Option (List D)
  | .tup xs => some xs
  | _ => none
def seqV (m : Store) : D → Option (List D)
  | .tup xs => some xs
  | d => lstV m d
def dctV (m : Store) : D → Option (List (Key × D))
  | .dct kvs => some kvs
  | .loc l => match m[l]? with | some (.dct kvs) => some kvs | _ => none
  | _ => none
def tr (m : Store) (d : D) : Option D := if d.under 0 = true then some d else tree m d
def keyOf : D → Option Key
  | .int i => some (.inl i)
  | .str x => some (.inr x)
  | _ => none
def keyD : Key → D
  | .inl i => .int i
  | .inr x => .str x
def dget (kvs : List (Key × D)) (k : Key) : Option D := (kvs.find? fun p => decide (p.1 = k)).map (·.2)
def dput (kvs : List (Key × D)) (k : Key) (v : D) : List (Key × D) := if (kvs.any fun p => decide (p.1 = k)) then kvs.map (fun p => if p.1 = k then (p.1, v) else p) else kvs ++ [(k, v)]
def ddrop (kvs : List (Key × D)) (k : Key) : List (Key × D) := kvs.filter fun p => decide (p.1 ≠ k)

/-! ### places and slices -/
def ixN (n : Nat) (i : Int) : Option Nat := if 0 ≤ i then (if i < n then some i.toNat else none) else if -(n : Int) ≤ i then some (i + n).toNat else none
def sIx (n d : Nat) : Option Int → Nat
  | none => d
  | some v => if v < 0 then (v + n).toNat else min v.toNat n
def cut {α : Type} (xs : List α) (lo hi : Option Int) : List α := (xs.drop (sIx xs.length 0 lo)).take (sIx xs.length xs.length hi - sIx xs.length 0 lo)
def cutStr (z : Str) (lo hi : Option Int) : Str := ⟨(cut z.cps.toList lo hi).toArray⟩
def sign (c : Nat) : D := .str ⟨#[c]⟩

/-! ### new objects -/
abbrev RD := Res (D × Store)
def need (c : Prop) [Decidable c] {α : Type} (r : Res α) : Res α := if c then r else .err
def newL (f : Bool) (xs : List D) (m : Store) : RD := need (xs.length ≤ sizeMax) (if f then .ok (.loc m.length, m ++ [.lst xs]) else .ok (.lst xs, m))
def newD (f : Bool) (kvs : List (Key × D)) (m : Store) : RD := need (kvs.length ≤ sizeMax) (if f then .ok (.loc m.length, m ++ [.dct kvs]) else .ok (.dct kvs, m))
def newT (xs : List D) (m : Store) : RD := need (xs.length ≤ sizeMax) (.ok (.tup xs, m))
/-! ### operators -/
inductive BOp where | add | sub | mul | fdiv | mod | pow
inductive COp where | eq | ne | lt | le | gt | ge | in_ | notin
def mulOk (i j : Int) : Prop := (i.natAbs < 2 ^ 64 ∨ j.natAbs < 2 ^ 64) ∨ i.natAbs.log2 + j.natAbs.log2 < 1000000
instance (i j : Int) : Decidable (mulOk i j) := by unfold mulOk; infer_instance
def rep {α : Type} (n : Nat) (xs : List α) : List α := (List.replicate n xs).flatten

def binD (f : Bool) (o : BOp) (a b : D) (m : Store) : RD :=
  match o, a, b with
  | .add, .int i, .int j => .ok (.int (i + j), m)
  | .add, .str x, .str y => need (x.length + y.length ≤ sizeMax) (.ok (.str (x ++ y), m))
  | .add, .tup xs, .tup ys => newT (xs ++ ys) m
  | .add, a, b => match lstX m a, lstX m b with
    | some xs, some ys => newL f (xs ++ ys) m
    | _, _ => .err
  | .sub, .int i, .int j => .ok (.int (i - j), m)
  | .mul, .int i, .int j => need (mulOk i j) (.ok (.int (i * j), m))
  | .mul, .str x, .int k => need (-(2 ^ 62) < k ∧ k < 2 ^ 62 ∧ x.length * k.toNat ≤ sizeMax) (.ok (.str (PySem.Txt.mul x k), m))
  | .mul, .tup xs, .int k => need (xs ≠ [] ∧ 2 ≤ k ∧ k ≤ 1000 ∧ xs.length ≤ 1000) (newT (rep k.toNat xs) m)
  | .mul, a, .int k => match lstX m a with
    | some xs => need (-(2 ^ 62) < k ∧ k < 2 ^ 62 ∧ xs.length * k.toNat ≤ sizeMax) (newL f (rep k.toNat xs) m)
    | none => .err
  | .fdiv, .int i, .int j => need (0 < j ∧ j.natAbs.log2 < 9000) (.ok (.int (i / j), m))
  | .mod, .int i, .int j => need (0 < j) (.ok (.int (i % j), m))
  | .pow, .int i, .int j => need (0 ≤ j ∧ j ≤ 1000000 ∧ i.natAbs < 2 ^ 64) (.ok (.int (i ^ j.toNat), m))
  | _, _, _ => .err

def eqOk (x y : D) : Prop := x.nd = true ∧ y.nd = true ∧ (x.dep ≤ 40 ∨ y.dep ≤ 40)
instance (x y : D) : Decidable (eqOk x y) := by unfold eqOk; infer_instance
/-- a dict and the empty dict -/
def emptyD : D → D → Bool
  | .dct _, .dct [] => true
  | _, _ => false
def eqM (m : Store) (a b : D) : Res Bool := match tr m a, tr m b with
  | some x, some y => need (eqOk x y ∨ emptyD x y = true) (.ok (eqD x y))
  | _, _ => .err
def ordM (k : D → D → Bool) (m : Store) (a b : D) : Res Bool := match tr m a, tr m b with
  | some x, some y => need (eqOk x y ∧ alikeD x y = true ∧ isNon x = false) (.ok (k x y))
  | _, _ => .err
def trs (m : Store) : List D → Option (List D)
  | [] => some []
  | x :: xs => (tr m x).bind fun y => (trs m xs).map (y :: ·)
/-- the items and what is looked for, as trees that can be compared -/
def seekM {α : Type} (m : Store) (xs : List D) (a : D) (k : List D → D → Res α) : Res α := match trs m xs, tr m a with
  | some ys, some x => need ((∀ y ∈ ys, y.nd = true) ∧ x.nd = true ∧ x.dep ≤ 40) (k ys x)
  | _, _ => .err
def inC (m : Store) (a b : D) : Res Bool := match dctV m b with
  | some kvs => match keyOf a with
    | some k => .ok (dget kvs k).isSome
    | none => .err
  | none => match seqV m b with
    | some xs => seekM m xs a fun ys x => .ok (ys.any fun y => eqD y x)
    | none => .err
def inM (m : Store) (a b : D) : Res Bool := match b with
  | .str y => match a with
    | .str x => match x.cps.toList with
      | [c] => .ok (decide (c ∈ y.cps.toList))
      | _ => .err
    | _ => .err
  | b => inC m a b
def cmpB (o : COp) (a b : D) (m : Store) : Res Bool :=
  match o, a, b with
  | .eq, a, b => eqM m a b
  | .ne, a, b => (eqM m a b).bind fun c => .ok (!c)
  | .lt, .int i, .int j => .ok (decide (i < j))
  | .gt, .int i, .int j => .ok (decide (j < i))
  | .le, .int i, .int j => .ok (decide (i ≤ j))
  | .ge, .int i, .int j => .ok (decide (j ≤ i))
  | .lt, a, b => ordM (fun x y => ltD x y) m a b
  | .gt, a, b => ordM (fun x y => ltD y x) m a b
  | .le, a, b => ordM (fun x y => !ltD y x) m a b
  | .ge, a, b => ordM (fun x y => !ltD x y) m a b
  | .in_, a, b => inM m a b
  | .notin, a, b => (inM m a b).bind fun c => .ok (!c)

def ixS (xs : List D) (i : D) (m : Store) : RD := match i with
  | .int k => match (ixN xs.length k).bind fun j => xs[j]? with | some v => .ok (v, m) | none => .err
  | _ => .err
def ixK (kvs : List (Key × D)) (i : D) (m : Store) : RD := match keyOf i with
  | some k => match dget kvs k with | some v => .ok (v, m) | none => .err
  | none => .err
def ixC (a i : D) (m : Store) : RD := match dctV m a with
  | some kvs => ixK kvs i m
  | none => match seqV m a with
    | some xs => ixS xs i m
    | none => .err
def ixT (x : Str) (i : D) (m : Store) : RD := match i with
  | .int k => need (x.length ≤ sizeMax) (match (ixN x.cps.toList.length k).bind fun j => x.cps.toList[j]? with | some c => .ok (sign c, m) | none => .err)
  | _ => .err
def ixD (a i : D) (m : Store) : RD := match a with
  | .str x => ixT x i m
  | a => ixC a i m
def slC (f : Bool) (a : D) (lo hi : Option Int) (m : Store) : RD := match lstV m a with
  | some xs => newL f (cut xs lo hi) m
  | none => .err
def slD (f : Bool) (a : D) (lo hi : Option Int) (m : Store) : RD := match a with
  | .tup xs => newT (cut xs lo hi) m
  | .str z => need (z.length ≤ sizeMax) (.ok (.str (cutStr z lo hi), m))
  | a => slC f a lo hi m

/-! ### built-ins -/
inductive Ty where | int | str | bool | tuple | list | dict | own (c : String)
inductive Bi where
  | len | abs | int | str | repr | sum | min | max | min2 | max2 | sorted | list | tuple | dict | lenset | sortset | all | any | isi (t : Ty) | bool
def bools : List D → Option (List Bool)
  | [] => some []
  | .bl b :: r => (bools r).map (b :: ·)
  | _ :: _ => none
def intsD : List D → Option (List Int)
  | [] => some []
  | .int i :: r => (intsD r).map (i :: ·)
  | _ :: _ => none
def digitsVal (l : List Nat) : Nat := l.foldl (fun acc c => acc * 10 + (c - 48)) 0
def minD (x : D) (xs : List D) : D := xs.foldl (fun a y => if ltD y a = true then y else a) x
def maxD (x : D) (xs : List D) : D := xs.foldl (fun a y => if ltD a y = true then y else a) x
def tyB (m : Store) (d : D) (t : Ty) : Option Bool := match d, t with
  | .non, .int => some false | .non, .str => some false | .non, .bool => some false | .non, .tuple => some false | .non, .list => some false | .non, .dict => some false
  | .bl _, .int => some true | .bl _, .bool => some true | .bl _, .str => some false | .bl _, .tuple => some false | .bl _, .list => some false | .bl _, .dict => some false
  | .int _, .int => some true | .int _, .bool => some false | .int _, .str => some false | .int _, .tuple => some false | .int _, .list => some false | .int _, .dict => some false
  | .str _, .str => some true | .str _, .int => some false | .str _, .bool => some false | .str _, .tuple => some false | .str _, .list => some false | .str _, .dict => some false
  | .tup _, .tuple => some true | .tup _, .int => some false | .tup _, .str => some false | .tup _, .bool => some false | .tup _, .list => some false | .tup _, .dict => some false
  | .lst _, .list => some true | .lst _, .int => some false | .lst _, .str => some false | .lst _, .bool => some false | .lst _, .tuple => some false | .lst _, .dict => some false
  | .dct _, .dict => some true | .dct _, .int => some false | .dct _, .str => some false | .dct _, .bool => some false | .dct _, .tuple => some false | .dct _, .list => some false
  | .scr _, .list => some true | .scr _, .int => some false | .scr _, .str => some false | .scr _, .bool => some false | .scr _, .tuple => some false | .scr _, .dict => some false
  | .loc l, t => match m[l]?, t with
    | some (.lst _), .list => some true | some (.lst _), .int => some false | some (.lst _), .str => some false | some (.lst _), .bool => some false | some (.lst _), .tuple => some false | some (.lst _), .dict => some false
    | some (.dct _), .dict => some true | some (.dct _), .int => some false | some (.dct _), .str => some false | some (.dct _), .bool => some false | some (.dct _), .tuple => some false | some (.dct _), .list => some false
    | _, _ => none
  | _, _ => none
mutual
def D.nol : D → Bool
  | .tup xs => nols xs
  | .lst _ => false
  | .scr _ => false
  | .dct kvs => nolK kvs
  | _ => true
def nols : List D → Bool
  | [] => true
  | x :: xs => x.nol && nols xs
def nolK : List (Key × D) → Bool
  | [] => true
  | (_, x) :: xs => x.nol && nolK xs
end
def depthOk (d : D) : Prop := (d.nd = true ∨ d.nol = true) ∧ d.toPy.depth ≤ 40 ∧ d.toPy.showable = true ∧ d.toPy.shown.length ≤ sizeMax
instance (d : D) : Decidable (depthOk d) := by unfold depthOk; infer_instance
def lenD (a : D) (m : Store) : RD := match a with
  | .str x => need (x.length ≤ sizeMax) (.ok (.int x.length, m))
  | a => match dctV m a with
    | some kvs => .ok (.int kvs.length, m)
    | none => match seqV m a with
      | some ys => .ok (.int ys.length, m)
      | none => .err
def absD (a : D) (m : Store) : RD := match a with
  | .int i => .ok (.int (if i < 0 then -i else i), m)
  | _ => .err
def intD (a : D) (m : Store) : RD := match a with
  | .int i => .ok (.int i, m)
  | .bl b => .ok (.int (if b then 1 else 0), m)
  | .str x => match PySem.intText? x with
    | some n => need (x.length ≤ 640) (.ok (.int n, m))
    | none => .err
  | _ => .err
def boolD (a : D) (m : Store) : RD := match a with
  | .bl b => .ok (.bl b, m)
  | _ => .err
def strD (a : D) (m : Store) : RD := match a with
  | .str x => .ok (.str x, m)
  | .int i => need (i.natAbs.log2 < 1920) (.ok (.str (toString i : String), m))
  | _ => .err
def reprD (a : D) (m : Store) : RD := match tr m a with
  | some d => need (depthOk d) (.ok (.str d.toPy.shown, m))
  | none => .err
def sumD (a : D) (m : Store) : RD := match lstV m a with
  | some xs => match intsD xs with
    | some ns => .ok (.int ns.sum, m)
    | none => .err
  | none => .err
open Classical in
noncomputable def bestD (k : D → List D → D) (a : D) (m : Store) : RD := match seqV m a with
  | some (x :: ys) => need (Sortable (x :: ys)) (.ok (k x ys, m))
  | _ => .err
def strsS : List D → Option (List Str)
  | [] => some []
  | .str x :: r => (strsS r).map (x :: ·)
  | _ :: _ => none
open Classical in
noncomputable def sortedD (f : Bool) (a : D) (m : Store) : RD := match dctV m a with
  | some kvs => match strsS (kvs.map fun p => keyD p.1) with
    | some ks => need (ks.length < 64) (newL f (sortD (ks.map .str)) m)
    | none => match intsD (kvs.map fun p => keyD p.1) with
      | some ks => need (ks.length < 64) (newL f (sortD (ks.map .int)) m)
      | none => .err
  | none => match lstV m a with
    | some ys => need (Sortable ys) (newL f (sortD ys) m)
    | none => .err
def listQ (f : Bool) (a : D) (m : Store) : RD := match seqV m a with
  | some ys => newL f ys m
  | none => .err
def listK (f : Bool) (a : D) (m : Store) : RD := match dctV m a with
  | some kvs => newL f (kvs.map fun p => keyD p.1) m
  | none => listQ f a m
def listD (f : Bool) (a : D) (m : Store) : RD := match a with
  | .str x => newL f (x.cps.toList.map sign) m
  | a => listK f a m
/-- what a dict's items(), values() give -/
def dItems (v : Option Bool) (kvs : List (Key × D)) : List D := match v with
  | some true => kvs.map (·.2)
  | some false => kvs.map fun p => .tup [keyD p.1, p.2]
  | none => kvs.map fun p => keyD p.1
/-- list(d.items()) -/
def litemsD (f : Bool) (a : D) (m : Store) : RD := match dctV m a with
  | some kvs => newL f (dItems false kvs) m
  | none => .err
def tupleD (a : D) (m : Store) : RD := match seqV m a with
  | some ys => newT ys m
  | none => .err
def pairK : D → Option (Key × D)
  | .tup [k, v] => (keyOf k).map (·, v)
  | _ => none
def pairsK : List D → Option (List (Key × D))
  | [] => some []
  | x :: xs => (pairK x).bind fun p => (pairsK xs).map (p :: ·)
def dictP (f : Bool) (a : D) (m : Store) : RD := match lstV m a with
  | some ys => match pairsK ys with
    | some ps => newD f (ps.foldl (fun acc p => dput acc p.1 p.2) []) m
    | none => .err
  | none => .err
def dictL (f : Bool) (a : D) (m : Store) : RD := match dctV m a with
  | some kvs => newD f kvs m
  | none => dictP f a m
def boolsD (k : List Bool → Bool) (a : D) (m : Store) : RD := match lstV m a with
  | some ys => match bools ys with
    | some bs => .ok (.bl (k bs), m)
    | none => .err
  | none => .err
def isiD (t : Ty) (a : D) (m : Store) : RD := match tyB m a t with
  | some b => .ok (.bl b, m)
  | none => .err
/-- the least, the greatest of whole numbers -/
def foldI (k : Int → Int → Int) (a : D) (m : Store) : RD := match lstV m a with
  | some xs => match intsD xs with
    | some (n :: ns) => .ok (.int (ns.foldl k n), m)
    | _ => .err
  | none => .err
def minI : D → Store → RD := foldI fun a b => if b < a then b else a
def maxI : D → Store → RD := foldI fun a b => if a < b then b else a
/-- a list of whole numbers, with one at least -/
def isInts (a : D) (m : Store) : Bool := match lstV m a with
  | some xs => match intsD xs with
    | some (_ :: _) => true
    | _ => false
  | none => false
noncomputable def minA (a : D) (m : Store) : RD := if isInts a m = true then minI a m else bestD minD a m
noncomputable def maxA (a : D) (m : Store) : RD := if isInts a m = true then maxI a m else bestD maxD a m
/-- a built-in called -/
noncomputable def bi1 (f : Bool) : Bi → D → Store → RD
  | .len => lenD | .abs => absD | .int => intD | .bool => boolD | .str => strD | .repr => reprD 
  | .list => listD f | .tuple => tupleD | .dict => dictL f
  | .all => boolsD (fun bs => bs.all id) | .any => boolsD (fun bs => bs.any id)
  | .sum => sumD | .min => minA | .max => maxA | .sorted => sortedD f
  | _ => fun _ _ => .err
def bi2 : Bi → D → D → Store → RD
  | .min2, .int i, .int j, m => .ok (.int (if j < i then j else i), m)
  | .max2, .int i, .int j, m => .ok (.int (if j > i then j else i), m)
  | _, _, _, _ => .err
noncomputable def biD (f : Bool) (b : Bi) (xs : List D) (m : Store) : RD := match xs with
  | [a] => bi1 f b a m
  | [a, c] => bi2 b a c m
  | _ => .err

/-! ### methods of texts -/
inductive Sm where | join | split | partition | upper
def sm0D (t : Sm) (o : D) (m : Store) : RD := match t, o with
  | .upper, .str x => need (x.length ≤ 1000000) (.ok (.str (PySem.Txt.upper x), m))
  | _, _ => .err
def joinD (x : Str) (a : D) (m : Store) : RD := match seqV m a with
  | some ys => match strsS ys with
    | some ss => need ((ss.map (·.length)).sum + ss.length * x.length ≤ sizeMax) (.ok (.str (PySem.Txt.join x ss), m))
    | none => .err
  | none => .err
def sm1D (f : Bool) (t : Sm) (o a : D) (m : Store) : RD := match o with
  | .str x => match t with
    | .join => joinD x a m
    | .split => match a with
      | .str y => need ((y.length == 0) = false ∧ x.length + 2 ≤ sizeMax) (newL f ((PySem.Txt.split x y).map .str) m)
      | _ => .err
    | .partition => match a with
      | .str y => need ((y.length == 0) = false ∧ x.length ≤ sizeMax) (newT [.str (PySem.Txt.partition x y).1, .str (PySem.Txt.partition x y).2.1, .str (PySem.Txt.partition x y).2.2] m)
      | _ => .err
    | .upper => .err
  | _ => .err
def revC (f : Bool) (a : D) (m : Store) : RD := match lstV m a with
  | some xs => newL f xs.reverse m
  | none => .err
def revD (f : Bool) (a : D) (m : Store) : RD := match a with
  | .tup xs => newT xs.reverse m
  | a => revC f a m

/-! ### methods -/
inductive Mt where
  | append | extend | pop | popAt | insert | remove | index | count | reverse | clear | join | split | partition | upper | dpop | dget | update | items
def onList (o : D) (m : Store) (k : Nat → List D → RD) : RD := match o with
  | .loc l => match m[l]? with
    | some (.lst ys) => k l ys
    | _ => .err
  | _ => .err
def arg0 (xs : List D) (k : RD) : RD := match xs with
  | [] => k
  | _ => .err
def arg1 (xs : List D) (k : D → RD) : RD := match xs with
  | [v] => k v
  | _ => .err
def arg2 (xs : List D) (k : D → D → RD) : RD := match xs with
  | [v, w] => k v w
  | _ => .err
def insAt (l : Nat) (ys : List D) (i v : D) (m : Store) : RD := match i with
  | .int i => need (0 ≤ i ∧ i < 2 ^ 62 ∧ ys.length < sizeMax) (.ok (.non, m.set l (.lst (ys.take i.toNat ++ [v] ++ ys.drop i.toNat))))
  | _ => .err
/-- the first place of a text, of a whole number -/
def idxD (o : D) (xs : List D) (m : Store) : RD := match lstV m o with
  | some ys => arg1 xs fun v => match v with
    | .str x => match strsS ys with
      | some ss => match ss.findIdx? fun y => decide (y = x) with
        | some j => .ok (.int j, m)
        | none => .err
      | none => .err
    | .int x => match intsD ys with
      | some ss => match ss.findIdx? fun y => decide (y = x) with
        | some j => .ok (.int j, m)
        | none => .err
      | none => .err
    | _ => .err
  | none => .err
def popLast (l : Nat) (ys : List D) (m : Store) : RD := match ys.getLast? with
  | some y => .ok (y, m.set l (.lst ys.dropLast))
  | none => .err
def popAt (l : Nat) (ys : List D) (i : D) (m : Store) : RD := match i with
  | .int i => match ixN ys.length i with
    | some k => match ys[k]? with
      | some y => .ok (y, m.set l (.lst (ys.eraseIdx k)))
      | none => .err
    | none => .err
  | _ => .err
def extD (l : Nat) (ys : List D) (v : D) (m : Store) : RD := match lstX m v with
  | some zs => need (ys.length + zs.length ≤ sizeMax) (.ok (.non, m.set l (.lst (ys ++ zs))))
  | none => .err
/-- what a method may be called of -/
def recvOk (_t : Mt) (x : D) (m : Store) : Bool := (lstX m x).isSome
/-- a method called: the object at a place may change -/
def mtD (_f : Bool) (t : Mt) (o : D) (xs : List D) (m : Store) : RD :=
  match t with
  | .append => onList o m fun l ys => arg1 xs fun v => need (ys.length < sizeMax) (.ok (.non, m.set l (.lst (ys ++ [v]))))
  | .extend => onList o m fun l ys => arg1 xs fun v => extD l ys v m
  | .pop => onList o m fun l ys => arg0 xs (popLast l ys m)
  | .popAt => onList o m fun l ys => arg1 xs fun i => popAt l ys i m
  | .reverse => onList o m fun l ys => arg0 xs (.ok (.non, m.set l (.lst ys.reverse)))
  | .clear => onList o m fun l _ => arg0 xs (.ok (.non, m.set l (.lst [])))
  | .insert => onList o m fun l ys => arg2 xs fun i v => insAt l ys i v m
  | .index => idxD o xs m
  | _ => .err

/-- a[i] = v -/
def setL (l : Nat) (ys : List D) (i v : D) (m : Store) : Res Store := match i with
  | .int k => match ixN ys.length k with
    | some j => .ok (m.set l (.lst (ys.set j v)))
    | none => .err
  | _ => .err
def setK (l : Nat) (kvs : List (Key × D)) (i v : D) (m : Store) : Res Store := match keyOf i with
  | some k => need (kvs.length < sizeMax) (.ok (m.set l (.dct (dput kvs k v))))
  | none => .err
def setD (a i v : D) (m : Store) : Res Store := match a with
  | .loc l => match m[l]? with
    | some (.lst ys) => setL l ys i v m
    | some (.dct kvs) => setK l kvs i v m
    | _ => .err
  | _ => .err

/-! ### forms -/
inductive T where
  | name (i : Nat)
  | tup (ts : List T)
mutual
inductive E where
  | var (i : Nat) | int (n : Int) | bl (b : Bool) | non | str (x : Str) | con (x : Str)
  | bin (f : Bool) (o : BOp) (a b : E) | neg (a : E) | isi (t : Ty) (a : E) | sm0 (t : Sm) (o : E) | sm1 (f : Bool) (t : Sm) (o a : E) | rev (f : Bool) (a : E) | lrg (f : Bool) (a : E) | lset (a : E) | litems (f : Bool) (a : E) | isB (n k : Bool) (a : E) | orv (a b : E) | isx (a : E) (cs : List String) | fld (a : E) (n : Str) | dpop (o k x : E) | dget (o k x : E) | dclr (o : E) | tix (es : Es) (e : E)
  | cmp (o : COp) (a b : E) | cmp2 (o o' : COp) (a b c : E) | isN (a : E) | notN (a : E)
  | not (a : E) | and (es : Es) | or (es : Es) | ife (c a b : E)
  | tup (es : Es) | lst (f : Bool) (es : Es) | dct (f : Bool) (ps : Ps)
  | idx (a i : E) | slc (f : Bool) (a : E) (lo hi : Oe)
  | call (g : String) (es : Es) | bi (f : Bool) (b : Bi) (es : Es) | mt (f : Bool) (t : Mt) (o : E) (es : Es)
  | lc (f : Bool) (t : T) (own : List Nat) (it : I) (c : Oe) (e : E)
  | lcD (f : Bool) (t : T) (own : List Nat) (i : Nat) (v : Option Bool) (c : Oe) (e : E)
inductive Es where | nil | cons (e : E) (es : Es)
inductive Ps where | nil | cons (k v : E) (ps : Ps)
inductive Oe where | none | some (e : E)
inductive I where
  | seq (e : E) | rng1 (a : E) | rng2 (a b : E) | rng3 (a b c : E) | enum (e : E) | zip (a b : E) | zip3 (a b c : E)
end
mutual
inductive S where
  | asg (t : T) (e : E) | par (ts : List Nat) (es : Es) | seti (a i e : E) | swp (a i b j e : E) | aug (i : Nat) (o : BOp) (e : E) | augi (a i : E) (o : BOp) (e : E)
  | expr (e : E) | ret (e : E) | retN
  | if_ (c : E) (a b : Ss) | while_ (c : E) (b : Ss) | for_ (t : T) (it : I) (b : Ss) | forD (t : T) (i : Nat) (v : Option Bool) (b : Ss)
  | pass | brk | cont | never | raise0 (c : String) (x : Str) | raise1 (c : String) (e : E) | try_ (b : Ss) (c : String) (i : Nat) (h : Ss)
inductive Ss where | nil | cons (s : S) (ss : Ss)
end
/-! ### targets -/
mutual
def asgT (m : Store) : T → D → Fr → Option Fr
  | .name i, d, r => if i < r.length then some (r.set i (some d)) else none
  | .tup ts, .tup ds, r => asgTs m ts ds r
  | .tup ts, .lst ds, r => asgTs m ts ds r
  | .tup ts, .loc l, r => (lstV m (.loc l)).bind fun ds => asgTs m ts ds r
  | _, _, _ => none
def asgTs (m : Store) : List T → List D → Fr → Option Fr
  | [], [], r => some r
  | t :: ts, d :: ds, r => (asgT m t d r).bind (asgTs m ts ds)
  | _, _, _ => none
end
def wipe (r : Fr) : List Nat → Fr
  | [] => r
  | v :: vs => (wipe r vs).set v none

/-! ### the evaluator -/
structure G where
  fn : String → List D → Store → RD
  con : Str → Option D
  /-- is the first class under the other -/
  sub : String → String → Option Bool
  /-- a class of exceptions: the field that its own __init__ sets, or none -/
  init : String → Option (Option Str)
inductive Fl where | next | ret (d : D) | brk | cont
abbrev RS := Res (Fl × Fr × Store)
def ofO {α : Type} : Option α → Res α
  | some a => .ok a
  | none => .err
def isB {α : Type} (d : D) (k : Bool → Res α) : Res α := match d with
  | .bl b => k b
  | _ => .err
/-- what is walked: the items, and what must stand as it stood -/
structure Src where
  items : List D
  still : Store → Prop
def rngL (a : Int) (n : Nat) (c : Int) : List D := (List.range n).map fun i => .int (a + (i : Nat) * c)
def rngN (a b c : Int) : Nat := if 0 < c then ((b - a + c - 1) / c).toNat else ((a - b + (-c) - 1) / (-c)).toNat
def small62 (i : Int) : Prop := -(2 ^ 62) ≤ i ∧ i < 2 ^ 62
instance (i : Int) : Decidable (small62 i) := by unfold small62; infer_instance
def small61 (i : Int) : Prop := -(2 ^ 61) ≤ i ∧ i < 2 ^ 61
instance (i : Int) : Decidable (small61 i) := by unfold small61; infer_instance
/-- range of three: one step down, or steps up -/
def rng3D (i j k : Int) (m : Store) : Res (Src × Store) := if k = -1 then need (small62 i ∧ small62 j) (.ok (⟨rngL i (i - j).toNat (-1), fun _ => True⟩, m)) else need (small61 i ∧ small61 j ∧ 1 ≤ k ∧ k ≤ 1000) (.ok (⟨rngL i (rngN i j k) k, fun _ => True⟩, m))
def pairs : Nat → List D → List D
  | _, [] => []
  | i, x :: xs => .tup [.int i, x] :: pairs (i + 1) xs
def enumL (xs : List D) : List D := pairs 0 xs
def zipL (xs ys : List D) : List D := (xs.zip ys).map fun p => .tup [p.1, p.2]
def zipL3 (xs ys zs : List D) : List D := (xs.zip (ys.zip zs)).map fun p => .tup [p.1, p.2.1, p.2.2]

open Classical in
noncomputable def loopL (src : Store → Prop) (turn : D → Store → Res (Option D × Store)) : List D → List D → Store → Res (List D × Store)
  | [], acc, m => need (src m) (.ok (acc, m))
  | x :: xs, acc, m => need (src m) ((noX (turn x m)).bind fun (o, m') => match o with
    | some y => loopL src turn xs (acc ++ [y]) m'
    | none => loopL src turn xs acc m')
open Classical in
noncomputable def loopF (src : Store → Prop) (turn : D → Fr → Store → RS) : List D → Fr → Store → RS
  | [], r, m => need (src m) (.ok (.next, r, m))
  | x :: xs, r, m => need (src m) ((turn x r m).bind fun (fl, r', m') => match fl with
    | .next => loopF src turn xs r' m'
    | .cont => loopF src turn xs r' m'
    | .brk => .ok (.next, r', m')
    | .ret d => .ok (.ret d, r', m'))
def loopN (test : Fr → Store → Res (Bool × Store)) (body : Fr → Store → RS) : Nat → Fr → Store → RS
  | 0, _, _ => .err
  | n + 1, r, m => (test r m).bind fun (b, m1) => if b then (body r m1).bind fun (fl, r', m') => match fl with
    | .next => loopN test body n r' m'
    | .cont => loopN test body n r' m'
    | .brk => .ok (.next, r', m')
    | .ret d => .ok (.ret d, r', m')
    else .ok (.next, r, m1)
open Classical in
noncomputable def loopW (test : Fr → Store → Res (Bool × Store)) (body : Fr → Store → RS) (r : Fr) (m : Store) : RS :=
  if h : ∃ n, loopN test body n r m ≠ .err then loopN test body h.choose r m else .err

def seqJ (x : D) (m1 : Store) : Res (Src × Store) := match seqV m1 x with
  | some xs => .ok (⟨xs, fun m' => seqV m' x = some xs⟩, m1)
  | none => .err
def seqI (x : D) (m1 : Store) : Res (Src × Store) := match x with
  | .str z => .ok (⟨z.cps.toList.map sign, fun _ => True⟩, m1)
  | x => seqJ x m1
def lrgD (f : Bool) (x : D) (m : Store) : RD := match x with
  | .int n => need (-(2 ^ 62) ≤ n ∧ n ≤ 16777216) (newL f (rngL 0 n.toNat 1) m)
  | _ => .err
/-- each once, in order of the first -/
def onceS (xs : List Str) : List Str := xs.foldl (fun acc x => if x ∈ acc then acc else acc ++ [x]) []
theorem onceS_snoc (xs : List Str) (x : Str) : onceS (xs ++ [x]) = if x ∈ onceS xs then onceS xs else onceS xs ++ [x] := by
  unfold onceS; rw [List.foldl_append]; rfl
theorem rev_ind {P : List Str → Prop} (h0 : P []) (h1 : ∀ xs x, P xs → P (xs ++ [x])) (xs : List Str) : P xs := by
  have : ∀ n (xs : List Str), xs.length = n → P xs := by
    intro n
    induction n with
    | zero => intro xs h; rw [List.length_eq_zero_iff.mp h]; exact h0
    | succ n ih =>
      intro xs h
      have hne : xs ≠ [] := by intro e; rw [e] at h; simp at h
      rw [← List.dropLast_concat_getLast hne]
      exact h1 _ _ (ih _ (by rw [List.length_dropLast]; omega))
  exact this _ xs rfl
theorem onceS_mem (xs : List Str) (y : Str) : y ∈ onceS xs ↔ y ∈ xs := by
  refine rev_ind (P := fun xs => y ∈ onceS xs ↔ y ∈ xs) (by simp [onceS]) (fun xs x ih => ?_) xs
  rw [onceS_snoc, List.mem_append, List.mem_singleton, ← ih]
  by_cases h : x ∈ onceS xs
  · rw [if_pos h]
    exact ⟨.inl, fun h2 => h2.elim id fun e => e ▸ h⟩
  · rw [if_neg h, List.mem_append, List.mem_singleton]
theorem onceS_le (xs : List Str) : (onceS xs).length ≤ xs.length := by
  refine rev_ind (P := fun xs => (onceS xs).length ≤ xs.length) (by simp [onceS]) (fun xs x ih => ?_) xs
  rw [onceS_snoc]
  split
  · simp; omega
  · simp; omega
/-- is a truth value this one -/
def isBD (n k : Bool) (x : D) (m : Store) : RD := match x with
  | .bl b => .ok (.bl (if n then !decide (b = k) else decide (b = k)), m)
  | _ => .err
def lsetD (x : D) (m : Store) : RD := match seqV m x with
  | some ys => match strsS ys with
    | some ss => need (ss.length < 4000) (.ok (.int (onceS ss).length, m))
    | none => .err
  | none => .err
/-- whole numbers alone -/
def onlyI (y : D) (m : Store) : RD := match y with
  | .int i => .ok (.int i, m)
  | _ => .err
def orD (x : D) (m : Store) (k : RD) : RD := match x with
  | .int i => if i = 0 then k else .ok (.int i, m)
  | .non => k
  | _ => .err
def isDL (x : D) (m : Store) : Bool := match x with
  | .loc l => match m[l]? with
    | some (.dct _) => true
    | _ => false
  | _ => false
def isxD (sub : String → String → Option Bool) (cs : List String) (x : D) (m : Store) : RD := match x with
  | .loc l => match m[l]? with
    | some (.exn c _) => match cs.mapM (sub c) with
      | some bs => .ok (.bl (bs.any id), m)
      | none => .err
    | _ => .err
  | _ => .err
def fldD (init : String → Option (Option Str)) (n : Str) (x : D) (m : Store) : RD := match x with
  | .loc l => match m[l]? with
    | some (.exn c fs) => need (init c = some (some n)) (match fs.lookup n with
      | some v => .ok (v, m)
      | none => .err)
    | _ => .err
  | _ => .err
/-- an own dict -/
def isDc (x : D) (m : Store) : Bool := match x with
  | .loc l => match m[l]? with
    | some (.dct _) => true
    | _ => false
  | _ => false
def popK (l : Nat) (kvs : List (Key × D)) (i d : D) (m : Store) : RD := match keyOf i with
  | some k => match dget kvs k with
    | some v => .ok (v, m.set l (.dct (ddrop kvs k)))
    | none => .ok (d, m)
  | none => .err
def dpopD (a i d : D) (m : Store) : RD := match a with
  | .loc l => match m[l]? with
    | some (.dct kvs) => popK l kvs i d m
    | _ => .err
  | _ => .err
def getK (kvs : List (Key × D)) (i d : D) (m : Store) : RD := match keyOf i with
  | some k => .ok ((dget kvs k).getD d, m)
  | none => .err
def dgetD (a i d : D) (m : Store) : RD := match dctV m a with
  | some kvs => getK kvs i d m
  | none => .err
/-- (a, b, c).index(k) -/
def tixD (x y : D) (m : Store) : RD := match x, y with
  | .tup xs, .str k => match strsS xs with
    | some ss => match ss.findIdx? fun z => decide (z = k) with
      | some j => .ok (.int j, m)
      | none => .err
    | none => .err
  | _, _ => .err
def dclrD (a : D) (m : Store) : RD := match a with
  | .loc l => match m[l]? with
    | some (.dct _) => .ok (.non, m.set l (.dct []))
    | _ => .err
  | _ => .err
def pr2 (x : D) : Res (D × D) := match x with
  | .tup xs => match xs with
    | [v, w] => .ok (v, w)
    | _ => .err
  | _ => .err
/-- tests that raise nothing -/
def nxA : E → Bool
  | .var _ => true | .int _ => true | .bl _ => true | .non => true | .str _ => true | .con _ => true
  | _ => false
def nxT : E → Bool
  | .cmp _ a b => nxA a && nxA b
  | e => nxA e
mutual
/-- expressions out of which an exception is covered -/
def rz : E → Bool
  | .var _ => true | .int _ => true | .bl _ => true | .non => true | .str _ => true | .con _ => true
  | .bin _ _ a b => rz a && rz b
  | .idx a b => rz a && rz b
  | .cmp _ a b => rz a && rz b
  | .tup es => rzs es
  | .call _ es => rzs es
  | .ife k a b => nxT k && (rz a && rz b)
  | _ => false
def rzs : Es → Bool
  | .nil => true
  | .cons e es => rz e && rzs es
end
mutual
noncomputable def evE (g : G) : E → Fr → Store → RD
  | .var i, r, m => match r[i]? with | some (some d) => .ok (d, m) | _ => .err
  | .int n, _, m => .ok (.int n, m)
  | .bl b, _, m => .ok (.bl b, m)
  | .non, _, m => .ok (.non, m)
  | .str x, _, m => .ok (.str x, m)
  | .con x, _, m => match g.con x with | some d => .ok (d, m) | none => .err
  | .bin f o a b, r, m => (evE g a r m).bind fun (x, m1) => (evE g b r m1).bind fun (y, m2) => binD f o x y m2
  | .neg a, r, m => (evE g a r m).bind fun (x, m1) => match x with | .int i => .ok (.int (-i), m1) | _ => .err
  | .isi t a, r, m => (evE g a r m).bind fun (x, m1) => isiD t x m1
  | .sm0 t o, r, m => (evE g o r m).bind fun (x, m1) => sm0D t x m1
  | .sm1 f t o a, r, m => (evE g o r m).bind fun (x, m1) => (evE g a r m1).bind fun (y, m2) => sm1D f t x y m2
  | .rev f a, r, m => (evE g a r m).bind fun (x, m1) => revD f x m1
  | .lrg f a, r, m => (evE g a r m).bind fun (x, m1) => lrgD f x m1
  | .lset a, r, m => (evE g a r m).bind fun (x, m1) => lsetD x m1
  | .litems f a, r, m => (evE g a r m).bind fun (x, m1) => litemsD f x m1
  | .isB n k a, r, m => (evE g a r m).bind fun (x, m1) => isBD n k x m1
  | .orv a b, r, m => (evE g a r m).bind fun (x, m1) => orD x m1 ((evE g b r m1).bind fun (y, m2) => onlyI y m2)
  | .isx a cs, r, m => (evE g a r m).bind fun (x, m1) => isxD g.sub cs x m1
  | .fld a n, r, m => (evE g a r m).bind fun (x, m1) => fldD g.init n x m1
  | .dpop o k x, r, m => (evE g o r m).bind fun (a, m1) => need (isDc a m1 = true) ((evE g k r m1).bind fun (i, m2) => (evE g x r m2).bind fun (d, m3) => dpopD a i d m3)
  | .dget o k x, r, m => (evE g o r m).bind fun (a, m1) => need ((dctV m1 a).isSome = true) ((evE g k r m1).bind fun (i, m2) => (evE g x r m2).bind fun (d, m3) => dgetD a i d m3)
  | .dclr o, r, m => (evE g o r m).bind fun (a, m1) => dclrD a m1
  | .tix es e, r, m => (evEs g es r m).bind fun (xs, m1) => (newT xs m1).bind fun (x, m2) => (evE g e r m2).bind fun (y, m3) => tixD x y m3
  | .cmp o a b, r, m => (evE g a r m).bind fun (x, m1) => (evE g b r m1).bind fun (y, m2) => (cmpB o x y m2).bind fun c => .ok (.bl c, m2)
  | .cmp2 o o' a b c, r, m => (evE g a r m).bind fun (x, m1) => (evE g b r m1).bind fun (y, m2) => (cmpB o x y m2).bind fun k =>
      if k then (evE g c r m2).bind fun (z, m3) => (cmpB o' y z m3).bind fun k' => .ok (.bl k', m3) else .ok (.bl false, m2)
  | .isN a, r, m => (evE g a r m).bind fun (x, m1) => .ok (.bl (isNon x), m1)
  | .notN a, r, m => (evE g a r m).bind fun (x, m1) => .ok (.bl (!isNon x), m1)
  | .not a, r, m => (evE g a r m).bind fun (x, m1) => isB x fun b => .ok (.bl (!b), m1)
  | .and es, r, m => evAnd g es r m
  | .or es, r, m => evOr g es r m
  | .ife c a b, r, m => (evE g c r m).bind fun (x, m1) => isB x fun k => if k then evE g a r m1 else evE g b r m1
  | .tup es, r, m => (evEs g es r m).bind fun (xs, m1) => newT xs m1
  | .lst f es, r, m => (evEs g es r m).bind fun (xs, m1) => newL f xs m1
  | .dct f ps, r, m => evDct g f ps r m []
  | .idx a i, r, m => (evE g a r m).bind fun (x, m1) => (evE g i r m1).bind fun (y, m2) => ixD x y m2
  | .slc f a lo hi, r, m => (evE g a r m).bind fun (x, m1) => (evO g lo r m1).bind fun (l, m2) => (evO g hi r m2).bind fun (h, m3) => slD f x l h m3
  | .call n es, r, m => (evEs g es r m).bind fun (xs, m1) => g.fn n xs m1
  | .bi f b es, r, m => (evEs g es r m).bind fun (xs, m1) => biD f b xs m1
  | .mt f t o es, r, m => (evE g o r m).bind fun (x, m1) => need (recvOk t x m1 = true) ((evEs g es r m1).bind fun (xs, m2) => mtD f t x xs m2)
  | .lc f t own it c e, r, m => (evI g it r m).bind fun (s, m1) =>
      (loopL s.still (fun x m2 => (ofO (asgT m2 t x (wipe r own))).bind fun r2 => (evC g c r2 m2).bind fun (b, m3) =>
        if b then (evE g e r2 m3).bind fun (y, m4) => .ok (some y, m4) else .ok (none, m3)) s.items [] m1).bind fun (acc, m5) => newL f acc m5
  | .lcD f t own i v c e, r, m => match r[i]? with
    | some (some (.dct kvs)) => (loopL (fun _ => True) (fun x m2 => (ofO (asgT m2 t x (wipe r own))).bind fun r2 => (evC g c r2 m2).bind fun (b, m3) =>
        if b then (evE g e r2 m3).bind fun (y, m4) => .ok (some y, m4) else .ok (none, m3)) (dItems v kvs) [] m).bind fun (acc, m5) => newL f acc m5
    | _ => .err
noncomputable def evC (g : G) : Oe → Fr → Store → Res (Bool × Store)
  | .none, _, m => .ok (true, m)
  | .some c, r, m => (evE g c r m).bind fun (x, m1) => isB x fun b => .ok (b, m1)
noncomputable def evO (g : G) : Oe → Fr → Store → Res (Option Int × Store)
  | .none, _, m => .ok (none, m)
  | .some c, r, m => (evE g c r m).bind fun (x, m1) => match x with | .int i => .ok (some i, m1) | _ => .err
noncomputable def evEs (g : G) : Es → Fr → Store → Res (List D × Store)
  | .nil, _, m => .ok ([], m)
  | .cons e es, r, m => (evE g e r m).bind fun (x, m1) => (evEs g es r m1).bind fun (xs, m2) => .ok (x :: xs, m2)
noncomputable def evAnd (g : G) : Es → Fr → Store → RD
  | .nil, _, _ => .err
  | .cons e es, r, m => match es with
    | .nil => evE g e r m
    | .cons e' es' => (evE g e r m).bind fun (x, m1) => isB x fun b => if b then evAnd g (.cons e' es') r m1 else .ok (.bl false, m1)
noncomputable def evOr (g : G) : Es → Fr → Store → RD
  | .nil, _, _ => .err
  | .cons e es, r, m => match es with
    | .nil => evE g e r m
    | .cons e' es' => (evE g e r m).bind fun (x, m1) => isB x fun b => if b then .ok (.bl true, m1) else evOr g (.cons e' es') r m1
noncomputable def evDct (g : G) (f : Bool) : Ps → Fr → Store → List (Key × D) → RD
  | .nil, _, m, acc => newD f acc m
  | .cons k v ps, r, m, acc => (evE g k r m).bind fun (x, m1) => (evE g v r m1).bind fun (y, m2) => match keyOf x with
    | some i => evDct g f ps r m2 (dput acc i y)
    | none => .err
noncomputable def evI (g : G) : I → Fr → Store → Res (Src × Store)
  | .seq e, r, m => (evE g e r m).bind fun (x, m1) => seqI x m1
  | .rng1 a, r, m => (evE g a r m).bind fun (x, m1) => match x with
    | .int i => need (small62 i) (.ok (⟨rngL 0 i.toNat 1, fun _ => True⟩, m1))
    | _ => .err
  | .rng2 a b, r, m => (evE g a r m).bind fun (x, m1) => (evE g b r m1).bind fun (y, m2) => match x, y with
    | .int i, .int j => need (small62 i ∧ small62 j) (.ok (⟨rngL i (j - i).toNat 1, fun _ => True⟩, m2))
    | _, _ => .err
  | .rng3 a b c, r, m => (evE g a r m).bind fun (x, m1) => (evE g b r m1).bind fun (y, m2) => (evE g c r m2).bind fun (z, m3) => match x, y, z with
    | .int i, .int j, .int k => rng3D i j k m3
    | _, _, _ => .err
  | .enum e, r, m => (evE g e r m).bind fun (x, m1) => match seqV m1 x with
      | some xs => .ok (⟨enumL xs, fun m' => seqV m' x = some xs⟩, m1)
      | none => .err
  | .zip a b, r, m => (evE g a r m).bind fun (x, m1) => (evE g b r m1).bind fun (y, m2) => match seqV m2 x, seqV m2 y with
      | some xs, some ys => .ok (⟨zipL xs ys, fun m' => seqV m' x = some xs ∧ seqV m' y = some ys⟩, m2)
      | _, _ => .err
  | .zip3 a b c, r, m => (evE g a r m).bind fun (x, m1) => (evE g b r m1).bind fun (y, m2) => (evE g c r m2).bind fun (z, m3) => match seqV m3 x, seqV m3 y, seqV m3 z with
      | some xs, some ys, some zs => .ok (⟨zipL3 xs ys zs, fun m' => seqV m' x = some xs ∧ seqV m' y = some ys ∧ seqV m' z = some zs⟩, m3)
      | _, _, _ => .err
end

def setEach : List Nat → List D → Fr → Option Fr
  | [], [], r => some r
  | i :: is, d :: ds, r => if i < r.length then setEach is ds (r.set i (some d)) else none
  | _, _, _ => none
mutual
noncomputable def evS (g : G) : S → Fr → Store → RS
  | .asg t e, r, m => (atF (rz e) r (evE g e r m)).bind fun (x, m1) => (ofO (asgT m1 t x r)).bind fun r' => .ok (.next, r', m1)
  | .par ts es, r, m => (noX (evEs g es r m)).bind fun (xs, m1) => (ofO (setEach ts xs r)).bind fun r' => .ok (.next, r', m1)
  | .seti a i e, r, m => (noX (evE g e r m)).bind fun (v, m1) => (noX (evE g a r m1)).bind fun (x, m2) => (noX (evE g i r m2)).bind fun (y, m3) => (noX (setD x y v m3)).bind fun m4 => .ok (.next, r, m4)
  | .swp a i b j e, r, m => (noX (evE g e r m)).bind fun (z, m1) => (pr2 z).bind fun (v, w) => (noX (evE g a r m1)).bind fun (x, m2) => (noX (evE g i r m2)).bind fun (y, m3) => (noX (setD x y v m3)).bind fun m4 =>
      (noX (evE g b r m4)).bind fun (x', m5) => (noX (evE g j r m5)).bind fun (y', m6) => (noX (setD x' y' w m6)).bind fun m7 => .ok (.next, r, m7)
  | .aug i o e, r, m => match r[i]? with
    | some (some x) => (noX (evE g e r m)).bind fun (y, m1) => match x, y with
      | .int _, .int _ => (noX (binD false o x y m1)).bind fun (z, m2) => .ok (.next, r.set i (some z), m2)
      | _, _ => .err
    | _ => .err
  | .augi a i o e, r, m => (noX (evE g a r m)).bind fun (x, m1) => (noX (evE g i r m1)).bind fun (y, m2) => need (isDL x m2 = true) ((noX (ixD x y m2)).bind fun (z, m3) => (noX (evE g e r m3)).bind fun (v, m4) => need (isDL x m4 = true) (match z, v with
      | .int _, .int _ => (noX (binD false o z v m4)).bind fun (u, m5) => (noX (setD x y u m5)).bind fun m6 => .ok (.next, r, m6)
      | _, _ => .err))
  | .expr e, r, m => (atF (rz e) r (evE g e r m)).bind fun (_, m1) => .ok (.next, r, m1)
  | .ret e, r, m => (atF (rz e) r (evE g e r m)).bind fun (x, m1) => .ok (.ret x, r, m1)
  | .retN, r, m => .ok (.ret .non, r, m)
  | .if_ c a b, r, m => (noX ((evE g c r m).bind fun (x, m1) => isB x fun k => .ok (k, m1))).bind fun (k, m1) => if k then evSs g a r m1 else evSs g b r m1
  | .while_ c b, r, m => loopW (fun r m => noX ((evE g c r m).bind fun (x, m1) => isB x fun k => .ok (k, m1))) (evSs g b) r m
  | .for_ t it b, r, m => (noX (evI g it r m)).bind fun (s, m1) => loopF s.still (fun x r m => (ofO (asgT m t x r)).bind fun r' => evSs g b r' m) s.items r m1
  | .forD t i v b, r, m => match r[i]? with
    | some (some (.dct kvs)) => noX (loopF (fun _ => True) (fun x r m => (ofO (asgT m t x r)).bind fun r' => evSs g b r' m) (dItems v kvs) r m)
    | _ => .err
  | .pass, r, m => .ok (.next, r, m)
  | .brk, r, m => .ok (.brk, r, m)
  | .cont, r, m => .ok (.cont, r, m)
  | .never, _, _ => .err
  | .raise0 c _, r, m => match g.init c with
    | some none => .exc c [] r m
    | _ => .err
  | .raise1 c e, r, m => (noX (evE g e r m)).bind fun (v, m1) => match g.init c with
    | some (some f) => .exc c [(f, v)] r m1
    | _ => .err
  | .try_ b c i h, r, m => need (g.sub c c = some true) (match evSs g b r m with
    | .ok x => .ok x
    | .err => .err
    | .exc cn fs r' m' => match g.sub cn c with
      | some true => need (i < r'.length) ((noX (evSs g h (r'.set i (some (.loc m'.length))) (m' ++ [.exn cn fs]))).bind fun (fl, r2, m2) => .ok (fl, r2.set i none, m2))
      | some false => .exc cn fs r' m'
      | none => .err)
noncomputable def evSs (g : G) : Ss → Fr → Store → RS
  | .nil, r, m => .ok (.next, r, m)
  | .cons s ss, r, m => (evS g s r m).bind fun (fl, r', m') => match fl with
    | .next => evSs g ss r' m'
    | .ret d => .ok (.ret d, r', m')
    | .brk => .ok (.brk, r', m')
    | .cont => .ok (.cont, r', m')
end

/-! ### a def -/
structure FD where
  np : Nat
  ns : Nat
  clean : Bool
  body : Ss
def cleanOk (m m' : Store) : Prop := m.length ≤ m'.length ∧ ∀ o ∈ m'.take m.length, o.under m.length = true
instance (m m' : Store) : Decidable (cleanOk m m') := by unfold cleanOk; infer_instance
def finR (c : Bool) (d : D) (m m' : Store) : RD := if c then need (cleanOk m m') (match frz m.length m' 6 d with
    | some d' => .ok (d', m'.take m.length)
    | none => .err) else .ok (d, m')
/-- an exception leaves the def -/
def finX (c : Bool) (cn : String) (fs : List (Str × D)) (m m' : Store) : RD := if c then need (cleanOk m m') (match fs.mapM fun p => (frz m.length m' 6 p.2).map (p.1, ·) with
    | some fs' => .exc cn fs' [] (m'.take m.length)
    | none => .err) else .exc cn fs [] m'
noncomputable def runF (g : G) (fd : FD) (xs : List D) (m : Store) : RD :=
  need (xs.length = fd.np) (match evSs g fd.body (xs.map some ++ List.replicate (fd.ns - fd.np) none) m with
    | .ok (fl, _, m') => (match fl with
      | .ret d => finR fd.clean d m m'
      | .next => finR fd.clean .non m m'
      | _ => .err)
    | .exc cn fs _ m' => finX fd.clean cn fs m m'
    | .err => .err)
/-- a def more -/
noncomputable def G.add (g : G) (n : String) (fd : FD) : G := { g with fn := fun x => if x = n then runF g fd else g.fn x }
end DV

end
section
set_option Elab.async false
set_option linter.all false
set_option maxRecDepth 100000
set_option autoImplicit false
/-! What the evaluator's data are in the abstract heap. -/
namespace DV
open PySem PySem.Spec PyProof.Rows L2
abbrev St := L2.St
/-- where the objects that change stand; where objects stand that no value may show -/
structure Pl where
  l : List Addr
  hid : List Addr
def Pl.all (as : Pl) : List Addr := as.l ++ as.hid
def Pl.app (as : Pl) (ns : List Addr) : Pl := ⟨as.l ++ ns, as.hid⟩
def Pl.nil : Pl := ⟨[], []⟩
theorem Pl.app_all {as : Pl} {ns : List Addr} {a : Addr} (h : a ∈ as.all) : a ∈ (as.app ns).all := by
  rcases List.mem_append.mp h with h | h
  · exact List.mem_append_left _ (List.mem_append_left _ h)
  · exact List.mem_append_right _ h
theorem Pl.of_app {as : Pl} {ns : List Addr} {a : Addr} (h : a ∈ (as.app ns).all) : a ∈ as.all ∨ a ∈ ns := by
  rcases List.mem_append.mp h with h | h
  · rcases List.mem_append.mp h with h | h
    · exact .inl (List.mem_append_left _ h)
    · exact .inr h
  · exact .inl (List.mem_append_right _ h)

section
variable (K : PySem.W.Frag)
/-- a list, a tuple of the written part -/
def KL (a : Addr) (xs : List V) : Prop := ∃ (o : Obj) (its : Array Value) (n : Nat), K.lookup a = some o ∧ o.cls = .type "list" ∧ o.dict = none ∧ o.data = .seq its n ∧ its.size ≤ sizeLine ∧ Vals xs its.toList
def KT (a : Addr) (xs : List V) : Prop := ∃ (o : Obj) (its : Array Value) (n : Nat), K.lookup a = some o ∧ o.cls = .type "tuple" ∧ o.data = .seq its n ∧ its.size ≤ sizeLine ∧ Vals xs its.toList
mutual
/-- v stands for d; as: where the objects that change stand -/
inductive Rep (as : Pl) (H : Hp) : V → D → Prop
  | non : Rep as H .non .non
  | bl (b : Bool) : Rep as H (.bl b) (.bl b)
  | int (i : Int) : Rep as H (.int i) (.int i)
  | str (x : Str) : Rep as H (.str x) (.str x)
  | tup {a : Addr} {vs : List V} {ds : List D} : H a = some (.tup vs) → a ∉ as.all → Reps as H vs ds → Rep as H (.ref a) (.tup ds)
  | tupK {a : Addr} {vs : List V} {ds : List D} : KT K a vs → Reps as H vs ds → Rep as H (.ref a) (.tup ds)
  | lst {a : Addr} {vs : List V} {ds : List D} : H a = some (.lst vs) → a ∉ as.all → Reps as H vs ds → Rep as H (.ref a) (.lst ds)
  | scr {a : Addr} {o : Obj} {vs : List V} {ds : List D} : H a = some (.frz o (.lst vs)) → a ∉ as.all → Reps as H vs ds → Rep as H (.ref a) (.scr ds)
  | scrK {a : Addr} {vs : List V} {ds : List D} : KL K a vs → Reps as H vs ds → Rep as H (.ref a) (.scr ds)
  | dct {a : Addr} {kvs : List (Key × V)} {ds : List (Key × D)} : Rd H a (.dK kvs) → a ∉ as.all → RepK as H kvs ds → Rep as H (.ref a) (.dct ds)
  | loc {l : Nat} {a : Addr} : as.l[l]? = some a → Rep as H (.ref a) (.loc l)
inductive Reps (as : Pl) (H : Hp) : List V → List D → Prop
  | nil : Reps as H [] []
  | cons {v : V} {d : D} {vs : List V} {ds : List D} : Rep as H v d → Reps as H vs ds → Reps as H (v :: vs) (d :: ds)
inductive RepK (as : Pl) (H : Hp) : List (Key × V) → List (Key × D) → Prop
  | nil : RepK as H [] []
  | cons {k : Key} {v : V} {d : D} {vs : List (Key × V)} {ds : List (Key × D)} : Rep as H v d → RepK as H vs ds → RepK as H ((k, v) :: vs) ((k, d) :: ds)
end
/-- fields, one by one -/
def RepF (as : Pl) (H : Hp) (vs : List (Str × V)) (fs : List (Str × D)) : Prop := vs.map (·.1) = fs.map (·.1) ∧ Reps K as H (vs.map (·.2)) (fs.map (·.2))
/-- the class of a name -/
def clsK (c : String) (C : Addr) : Prop := PySem.W.nsIn K mainGlobals (Str.ofString c) = some (some (.ref C))
/-- an exception's dict -/
def XD (as : Pl) (H : Hp) (d : Option Addr) (fs : List (Str × D)) : Prop := (d = none ∧ fs = []) ∨ ∃ dd vs, d = some dd ∧ H dd = some (.xd vs) ∧ dd ∉ as.all ∧ RepF K as H vs fs
/-- an exception, as it flies -/
def XR (as : Pl) (H : Hp) (cls : Value) (d : Option Addr) (c : String) (fs : List (Str × D)) : Prop := ∃ C, cls = .ref C ∧ clsK K c C ∧ XD K as H d fs
/-- an exception that is held -/
def exT (a C : Addr) (d : Option Addr) : HO := .ext fun h => ∃ (oe : Obj) (fv : Array Value), h.get? a = some oe ∧ oe.cls = .ref C ∧ oe.dict = d ∧ oe.data = .fields fv
/-- the object at a is o -/
def ObR (as : Pl) (H : Hp) (a : Addr) : SO → Prop
  | .lst ds => ∃ vs, H a = some (.lst vs) ∧ Reps K as H vs ds
  | .dct ds => ∃ kvs, H a = some (.dK kvs) ∧ RepK K as H kvs ds
  | .ins c fs => ∃ C dx vs, H a = some (.ins C dx vs) ∧ clsK K c C ∧ RepF K as H vs fs
  | .exn c fs => ∃ C d, H a = some (exT a C d) ∧ clsK K c C ∧ XD K as H d fs
/-- the store -/
structure HS (as : Pl) (m : Store) (H : Hp) : Prop where
  len : as.l.length = m.length
  nd : as.l.Nodup
  ob : ∀ (l : Nat) (a : Addr) (o : SO), as.l[l]? = some a → m[l]? = some o → ObR K as H a o
  hid : ∀ a ∈ as.hid, a ∉ as.l ∧ ∃ o, H a = some o
/-- the slots -/
structure SR (as : Pl) (H : Hp) (s : St) (r : Fr) : Prop where
  len : r.length = s.length
  at_ : ∀ (i : Nat) (d : D), r[i]? = some (some d) → ∃ v, s[i]? = some (some v) ∧ Rep K as H v d
end
/-- later: more objects that change, more that are hidden, all else as it stood -/
structure Ext (as : Pl) (H : Hp) (as' : Pl) (H' : Hp) : Prop where
  pre : ∃ ns hs, as' = ⟨as.l ++ ns, hs ++ as.hid⟩ ∧ (∀ a ∈ ns, a ∉ as.l ∧ H a = none) ∧ ∀ a ∈ hs, a ∉ as.l ∧ H a = none
  fr : ∀ a o, H a = some o → a ∉ as.l → H' a = some o

section
variable {K : PySem.W.Frag} {as as1 as2 : Pl} {H H1 H2 : Hp}
theorem Ext.pre0 (as : Pl) (H : Hp) : ∃ ns hs, as = ⟨as.l ++ ns, hs ++ as.hid⟩ ∧ (∀ a ∈ ns, a ∉ as.l ∧ H a = none) ∧ ∀ a ∈ hs, a ∉ as.l ∧ H a = none := ⟨[], [], by simp, by simp, by simp⟩
theorem Ext.refl (as : Pl) (H : Hp) : Ext as H as H := ⟨Ext.pre0 as H, fun _ _ h _ => h⟩
theorem Ext.notinL (e : Ext as H as1 H1) {a : Addr} {o : HO} (h : H a = some o) (n : a ∉ as.l) : a ∉ as1.l := by
  obtain ⟨ns, hs, rfl, f, _⟩ := e.pre
  intro hm
  rcases List.mem_append.mp hm with hm | hm
  · exact n hm
  · have := (f a hm).2
    rw [h] at this; cases this
theorem Pl.notl {as : Pl} {a : Addr} (n : a ∉ as.all) : a ∉ as.l := fun h => n (List.mem_append_left _ h)
theorem Ext.notin (e : Ext as H as1 H1) {a : Addr} {o : HO} (h : H a = some o) (n : a ∉ as.all) : a ∉ as1.all := by
  have q := e.notinL h (Pl.notl n)
  obtain ⟨ns, hs, rfl, f, g⟩ := e.pre
  intro hm
  rcases List.mem_append.mp hm with hm | hm
  · exact q hm
  · rcases List.mem_append.mp hm with hm | hm
    · have := (g a hm).2
      rw [h] at this; cases this
    · exact n (List.mem_append_right _ hm)
theorem Ext.trans (e : Ext as H as1 H1) (f : Ext as1 H1 as2 H2) : Ext as H as2 H2 := by
  obtain ⟨ns, hs, e1, f1, g1⟩ := e.pre
  obtain ⟨ms, ks, e2, f2, g2⟩ := f.pre
  have back : ∀ a, a ∉ as.l → H1 a = none → H a = none := fun a n h => by
    cases q : H a with
    | none => rfl
    | some o => rw [e.fr a o q n] at h; cases h
  refine ⟨⟨ns ++ ms, ks ++ hs, by rw [e2, e1]; simp, fun a ha => ?_, fun a ha => ?_⟩, fun a o h n => f.fr a o (e.fr a o h n) (e.notinL h n)⟩
  · rcases List.mem_append.mp ha with ha | ha
    · exact f1 a ha
    · obtain ⟨g1, g2⟩ := f2 a ha
      have n : a ∉ as.l := fun h => g1 (by rw [e1]; exact List.mem_append_left _ h)
      exact ⟨n, back a n g2⟩
  · rcases List.mem_append.mp ha with ha | ha
    · obtain ⟨g1, g2⟩ := g2 a ha
      have n : a ∉ as.l := fun h => g1 (by rw [e1]; exact List.mem_append_left _ h)
      exact ⟨n, back a n g2⟩
    · exact g1 a ha
theorem Ext.loc (e : Ext as H as1 H1) {l : Nat} {a : Addr} (h : as.l[l]? = some a) : as1.l[l]? = some a := by
  obtain ⟨ns, hs, rfl, _, _⟩ := e.pre
  have hl : l < as.l.length := (List.getElem?_eq_some_iff.mp h).1
  show (as.l ++ ns)[l]? = some a
  rw [List.getElem?_append_left hl]; exact h
theorem Ext.rd (e : Ext as H as1 H1) {a : Addr} {u : HO} (h : Rd H a u) (n : a ∉ as.all) : Rd H1 a u := by
  rcases h with h | ⟨o, h⟩
  · exact .inl (e.fr _ _ h (Pl.notl n))
  · exact .inr ⟨o, e.fr _ _ h (Pl.notl n)⟩
theorem Ext.notinR (e : Ext as H as1 H1) {a : Addr} {u : HO} (h : Rd H a u) (n : a ∉ as.all) : a ∉ as1.all := by
  rcases h with h | ⟨o, h⟩ <;> exact e.notin h n

mutual
theorem Rep.ext (e : Ext as H as1 H1) : ∀ {v : V} {d : D}, Rep K as H v d → Rep K as1 H1 v d
  | _, _, .non => .non
  | _, _, .bl b => .bl b
  | _, _, .int i => .int i
  | _, _, .str x => .str x
  | _, _, .tup h n r => .tup (e.fr _ _ h (Pl.notl n)) (e.notin h n) (Reps.ext e r)
  | _, _, .tupK h r => .tupK h (Reps.ext e r)
  | _, _, .lst h n r => .lst (e.fr _ _ h (Pl.notl n)) (e.notin h n) (Reps.ext e r)
  | _, _, .scr h n r => .scr (e.fr _ _ h (Pl.notl n)) (e.notin h n) (Reps.ext e r)
  | _, _, .scrK h r => .scrK h (Reps.ext e r)
  | _, _, .dct h n r => .dct (e.rd h n) (e.notinR h n) (RepK.ext e r)
  | _, _, .loc h => .loc (e.loc h)
theorem Reps.ext (e : Ext as H as1 H1) : ∀ {vs : List V} {ds : List D}, Reps K as H vs ds → Reps K as1 H1 vs ds
  | _, _, .nil => .nil
  | _, _, .cons h t => .cons (Rep.ext e h) (Reps.ext e t)
theorem RepK.ext (e : Ext as H as1 H1) : ∀ {vs : List (Key × V)} {ds : List (Key × D)}, RepK K as H vs ds → RepK K as1 H1 vs ds
  | _, _, .nil => .nil
  | _, _, .cons h t => .cons (Rep.ext e h) (RepK.ext e t)
end
mutual
/-- the same values where the places, the hidden ones and the heap have changed -/
theorem Rep.move (hl : ∀ (l : Nat) (a : Addr), as.l[l]? = some a → as1.l[l]? = some a) (fr : ∀ (a : Addr) (o : HO), H a = some o → a ∉ as.all → H1 a = some o ∧ a ∉ as1.all) : ∀ {v : V} {d : D}, Rep K as H v d → Rep K as1 H1 v d
  | _, _, .non => .non
  | _, _, .bl b => .bl b
  | _, _, .int i => .int i
  | _, _, .str x => .str x
  | _, _, .tup h n r => .tup (fr _ _ h n).1 (fr _ _ h n).2 (Reps.move hl fr r)
  | _, _, .tupK h r => .tupK h (Reps.move hl fr r)
  | _, _, .lst h n r => .lst (fr _ _ h n).1 (fr _ _ h n).2 (Reps.move hl fr r)
  | _, _, .scr h n r => .scr (fr _ _ h n).1 (fr _ _ h n).2 (Reps.move hl fr r)
  | _, _, .scrK h r => .scrK h (Reps.move hl fr r)
  | _, _, .dct (.inl h) n r => .dct (.inl (fr _ _ h n).1) (fr _ _ h n).2 (RepK.move hl fr r)
  | _, _, .dct (.inr ⟨o, h⟩) n r => .dct (.inr ⟨o, (fr _ _ h n).1⟩) (fr _ _ h n).2 (RepK.move hl fr r)
  | _, _, .loc h => .loc (hl _ _ h)
theorem Reps.move (hl : ∀ (l : Nat) (a : Addr), as.l[l]? = some a → as1.l[l]? = some a) (fr : ∀ (a : Addr) (o : HO), H a = some o → a ∉ as.all → H1 a = some o ∧ a ∉ as1.all) : ∀ {vs : List V} {ds : List D}, Reps K as H vs ds → Reps K as1 H1 vs ds
  | _, _, .nil => .nil
  | _, _, .cons h t => .cons (Rep.move hl fr h) (Reps.move hl fr t)
theorem RepK.move (hl : ∀ (l : Nat) (a : Addr), as.l[l]? = some a → as1.l[l]? = some a) (fr : ∀ (a : Addr) (o : HO), H a = some o → a ∉ as.all → H1 a = some o ∧ a ∉ as1.all) : ∀ {vs : List (Key × V)} {ds : List (Key × D)}, RepK K as H vs ds → RepK K as1 H1 vs ds
  | _, _, .nil => .nil
  | _, _, .cons h t => .cons (Rep.move hl fr h) (RepK.move hl fr t)
end
theorem SR.ext (e : Ext as H as1 H1) {s : St} {r : Fr} (h : SR K as H s r) : SR K as1 H1 s r := ⟨h.len, fun i d q => let ⟨v, a, b⟩ := h.at_ i d q; ⟨v, a, b.ext e⟩⟩

/-! ### lists of representations -/
theorem Reps.length {vs : List V} {ds : List D} (h : Reps K as H vs ds) : vs.length = ds.length := by
  induction ds generalizing vs with
  | nil => cases h; rfl
  | cons d ds ih => cases h with | cons h t => simp [ih t]
theorem Reps.get {vs : List V} {ds : List D} (h : Reps K as H vs ds) {i : Nat} {d : D} (e : ds[i]? = some d) : ∃ v, vs[i]? = some v ∧ Rep K as H v d := by
  induction ds generalizing vs i with
  | nil => simp at e
  | cons x ds ih =>
    cases h with
    | cons h t =>
      cases i with
      | zero => simp at e; subst e; exact ⟨_, rfl, h⟩
      | succ i => simpa using ih t (by simpa using e)
theorem Reps.get' {vs : List V} {ds : List D} (h : Reps K as H vs ds) {i : Nat} {v : V} (e : vs[i]? = some v) : ∃ d, ds[i]? = some d ∧ Rep K as H v d := by
  induction ds generalizing vs i with
  | nil => cases h; simp at e
  | cons x ds ih =>
    cases h with
    | cons h t =>
      cases i with
      | zero => simp at e; subst e; exact ⟨_, rfl, h⟩
      | succ i => simpa using ih t (by simpa using e)
theorem Reps.append {vs ws : List V} {ds es : List D} (h : Reps K as H vs ds) (g : Reps K as H ws es) : Reps K as H (vs ++ ws) (ds ++ es) := by
  induction ds generalizing vs with
  | nil => cases h; exact g
  | cons x ds ih => cases h with | cons h t => exact .cons h (ih t)
theorem Reps.take {vs : List V} {ds : List D} (h : Reps K as H vs ds) (n : Nat) : Reps K as H (vs.take n) (ds.take n) := by
  induction ds generalizing vs n with
  | nil => cases h; simp; exact .nil
  | cons x ds ih =>
    cases h with
    | cons h t => cases n with
      | zero => exact .nil
      | succ n => exact .cons h (ih t n)
theorem Reps.drop {vs : List V} {ds : List D} (h : Reps K as H vs ds) (n : Nat) : Reps K as H (vs.drop n) (ds.drop n) := by
  induction ds generalizing vs n with
  | nil => cases h; simp; exact .nil
  | cons x ds ih =>
    cases h with
    | cons h t => cases n with
      | zero => exact .cons h t
      | succ n => exact ih t n
theorem Reps.set {vs : List V} {ds : List D} (h : Reps K as H vs ds) {v : V} {d : D} (g : Rep K as H v d) (i : Nat) : Reps K as H (vs.set i v) (ds.set i d) := by
  induction ds generalizing vs i with
  | nil => cases h; exact .nil
  | cons x ds ih =>
    cases h with
    | cons h t => cases i with
      | zero => exact .cons g t
      | succ i => exact .cons h (ih t i)
theorem Reps.erase {vs : List V} {ds : List D} (h : Reps K as H vs ds) (i : Nat) : Reps K as H (vs.eraseIdx i) (ds.eraseIdx i) := by
  induction ds generalizing vs i with
  | nil => cases h; exact .nil
  | cons x ds ih =>
    cases h with
    | cons h t => cases i with
      | zero => exact t
      | succ i => exact .cons h (ih t i)
theorem Reps.reverse {vs : List V} {ds : List D} (h : Reps K as H vs ds) : Reps K as H vs.reverse ds.reverse := by
  induction ds generalizing vs with
  | nil => cases h; exact .nil
  | cons x ds ih => cases h with | cons h t => rw [List.reverse_cons, List.reverse_cons]; exact (ih t).append (.cons h .nil)
theorem Reps.one {v : V} {ds : List D} (h : Reps K as H [v] ds) : ∃ d, ds = [d] ∧ Rep K as H v d := by
  cases h with | cons h t => cases t; exact ⟨_, rfl, h⟩
theorem Reps.one' {vs : List V} {d : D} (h : Reps K as H vs [d]) : ∃ v, vs = [v] ∧ Rep K as H v d := by
  cases h with | cons h t => cases t; exact ⟨_, rfl, h⟩
theorem Reps.two' {vs : List V} {d e : D} (h : Reps K as H vs [d, e]) : ∃ v w, vs = [v, w] ∧ Rep K as H v d ∧ Rep K as H w e := by
  cases h with | cons h t => obtain ⟨w, rfl, g⟩ := t.one'; exact ⟨_, _, rfl, h, g⟩
theorem Reps.zero' {vs : List V} (h : Reps K as H vs []) : vs = [] := by cases h; rfl

/-! ### what stands there -/
theorem KL.sq {a : Addr} {xs : List V} (h : KL K a xs) : SqL K H a xs := .inr h
theorem KT.sq {a : Addr} {xs : List V} (h : KT K a xs) : SqT K H a xs := .inr h
theorem lstV_rep {m : Store} (hs : HS K as m H) {v : V} {d : D} (h : Rep K as H v d) {ds : List D} (e : lstV m d = some ds) : ∃ a vs, v = .ref a ∧ SqL K H a vs ∧ Reps K as H vs ds := by
  cases h with
  | lst h n r => simp [lstV] at e; subst e; exact ⟨_, _, rfl, SqL.of h, r⟩
  | scr h n r => simp [lstV] at e; subst e; exact ⟨_, _, rfl, .inl (.inr ⟨_, h⟩), r⟩
  | scrK h r => simp [lstV] at e; subst e; exact ⟨_, _, rfl, h.sq, r⟩
  | @loc l a h =>
    simp only [lstV] at e
    cases q : m[l]? with
    | none => rw [q] at e; cases e
    | some o =>
      rw [q] at e
      cases o with
      | lst xs =>
        simp at e; subst e
        obtain ⟨vs, h1, h2⟩ := hs.ob _ _ _ h q
        exact ⟨_, _, rfl, SqL.of h1, h2⟩
      | _ => cases e
  | _ => simp [lstV] at e
theorem lstX_rep {m : Store} (hs : HS K as m H) {v : V} {d : D} (h : Rep K as H v d) {ds : List D} (e : lstX m d = some ds) : ∃ a vs, v = .ref a ∧ H a = some (.lst vs) ∧ Reps K as H vs ds := by
  cases h with
  | lst h n r => simp [lstX] at e; subst e; exact ⟨_, _, rfl, h, r⟩
  | @loc l a h =>
    simp only [lstX] at e
    cases q : m[l]? with
    | none => rw [q] at e; cases e
    | some o =>
      rw [q] at e
      cases o with
      | lst xs =>
        simp at e; subst e
        obtain ⟨vs, h1, h2⟩ := hs.ob _ _ _ h q
        exact ⟨_, _, rfl, h1, h2⟩
      | _ => cases e
  | _ => simp [lstX] at e
theorem tup_rep {v : V} {ds : List D} (h : Rep K as H v (.tup ds)) : ∃ a vs, v = .ref a ∧ SqT K H a vs ∧ Reps K as H vs ds := by
  cases h with
  | tup h n r => exact ⟨_, _, rfl, SqT.of h, r⟩
  | tupK h r => exact ⟨_, _, rfl, h.sq, r⟩
theorem seqV_rep {m : Store} (hs : HS K as m H) {v : V} {d : D} (h : Rep K as H v d) {ds : List D} (e : seqV m d = some ds) : ∃ a vs, v = .ref a ∧ (SqL K H a vs ∨ SqT K H a vs) ∧ Reps K as H vs ds := by
  cases d with
  | tup xs =>
    simp [seqV] at e; subst e
    obtain ⟨a, vs, h1, h2, h3⟩ := tup_rep h
    exact ⟨a, vs, h1, .inr h2, h3⟩
  | lst xs =>
    obtain ⟨a, vs, h1, h2, h3⟩ := lstV_rep hs h (ds := ds) e
    exact ⟨a, vs, h1, .inl h2, h3⟩
  | scr xs =>
    obtain ⟨a, vs, h1, h2, h3⟩ := lstV_rep hs h (ds := ds) e
    exact ⟨a, vs, h1, .inl h2, h3⟩
  | loc l =>
    obtain ⟨a, vs, h1, h2, h3⟩ := lstV_rep hs h (ds := ds) e
    exact ⟨a, vs, h1, .inl h2, h3⟩
  | _ => simp [seqV, lstV] at e
theorem dctV_rep {m : Store} (hs : HS K as m H) {v : V} {d : D} (h : Rep K as H v d) {ds : List (Key × D)} (e : dctV m d = some ds) : ∃ a kvs, v = .ref a ∧ Rd H a (.dK kvs) ∧ RepK K as H kvs ds := by
  cases h with
  | dct h n r => simp [dctV] at e; subst e; exact ⟨_, _, rfl, h, r⟩
  | @loc l a h =>
    simp only [dctV] at e
    cases q : m[l]? with
    | none => rw [q] at e; cases e
    | some o =>
      rw [q] at e
      cases o with
      | dct xs =>
        simp at e; subst e
        obtain ⟨vs, h1, h2⟩ := hs.ob _ _ _ h q
        exact ⟨_, _, rfl, .inl h1, h2⟩
      | _ => cases e
  | _ => simp [dctV] at e

/-! ### a new object, an object changed -/
theorem HS.fresh {m : Store} (hs : HS K as m H) {p : Addr} (hp : H p = none) : p ∉ as.l := by
  intro h
  obtain ⟨l, hl⟩ := List.mem_iff_getElem?.mp h
  have hlt : l < m.length := by rw [← hs.len]; exact (List.getElem?_eq_some_iff.mp hl).1
  have q := hs.ob l p m[l] hl (List.getElem?_eq_getElem hlt)
  cases e : m[l] with
  | lst xs => rw [e] at q; obtain ⟨vs, h1, _⟩ := q; rw [hp] at h1; cases h1
  | dct xs => rw [e] at q; obtain ⟨vs, h1, _⟩ := q; rw [hp] at h1; cases h1
  | ins _ _ => rw [e] at q; obtain ⟨_, _, _, h1, _⟩ := q; rw [hp] at h1; cases h1
  | exn _ _ => rw [e] at q; obtain ⟨_, _, h1, _⟩ := q; rw [hp] at h1; cases h1
theorem HS.freshA {m : Store} (hs : HS K as m H) {p : Addr} (hp : H p = none) : p ∉ as.all := fun h => by
  rcases List.mem_append.mp h with h | h
  · exact hs.fresh hp h
  · obtain ⟨o, e⟩ := (hs.hid p h).2
    rw [hp] at e; cases e
theorem Ext.new {p : Addr} {o : HO} (hp : H p = none) : Ext as H as (upd H p o) := ⟨Ext.pre0 as H, fun a u h _ => by rw [upd_ne (ne_of_none h hp)]; exact h⟩
theorem Ext.newL {p : Addr} {o : HO} (hp : H p = none) (n : p ∉ as.l) : Ext as H (as.app [p]) (upd H p o) := ⟨⟨[p], [], rfl, fun a h => by rw [List.mem_singleton] at h; subst h; exact ⟨n, hp⟩, fun _ h => nomatch h⟩, fun a u h _ => by rw [upd_ne (ne_of_none h hp)]; exact h⟩
theorem RepF.ext {vs : List (Str × V)} {fs : List (Str × D)} (e : Ext as H as1 H1) (h : RepF K as H vs fs) : RepF K as1 H1 vs fs := ⟨h.1, h.2.ext e⟩
theorem XD.ext {d : Option Addr} {fs : List (Str × D)} (e : Ext as H as1 H1) (h : XD K as H d fs) : XD K as1 H1 d fs := by
  rcases h with h | ⟨dd, vs, h1, h2, h3, h4⟩
  · exact .inl h
  · exact .inr ⟨dd, vs, h1, e.fr _ _ h2 (Pl.notl h3), e.notin h2 h3, h4.ext e⟩
theorem XR.ext {cls : Value} {d : Option Addr} {c : String} {fs : List (Str × D)} (e : Ext as H as1 H1) (h : XR K as H cls d c fs) : XR K as1 H1 cls d c fs := let ⟨C, a, b, x⟩ := h; ⟨C, a, b, x.ext e⟩
theorem ObR.some_ {a : Addr} {o : SO} (h : ObR K as H a o) : ∃ u, H a = some u := by
  cases o with
  | lst xs => obtain ⟨vs, h1, h2⟩ := h; exact ⟨_, h1⟩
  | dct xs => obtain ⟨vs, h1, h2⟩ := h; exact ⟨_, h1⟩
  | ins _ _ => obtain ⟨_, _, _, h1, _⟩ := h; exact ⟨_, h1⟩
  | exn _ _ => obtain ⟨_, _, h1, _⟩ := h; exact ⟨_, h1⟩
theorem ObR.ext {a : Addr} {o : SO} (e : Ext as H as1 H1) (h : ObR K as H a o) (k : H1 a = H a) : ObR K as1 H1 a o := by
  cases o with
  | lst xs => obtain ⟨vs, h1, h2⟩ := h; exact ⟨vs, k.trans h1, h2.ext e⟩
  | dct xs => obtain ⟨vs, h1, h2⟩ := h; exact ⟨vs, k.trans h1, h2.ext e⟩
  | ins _ _ => obtain ⟨C, dx, vs, h1, h2, h3⟩ := h; exact ⟨C, dx, vs, k.trans h1, h2, h3.ext e⟩
  | exn _ _ => obtain ⟨C, d, h1, h2, h3⟩ := h; exact ⟨C, d, k.trans h1, h2, h3.ext e⟩
theorem HS.new {m : Store} (hs : HS K as m H) {p : Addr} {o : HO} (hp : H p = none) : HS K as m (upd H p o) :=
  ⟨hs.len, hs.nd, fun l a u h1 h2 => (hs.ob l a u h1 h2).ext (Ext.new hp) (upd_ne fun e => hs.fresh hp (e ▸ List.mem_of_getElem? h1)), fun a ha => ⟨(hs.hid a ha).1, let ⟨o, e⟩ := (hs.hid a ha).2; ⟨o, by rw [upd_ne (ne_of_none e hp)]; exact e⟩⟩⟩
theorem HS.newL {m : Store} (hs : HS K as m H) {p : Addr} {o : HO} (hp : H p = none) {so : SO} (ho : ObR K (as.app [p]) (upd H p o) p so) : HS K (as.app [p]) (m ++ [so]) (upd H p o) := by
  have n := hs.fresh hp
  refine ⟨by simp [Pl.app, hs.len], ?_, fun l a u h1 h2 => ?_, fun a ha => ⟨fun hm => ?_, let ⟨o, e⟩ := (hs.hid a ha).2; ⟨o, by rw [upd_ne (ne_of_none e hp)]; exact e⟩⟩⟩
  · show (as.l ++ [p]).Nodup
    rw [List.nodup_append]
    exact ⟨hs.nd, by simp, fun a ha b hb => by rw [List.mem_singleton] at hb; subst hb; rintro rfl; exact n ha⟩
  · change (as.l ++ [p])[l]? = some a at h1
    by_cases hl : l < as.l.length
    · rw [List.getElem?_append_left hl] at h1
      rw [List.getElem?_append_left (by rw [← hs.len]; exact hl)] at h2
      exact (hs.ob l a u h1 h2).ext (Ext.newL hp n) (upd_ne fun e => n (e ▸ List.mem_of_getElem? h1))
    · have hl' : l = as.l.length := by
        have := (List.getElem?_eq_some_iff.mp h1).1
        simp at this; omega
      subst hl'
      rw [List.getElem?_append_right (Nat.le_refl _)] at h1
      rw [hs.len, List.getElem?_append_right (Nat.le_refl _)] at h2
      simp at h1 h2
      subst h1 h2
      exact ho
  · obtain ⟨o, e⟩ := (hs.hid a ha).2
    rcases List.mem_append.mp hm with hm | hm
    · exact (hs.hid a ha).1 hm
    · rw [List.mem_singleton] at hm; subst hm; rw [hp] at e; cases e
theorem Ext.put {l : Nat} {a : Addr} {o : HO} (h : as.l[l]? = some a) : Ext as H as (upd H a o) := ⟨Ext.pre0 as H, fun b u hb n => by rw [upd_ne (by rintro rfl; exact n (List.mem_of_getElem? h))]; exact hb⟩
theorem HS.put {m : Store} (hs : HS K as m H) {l : Nat} {a : Addr} {o : HO} (h : as.l[l]? = some a) {so : SO} (ho : ObR K as (upd H a o) a so) : HS K as (m.set l so) (upd H a o) := by
  refine ⟨by simp [hs.len], hs.nd, fun k b u h1 h2 => ?_, fun b hb => ⟨(hs.hid b hb).1, let ⟨u, e⟩ := (hs.hid b hb).2; ⟨u, by rw [upd_ne (by rintro rfl; exact (hs.hid _ hb).1 (List.mem_of_getElem? h))]; exact e⟩⟩⟩
  by_cases e : k = l
  · subst e
    rw [h] at h1; cases h1
    have hl : k < m.length := by rw [← hs.len]; exact (List.getElem?_eq_some_iff.mp h).1
    rw [List.getElem?_set_self hl] at h2
    cases h2
    exact ho
  · rw [List.getElem?_set_ne (Ne.symm e)] at h2
    refine (hs.ob k b u h1 h2).ext (Ext.put h) (upd_ne fun q => e ?_)
    subst q
    obtain ⟨k1, e1⟩ := List.getElem?_eq_some_iff.mp h1
    obtain ⟨k2, e2⟩ := List.getElem?_eq_some_iff.mp h
    exact (List.getElem_inj hs.nd).mp (e1.trans e2.symm)
theorem RepF.move {vs : List (Str × V)} {fs : List (Str × D)} (hl : ∀ (l : Nat) (a : Addr), as.l[l]? = some a → as1.l[l]? = some a) (fr : ∀ (a : Addr) (o : HO), H a = some o → a ∉ as.all → H1 a = some o ∧ a ∉ as1.all) (h : RepF K as H vs fs) : RepF K as1 H1 vs fs := ⟨h.1, h.2.move hl fr⟩
theorem XD.move {d : Option Addr} {fs : List (Str × D)} (hl : ∀ (l : Nat) (a : Addr), as.l[l]? = some a → as1.l[l]? = some a) (fr : ∀ (a : Addr) (o : HO), H a = some o → a ∉ as.all → H1 a = some o ∧ a ∉ as1.all) (h : XD K as H d fs) : XD K as1 H1 d fs := by
  rcases h with h | ⟨dd, vs, h1, h2, h3, h4⟩
  · exact .inl h
  · exact .inr ⟨dd, vs, h1, (fr _ _ h2 h3).1, (fr _ _ h2 h3).2, h4.move hl fr⟩
end
end DV

end
section
set_option Elab.async false
set_option linter.all false
set_option maxRecDepth 100000
set_option autoImplicit false
/-! What follows a result; operators. -/
namespace DV
open PySem PySem.Spec PyProof.Rows L2

/-- what follows a result: behind an answer Q, an error never -/
def Post {α β : Type} (K : PySem.W.Frag) (rel : Pl → Hp → β → α → Prop) (as : Pl) (H : Hp) (r : Res (α × Store)) (Q : β → Hp → Prop) : Prop :=
  match r with
  | .ok (d, m) => ∀ as' v H', Ext as H as' H' → HS K as' m H' → rel as' H' v d → Q v H'
  | _ => False
abbrev PostV (K : PySem.W.Frag) := Post (α := D) (β := V) K (fun as H => Rep K as H)
abbrev PostL (K : PySem.W.Frag) := Post (α := List D) (β := List V) K (fun as H => Reps K as H)
abbrev PostE {α : Type} (K : PySem.W.Frag) := Post (α := α) (β := α) K (fun _ _ x y => x = y)

section
variable {K : PySem.W.Frag} {as as1 : Pl} {H H1 : Hp} {α β γ δ : Type} {rel : Pl → Hp → β → α → Prop} {rel' : Pl → Hp → δ → γ → Prop}
theorem Post.bind {r : Res (α × Store)} {f : α × Store → Res (γ × Store)} {Q : δ → Hp → Prop} (h : Post K rel' as H (r.bind f) Q) :
    Post K rel as H r fun v H1 => ∃ as1 m1 a, Ext as H as1 H1 ∧ HS K as1 m1 H1 ∧ rel as1 H1 v a ∧ Post K rel' as1 H1 (f (a, m1)) Q := by
  cases r with
  | ok p =>
    obtain ⟨a, m⟩ := p
    intro as' v H' e hs rl
    refine ⟨as', m, a, e, hs, rl, ?_⟩
    rw [bind_ok] at h
    cases hf : f (a, m) with
    | ok q =>
      obtain ⟨c, m'⟩ := q
      rw [hf] at h
      exact fun as2 w H2 e2 => h as2 w H2 (e.trans e2)
    | _ => rw [hf] at h; exact h.elim
  | exc _ _ _ => exact h.elim
  | err => exact h.elim
theorem Post.later {r : Res (α × Store)} {Q : β → Hp → Prop} (e : Ext as H as1 H1) (h : Post K rel as H r Q) : Post K rel as1 H1 r Q := by
  cases r with
  | ok p => exact fun as2 w H2 e2 => h as2 w H2 (e.trans e2)
  | _ => exact h
theorem Post.mono {r : Res (α × Store)} {Q Q' : β → Hp → Prop} (h : Post K rel as H r Q) (k : ∀ v H', Q v H' → Q' v H') : Post K rel as H r Q' := by
  cases r with
  | ok p => exact fun as2 w H2 e2 hs rl => k _ _ (h as2 w H2 e2 hs rl)
  | _ => exact h
theorem Post.noX2 {ε ζ : Type} {v : Res ε} {f : ε → Res ζ} {g : ζ → Res (γ × Store)} {Q : δ → Hp → Prop} {rel' : Pl → Hp → δ → γ → Prop} (h : Post K rel' as H (((noX v).bind f).bind g) Q) : Post K rel' as H ((v.bind f).bind g) Q := by
  cases v with
  | ok a => exact h
  | exc _ _ _ _ => exact h.elim
  | err => exact h.elim
/-- the answer stands here -/
theorem Post.here {d : α} {m : Store} {v : β} {Q : β → Hp → Prop} (h : Post K rel as H (.ok (d, m)) Q) (hs : HS K as m H) (r : rel as H v d) : Q v H := h as v H (Ext.refl _ _) hs r
theorem Post.needs {c : Prop} [Decidable c] {r : Res (α × Store)} {Q : β → Hp → Prop} (h : Post K rel as H (need c r) Q) : c ∧ Post K rel as H r Q := by
  unfold need at h
  by_cases q : c
  · rw [if_pos q] at h; exact ⟨q, h⟩
  · rw [if_neg q] at h; exact h.elim
end

/-- an expression's reading by the evaluator -/
def RE (K : PySem.W.Frag) (ev : Fr → Store → RD) : TE := fun s H Q => ∃ as r m, HS K as m H ∧ SR K as H s r ∧ PostV K as H (ev r m) Q
def RA (K : PySem.W.Frag) (ev : Fr → Store → Res (List D × Store)) : TA := fun s H Q => ∃ as r m, HS K as m H ∧ SR K as H s r ∧ PostL K as H (ev r m) Q
def RT (K : PySem.W.Frag) (ev : Fr → Store → Res (Bool × Store)) : TT := fun s H Q => ∃ as r m, HS K as m H ∧ SR K as H s r ∧ PostE K as H (ev r m) Q
/-- an operator's, by values -/
def R2D (K : PySem.W.Frag) (op : D → D → Store → RD) : R2 := fun x y H Q => ∃ as m a b, HS K as m H ∧ Rep K as H x a ∧ Rep K as H y b ∧ PostV K as H (op a b m) Q

theorem PE.imp {X : Cx} {e : Expr} {t t' : TE} (h : PE X e t) (k : ∀ s H Q, t' s H Q → t s H Q) : PE X e t' := ⟨fun pins s σ H Q I hw => h.run pins s σ H Q I (k _ _ _ hw)⟩
theorem PT.imp {X : Cx} {e : Expr} {t t' : TT} (h : PT X e t) (k : ∀ s H Q, t' s H Q → t s H Q) : PT X e t' := ⟨fun pins s σ H Q I hw => h.run pins s σ H Q I (k _ _ _ hw)⟩
theorem PW.imp {X : Cx} {e : Expr} {t t' : TT} (h : PW X e t) (k : ∀ s H Q, t' s H Q → t s H Q) : PW X e t' := ⟨fun wh pins s σ H Q I hw => h.run wh pins s σ H Q I (k _ _ _ hw)⟩
theorem PA.imp {X : Cx} {e : List Expr} {t t' : TA} (h : PA X e t) (k : ∀ s H Q, t' s H Q → t s H Q) : PA X e t' := ⟨fun pos pins s σ H Q I hw => h.run pos pins s σ H Q I (k _ _ _ hw)⟩
theorem PS.imp {X : Cx} {e : Stmt} {t t' : TS} (h : PS X e t) (k : ∀ D s H, t' D s H → t D s H) : PS X e t' := ⟨fun pins s σ H D I hw => h.run pins s σ H D I (k _ _ _ hw)⟩
theorem PSs.imp {X : Cx} {e : List Stmt} {t t' : TS} (h : PSs X e t) (k : ∀ D s H, t' D s H → t D s H) : PSs X e t' := ⟨fun pins s σ H D I hw => h.run pins s σ H D I (k _ _ _ hw)⟩
theorem OpR.imp {X : Cx} {f : Value → Value → Sem Value} {r r' : R2} (h : OpR X f r) (k : ∀ x y H Q, r' x y H Q → r x y H Q) : OpR X f r' := fun pins s σ H x y v u Q I rx ry hw => h pins s σ H x y v u Q I rx ry (k _ _ _ _ hw)
theorem CallR.imp {X : Cx} {f : Value} {r r' : List V → Hp → VK → Prop} (h : CallR X f r) (k : ∀ x H Q, r' x H Q → r x H Q) : CallR X f r' := fun pins s σ H xs us Q I rx hw => h pins s σ H xs us Q I rx (k _ _ _ hw)

section
variable {K : PySem.W.Frag}
/-- from the left: the first part, then what follows -/
theorem RE.first {a : Fr → Store → RD} {γ δ : Type} {rel' : Pl → Hp → δ → γ → Prop} {f : D × Store → Res (γ × Store)} {as : Pl} {r : Fr} {m : Store} {s : St} {H : Hp} {Q : δ → Hp → Prop} {P : V → Hp → Prop}
    (hs : HS K as m H) (sr : SR K as H s r) (h : Post K rel' as H ((a r m).bind f) Q)
    (k : ∀ as1 m1 v x H1, Ext as H as1 H1 → HS K as1 m1 H1 → SR K as1 H1 s r → Rep K as1 H1 v x → Post K rel' as1 H1 (f (x, m1)) Q → P v H1) : RE K a s H P :=
  ⟨as, r, m, hs, sr, (Post.bind h).mono fun v H1 ⟨as1, m1, x, e, hs1, rp, q⟩ => k as1 m1 v x H1 e hs1 (sr.ext e) rp q⟩
theorem RA.first {a : Fr → Store → Res (List D × Store)} {γ δ : Type} {rel' : Pl → Hp → δ → γ → Prop} {f : List D × Store → Res (γ × Store)} {as : Pl} {r : Fr} {m : Store} {s : St} {H : Hp} {Q : δ → Hp → Prop} {P : List V → Hp → Prop}
    (hs : HS K as m H) (sr : SR K as H s r) (h : Post K rel' as H ((a r m).bind f) Q)
    (k : ∀ as1 m1 v x H1, Ext as H as1 H1 → HS K as1 m1 H1 → SR K as1 H1 s r → Reps K as1 H1 v x → Post K rel' as1 H1 (f (x, m1)) Q → P v H1) : RA K a s H P :=
  ⟨as, r, m, hs, sr, (Post.bind h).mono fun v H1 ⟨as1, m1, x, e, hs1, rp, q⟩ => k as1 m1 v x H1 e hs1 (sr.ext e) rp q⟩
theorem RT.first {a : Fr → Store → Res (Bool × Store)} {γ δ : Type} {rel' : Pl → Hp → δ → γ → Prop} {f : Bool × Store → Res (γ × Store)} {as : Pl} {r : Fr} {m : Store} {s : St} {H : Hp} {Q : δ → Hp → Prop} {P : Bool → Hp → Prop}
    (hs : HS K as m H) (sr : SR K as H s r) (h : Post K rel' as H ((a r m).bind f) Q)
    (k : ∀ as1 m1 x H1, Ext as H as1 H1 → HS K as1 m1 H1 → SR K as1 H1 s r → Post K rel' as1 H1 (f (x, m1)) Q → P x H1) : RT K a s H P :=
  ⟨as, r, m, hs, sr, (Post.bind h).mono fun v H1 ⟨as1, m1, x, e, hs1, rp, q⟩ => by subst rp; exact k as1 m1 v H1 e hs1 (sr.ext e) q⟩

/-! ### new objects -/
theorem newL_post {f : Bool} {as : Pl} {m : Store} {H : Hp} {ds : List D} {vs : List V} {Q : VK} (hs : HS K as m H) (r : Reps K as H vs ds) (h : PostV K as H (newL f ds m) Q) :
    vs.length ≤ sizeLine ∧ ∀ p, H p = none → Q (.ref p) (upd H p (.lst vs)) := by
  obtain ⟨hl, h⟩ := h.needs
  refine ⟨by rw [r.length]; exact hl, fun p hp => ?_⟩
  cases f with
  | true =>
    exact h _ _ _ (Ext.newL hp (hs.fresh hp)) (hs.newL hp ⟨vs, upd_same, r.ext (Ext.newL hp (hs.fresh hp))⟩) (.loc (by rw [← hs.len]; simp [Pl.app]))
  | false => exact h as _ _ (Ext.new hp) (hs.new hp) (.lst upd_same (hs.freshA hp) (r.ext (Ext.new hp)))
theorem newT_post {as : Pl} {m : Store} {H : Hp} {ds : List D} {vs : List V} {Q : VK} (hs : HS K as m H) (r : Reps K as H vs ds) (h : PostV K as H (newT ds m) Q) :
    vs.length ≤ sizeLine ∧ ∀ p, H p = none → Q (.ref p) (upd H p (.tup vs)) := by
  obtain ⟨hl, h⟩ := h.needs
  exact ⟨by rw [r.length]; exact hl, fun p hp => h as _ _ (Ext.new hp) (hs.new hp) (.tup upd_same (hs.freshA hp) (r.ext (Ext.new hp)))⟩
theorem newD_post {f : Bool} {as : Pl} {m : Store} {H : Hp} {ds : List (Key × D)} {vs : List (Key × V)} {Q : VK} (hs : HS K as m H) (r : RepK K as H vs ds) (h : PostV K as H (newD f ds m) Q) :
    ds.length ≤ sizeLine ∧ ∀ p, H p = none → Q (.ref p) (upd H p (.dK vs)) := by
  obtain ⟨hl, h⟩ := h.needs
  refine ⟨hl, fun p hp => ?_⟩
  cases f with
  | true =>
    exact h _ _ _ (Ext.newL hp (hs.fresh hp)) (hs.newL hp ⟨vs, upd_same, r.ext (Ext.newL hp (hs.fresh hp))⟩) (.loc (by rw [← hs.len]; simp [Pl.app]))
  | false => exact h as _ _ (Ext.new hp) (hs.new hp) (.dct (.inl upd_same) (hs.freshA hp) (r.ext (Ext.new hp)))

theorem rep_map {as : Pl} {H : Hp} {vs : List V} {ds : List D} (h : Reps K as H vs ds) : ∀ n : Nat, Reps K as H (List.replicate n vs).flatten (rep n ds)
  | 0 => .nil
  | n + 1 => by
    have e1 : (List.replicate (n + 1) vs).flatten = vs ++ (List.replicate n vs).flatten := rfl
    have e2 : rep (n + 1) ds = ds ++ rep n ds := rfl
    rw [e1, e2]
    exact h.append (rep_map h n)
theorem int_rep {as : Pl} {H : Hp} {v : V} {i : Int} (h : Rep K as H v (.int i)) : v = .int i := by cases h; rfl
theorem str_rep {as : Pl} {H : Hp} {v : V} {i : Str} (h : Rep K as H v (.str i)) : v = .str i := by cases h; rfl
theorem bl_rep {as : Pl} {H : Hp} {v : V} {i : Bool} (h : Rep K as H v (.bl i)) : v = .bl i := by cases h; rfl
theorem non_rep {as : Pl} {H : Hp} {v : V} (h : Rep K as H v .non) : v = .non := by cases h; rfl

/-! ### operators -/
section
variable {X : Cx}
theorem op_addD (f : Bool) : OpR X (binaryOp .Add) (R2D X.K (binD f .add)) := by
  refine OpR.imp (OpR.or op_add (OpR.or op_add_str (OpR.or op_catA op_cat))) fun x y H Q ⟨as, m, a, b, hs, ra, rb, h⟩ => ?_
  have lists : ∀ r : RD, r = (match lstX m a, lstX m b with | some xs, some ys => newL f (xs ++ ys) m | _, _ => .err) → PostV X.K as H r Q → rCat x y H Q := by
    intro r e h
    subst e
    cases e1 : lstX m a with
    | none => rw [e1] at h; exact h.elim
    | some xs =>
      cases e2 : lstX m b with
      | none => rw [e1, e2] at h; exact h.elim
      | some ys =>
        rw [e1, e2] at h
        obtain ⟨p, vs, rfl, hp, r1⟩ := lstX_rep hs ra e1
        obtain ⟨q, ws, rfl, hq, r2⟩ := lstX_rep hs rb e2
        obtain ⟨hl, k⟩ := newL_post hs (r1.append r2) h
        exact ⟨_, _, _, _, rfl, rfl, hp, hq, by rw [List.length_append] at hl; exact hl, k⟩
  cases a with
  | int i => cases b with
    | int j =>
      refine .inl ⟨i, j, int_rep ra, int_rep rb, h.here hs (.int _)⟩
    | _ => exact .inr (.inr (.inr (lists _ rfl h)))
  | str i => cases b with
    | str j =>
      obtain ⟨hl, h⟩ := h.needs
      exact .inr (.inl ⟨i, j, str_rep ra, str_rep rb, hl, h.here hs (.str _)⟩)
    | _ => exact .inr (.inr (.inr (lists _ rfl h)))
  | tup i => cases b with
    | tup j =>
      obtain ⟨p, vs, rfl, hp, r1⟩ := tup_rep ra
      obtain ⟨q, ws, rfl, hq, r2⟩ := tup_rep rb
      obtain ⟨hl, k⟩ := newT_post hs (r1.append r2) h
      obtain ⟨hl', h'⟩ := h.needs
      refine .inr (.inr (.inl ⟨_, _, _, _, rfl, rfl, hp, hq, by rw [List.length_append] at hl; exact hl, fun e => ?_, fun _ e => ?_, fun _ _ => k⟩))
      · subst e
        cases r1
        exact h'.here hs rb
      · subst e
        cases r2
        exact h'.here hs (by rw [List.append_nil]; exact ra)
    | _ => exact .inr (.inr (.inr (lists _ rfl h)))
  | _ => cases b <;> exact .inr (.inr (.inr (lists _ rfl h)))
theorem op_subD (f : Bool) : OpR X (binaryOp .Sub) (R2D X.K (binD f .sub)) := by
  refine OpR.imp op_sub fun x y H Q ⟨as, m, a, b, hs, ra, rb, h⟩ => ?_
  cases a <;> cases b <;> first | exact h.elim | exact ⟨_, _, int_rep ra, int_rep rb, h.here hs (.int _)⟩
theorem op_fdivD (f : Bool) : OpR X (binaryOp .FloorDiv) (R2D X.K (binD f .fdiv)) := by
  refine OpR.imp op_fdivW fun x y H Q ⟨as, m, a, b, hs, ra, rb, h⟩ => ?_
  cases a <;> cases b <;> first | exact h.elim | skip
  obtain ⟨c, h⟩ := h.needs
  exact ⟨_, _, int_rep ra, int_rep rb, c, h.here hs (.int _)⟩
theorem op_modD (f : Bool) : OpR X (binaryOp .Mod) (R2D X.K (binD f .mod)) := by
  refine OpR.imp op_mod fun x y H Q ⟨as, m, a, b, hs, ra, rb, h⟩ => ?_
  cases a <;> cases b <;> first | exact h.elim | skip
  obtain ⟨c, h⟩ := h.needs
  exact ⟨_, _, int_rep ra, int_rep rb, c, h.here hs (.int _)⟩
theorem op_powD (f : Bool) : OpR X (binaryOp .Pow) (R2D X.K (binD f .pow)) := by
  refine OpR.imp op_pow fun x y H Q ⟨as, m, a, b, hs, ra, rb, h⟩ => ?_
  cases a <;> cases b <;> first | exact h.elim | skip
  obtain ⟨c, h⟩ := h.needs
  exact ⟨_, _, int_rep ra, int_rep rb, c, h.here hs (.int _)⟩
end
end
end DV

end
section
set_option Elab.async false
set_option linter.all false
set_option maxRecDepth 100000
set_option autoImplicit false
/-! == of data without dicts, whatever their texts. -/
namespace DV
open PySem PySem.Spec PyProof.Rows PySem.SeqAt
mutual
def ndP : PyData → Bool
  | .none => true | .bool _ => true | .int _ => true | .str _ => true
  | .list xs => ndPs xs
  | .tuple xs => ndPs xs
  | .dict _ => false
def ndPs : List PyData → Bool
  | [] => true
  | x :: xs => ndP x && ndPs xs
end
theorem nd_cons {x : PyData} {xs : List PyData} (h : ndPs (x :: xs) = true) : ndP x = true ∧ ndPs xs = true := by
  rw [ndPs, Bool.and_eq_true] at h; exact h
mutual
theorem nd_refl : ∀ d : PyData, ndP d = true → PyData.eqv d d = true
  | .none, _ => by simp [PyData.eqv]
  | .bool _, _ => by simp [PyData.eqv]
  | .int _, _ => by simp [PyData.eqv]
  | .str _, _ => by simp [PyData.eqv]
  | .list xs, h => by rw [PyData.eqv]; exact nd_refls xs (by rw [ndP] at h; exact h)
  | .tuple xs, h => by rw [PyData.eqv]; exact nd_refls xs (by rw [ndP] at h; exact h)
  | .dict _, h => by rw [ndP] at h; cases h
theorem nd_refls : ∀ ds : List PyData, ndPs ds = true → PyData.eqvAll ds ds = true
  | [], _ => by rw [PyData.eqvAll]
  | x :: xs, h => by rw [PyData.eqvAll, nd_refl x (nd_cons h).1, nd_refls xs (nd_cons h).2]; rfl
end
mutual
theorem nd_uniq {h : Heap} : ∀ (d e : PyData) (v : Value) (as bs : List Addr), ndP d = true → ndP e = true → Reads h v d as → Reads h v e bs → d = e
  | .none, e, v, as, bs, _, _, r, q => by cases r; cases q; rfl
  | .bool _, e, v, as, bs, _, _, r, q => by cases r; cases q; rfl
  | .int _, e, v, as, bs, _, _, r, q => by cases r; cases q; rfl
  | .str _, e, v, as, bs, _, _, r, q => by cases r; cases q; rfl
  | .list xs, e, v, as, bs, hd, he, r, q => by
    cases r with
    | list h1 h2 h3 h4 =>
      cases q with
      | list k1 k2 k3 k4 =>
        rw [h1] at k1; cases k1
        rw [h3] at k3; injection k3 with k3 _; subst k3
        rw [ndP] at hd he
        rw [nd_uniqs xs _ _ _ _ hd he h4 k4]
      | tuple k1 k2 k3 k4 => rw [h1] at k1; cases k1; rw [h2] at k2; exact absurd k2 (by decide)
      | dict _ _ _ _ _ => rw [ndP] at he; cases he
  | .tuple xs, e, v, as, bs, hd, he, r, q => by
    cases r with
    | tuple h1 h2 h3 h4 =>
      cases q with
      | tuple k1 k2 k3 k4 =>
        rw [h1] at k1; cases k1
        rw [h3] at k3; injection k3 with k3 _; subst k3
        rw [ndP] at hd he
        rw [nd_uniqs xs _ _ _ _ hd he h4 k4]
      | list k1 k2 k3 k4 => rw [h1] at k1; cases k1; rw [h2] at k2; exact absurd k2 (by decide)
      | dict _ _ _ _ _ => rw [ndP] at he; cases he
  | .dict _, _, _, _, _, hd, _, _, _ => by rw [ndP] at hd; cases hd
theorem nd_uniqs {h : Heap} : ∀ (ds es : List PyData) (vs : List Value) (as bs : List Addr), ndPs ds = true → ndPs es = true → ReadsAll h vs ds as → ReadsAll h vs es bs → ds = es
  | [], es, _, _, _, _, _, r, q => by cases r; cases q; rfl
  | d :: ds, es, _, _, _, hd, he, r, q => by
    cases r with
    | cons r1 r2 =>
      cases q with
      | cons q1 q2 => rw [nd_uniq d _ _ _ _ (nd_cons hd).1 (nd_cons he).1 r1 q1, nd_uniqs ds _ _ _ _ (nd_cons hd).2 (nd_cons he).2 r2 q2]
end
mutual
theorem nd_eqAt : ∀ (da db : PyData) (A : Around) (s : Shared) (a b : Value) (as bs : List Addr), Reads s.heap a da as → Reads s.heap b db bs → ndP da = true → ndP db = true →
    A.units + min da.depth db.depth < cLine → EqAt A s a b (PyData.eqv da db)
  | .none, db, A, s, _, _, _, _, ra, rb, _, hb, hu => by
    cases ra
    cases rb with
    | none => exact EqAt.same _
    | bool y => exact EqAt.none_bool y
    | int y u => exact EqAt.none_int y u
    | str y u => exact EqAt.none_str y u
    | list k1 k2 k3 _ => exact EqAt.none_list ⟨_, k1, k2, _, k3⟩ (room_here hu)
    | tuple k1 k2 k3 _ => exact EqAt.none_tuple ⟨_, k1, k2, _, k3⟩ (room_here hu)
    | dict _ _ _ _ _ => rw [ndP] at hb; cases hb
  | .bool x, db, A, s, _, _, _, _, ra, rb, _, hb, hu => by
    cases ra
    cases rb with
    | none => exact EqAt.bool_none x
    | bool y => exact EqAt.bool_bool x y
    | int y u => exact EqAt.bool_int x y u
    | str y u => exact EqAt.bool_str x y u
    | list k1 k2 k3 _ => exact EqAt.bool_list x ⟨_, k1, k2, _, k3⟩ (room_here hu)
    | tuple k1 k2 k3 _ => exact EqAt.bool_tuple x ⟨_, k1, k2, _, k3⟩ (room_here hu)
    | dict _ _ _ _ _ => rw [ndP] at hb; cases hb
  | .int x, db, A, s, _, _, _, _, ra, rb, _, hb, hu => by
    cases ra with
    | int _ t =>
      cases rb with
      | none => exact EqAt.int_none x t
      | bool y => exact EqAt.int_bool x t y
      | int y u => exact EqAt.int_int x t y u
      | str y u => exact EqAt.int_str x t y u
      | list k1 k2 k3 _ => exact EqAt.int_list x t ⟨_, k1, k2, _, k3⟩ (room_here hu)
      | tuple k1 k2 k3 _ => exact EqAt.int_tuple x t ⟨_, k1, k2, _, k3⟩ (room_here hu)
      | dict _ _ _ _ _ => rw [ndP] at hb; cases hb
  | .str x, db, A, s, _, _, _, _, ra, rb, _, hb, hu => by
    cases ra with
    | str _ t =>
      cases rb with
      | none => exact EqAt.str_none x t
      | bool y => exact EqAt.str_bool x t y
      | int y u => exact EqAt.str_int x t y u
      | str y u => exact EqAt.str_str x t y u
      | list k1 k2 k3 _ => exact EqAt.str_list x t ⟨_, k1, k2, _, k3⟩ (room_here hu)
      | tuple k1 k2 k3 _ => exact EqAt.str_tuple x t ⟨_, k1, k2, _, k3⟩ (room_here hu)
      | dict _ _ _ _ _ => rw [ndP] at hb; cases hb
  | .list xs, db, A, s, _, _, _, _, ra, rb, ha, hb, hu => by
    cases ra with
    | @list l o vs n _ as1 h1 h2 h3 h4 =>
      have hl : s.heap.IsList l vs := ⟨_, h1, h2, _, h3⟩
      cases rb with
      | none => exact EqAt.list_none hl (room_here hu)
      | bool y => exact EqAt.list_bool y hl (room_here hu)
      | int y u => exact EqAt.list_int y u hl (room_here hu)
      | str y u => exact EqAt.list_str y u hl (room_here hu)
      | tuple k1 k2 k3 _ => exact EqAt.list_tuple hl ⟨_, k1, k2, _, k3⟩ (room_here hu)
      | dict _ _ _ _ _ => rw [ndP] at hb; cases hb
      | @list l' o' vs' n' ys bs1 k1 k2 k3 k4 =>
        have hl' : s.heap.IsList l' vs' := ⟨_, k1, k2, _, k3⟩
        have n1 : vs.size = xs.length := by simpa using ReadsAll.length _ _ _ h4
        have n2 : vs'.size = ys.length := by simpa using ReadsAll.length _ _ _ k4
        have ha' : ndPs xs = true := by rw [ndP] at ha; exact ha
        have hb' : ndPs ys = true := by rw [ndP] at hb; exact hb
        show EqAt A s (.ref l) (.ref l') (PyData.eqvAll xs ys)
        by_cases hll : l = l'
        · subst hll
          have e := nd_uniq (.list xs) (.list ys) _ _ _ ha hb (.list h1 h2 h3 h4) (.list k1 k2 k3 k4)
          injection e with e
          subst e
          rw [nd_refls xs ha']
          exact EqAt.same _
        · by_cases hsz : vs.size = vs'.size
          · rw [← eqvAll_same_length (show xs.length = ys.length by omega), ← n1]
            refine EqAt.of_refs hll (RcAt.lists hl hl' hsz (room_here hu) fun j j1 j2 => ?_)
            have q := nd_eqAts xs ys A.in1 s vs.toList vs'.toList _ _ h4 k4 ha' hb' (room_in hu) j (by simpa using j1) (by simpa using j2)
            simpa using q
          · rw [eqvAll_other_length (show xs.length ≠ ys.length by omega)]
            exact EqAt.of_refs hll (RcAt.lists_lengths hl hl' (by simpa using hsz) (room_here hu))
  | .tuple xs, db, A, s, _, _, _, _, ra, rb, ha, hb, hu => by
    cases ra with
    | @tuple l o vs n _ as1 h1 h2 h3 h4 =>
      have hl : s.heap.IsTuple l vs := ⟨_, h1, h2, _, h3⟩
      cases rb with
      | none => exact EqAt.tuple_none hl (room_here hu)
      | bool y => exact EqAt.tuple_bool y hl (room_here hu)
      | int y u => exact EqAt.tuple_int y u hl (room_here hu)
      | str y u => exact EqAt.tuple_str y u hl (room_here hu)
      | list k1 k2 k3 _ => exact EqAt.tuple_list hl ⟨_, k1, k2, _, k3⟩ (room_here hu)
      | dict _ _ _ _ _ => rw [ndP] at hb; cases hb
      | @tuple l' o' vs' n' ys bs1 k1 k2 k3 k4 =>
        have hl' : s.heap.IsTuple l' vs' := ⟨_, k1, k2, _, k3⟩
        have n1 : vs.size = xs.length := by simpa using ReadsAll.length _ _ _ h4
        have n2 : vs'.size = ys.length := by simpa using ReadsAll.length _ _ _ k4
        have ha' : ndPs xs = true := by rw [ndP] at ha; exact ha
        have hb' : ndPs ys = true := by rw [ndP] at hb; exact hb
        show EqAt A s (.ref l) (.ref l') (PyData.eqvAll xs ys)
        by_cases hll : l = l'
        · subst hll
          have e := nd_uniq (.tuple xs) (.tuple ys) _ _ _ ha hb (.tuple h1 h2 h3 h4) (.tuple k1 k2 k3 k4)
          injection e with e
          subst e
          rw [nd_refls xs ha']
          exact EqAt.same _
        · rw [← eqvAll_eq xs ys, ← n1, ← n2]
          refine EqAt.of_refs hll (RcAt.tuples hl hl' (room_here hu) fun j j1 j2 => ?_)
          have q := nd_eqAts xs ys A.in1 s vs.toList vs'.toList _ _ h4 k4 ha' hb' (room_in hu) j (by simpa using j1) (by simpa using j2)
          simpa using q
  | .dict _, _, _, _, _, _, _, _, _, _, ha, _, _ => by rw [ndP] at ha; cases ha
theorem nd_eqAts : ∀ (xs ys : List PyData) (A : Around) (s : Shared) (vs ws : List Value) (as bs : List Addr), ReadsAll s.heap vs xs as → ReadsAll s.heap ws ys bs → ndPs xs = true → ndPs ys = true →
    A.units + min (PyData.depthAll xs) (PyData.depthAll ys) < cLine → ∀ j (h1 : j < vs.length) (h2 : j < ws.length), EqAt A s vs[j] ws[j] (pairEq xs ys j)
  | [], _, _, _, _, _, _, _, ra, _, _, _, _, j, h1, _ => by cases ra; exact absurd h1 (Nat.not_lt_zero _)
  | _ :: _, [], _, _, _, _, _, _, _, rb, _, _, _, j, _, h2 => by cases rb; exact absurd h2 (Nat.not_lt_zero _)
  | x :: xs, y :: ys, A, s, _, _, _, _, ra, rb, ha, hb, hu, j, h1, h2 => by
    cases ra with
    | cons r rs =>
      cases rb with
      | cons r' rs' =>
        cases j with
        | zero => exact nd_eqAt x y A s _ _ _ _ r r' (nd_cons ha).1 (nd_cons hb).1 (room_head hu)
        | succ j => exact nd_eqAts xs ys A s _ _ _ _ rs rs' (nd_cons ha).2 (nd_cons hb).2 (room_tail hu) j (Nat.lt_of_succ_lt_succ h1) (Nat.lt_of_succ_lt_succ h2)
end
/-- what == of two values hands back, where it is asked as an operator -/
theorem nd_rc {A : Around} {s : Shared} {a b : Value} {da db : PyData} {as bs : List Addr} (ra : Reads s.heap a da as) (rb : Reads s.heap b db bs) (ha : ndP da = true) (hb : ndP db = true)
    (hu : A.units + min da.depth db.depth < cLine) : RcAt A s a b (PyData.eqv da db) := by
  have hr := room_here hu
  cases ra with
  | none => cases rb with
    | none => exact .none_none
    | bool y => exact .none_bool y
    | int y u => exact .none_int y u
    | str y u => exact .none_str y u
    | list k1 k2 k3 _ => exact .none_list ⟨_, k1, k2, _, k3⟩ hr
    | tuple k1 k2 k3 _ => exact .none_tuple ⟨_, k1, k2, _, k3⟩ hr
    | dict _ _ _ _ _ => rw [ndP] at hb; cases hb
  | bool x => cases rb with
    | none => exact .bool_none x
    | bool y => exact .bool_bool x y
    | int y u => exact .bool_int x y u
    | str y u => exact .bool_str x y u
    | list k1 k2 k3 _ => exact .bool_list x ⟨_, k1, k2, _, k3⟩ hr
    | tuple k1 k2 k3 _ => exact .bool_tuple x ⟨_, k1, k2, _, k3⟩ hr
    | dict _ _ _ _ _ => rw [ndP] at hb; cases hb
  | int x t => cases rb with
    | none => exact .int_none x t
    | bool y => exact .int_bool x t y
    | int y u => exact .int_int x t y u
    | str y u => exact .int_str x t y u
    | list k1 k2 k3 _ => exact .int_list x t ⟨_, k1, k2, _, k3⟩ hr
    | tuple k1 k2 k3 _ => exact .int_tuple x t ⟨_, k1, k2, _, k3⟩ hr
    | dict _ _ _ _ _ => rw [ndP] at hb; cases hb
  | str x t => cases rb with
    | none => exact .str_none x t
    | bool y => exact .str_bool x t y
    | int y u => exact .str_int x t y u
    | str y u => exact .str_str x t y u
    | list k1 k2 k3 _ => exact .str_list x t ⟨_, k1, k2, _, k3⟩ hr
    | tuple k1 k2 k3 _ => exact .str_tuple x t ⟨_, k1, k2, _, k3⟩ hr
    | dict _ _ _ _ _ => rw [ndP] at hb; cases hb
  | @list l o vs n xs as1 h1 h2 h3 h4 =>
    have hl : s.heap.IsList l vs := ⟨_, h1, h2, _, h3⟩
    cases rb with
    | none => exact .list_none hl hr
    | bool y => exact .list_bool y hl hr
    | int y u => exact .list_int y u hl hr
    | str y u => exact .list_str y u hl hr
    | tuple k1 k2 k3 _ => exact .list_tuple hl ⟨_, k1, k2, _, k3⟩ hr
    | dict _ _ _ _ _ => rw [ndP] at hb; cases hb
    | @list l' o' vs' n' ys bs1 k1 k2 k3 k4 =>
      have hl' : s.heap.IsList l' vs' := ⟨_, k1, k2, _, k3⟩
      have n1 : vs.size = xs.length := by simpa using ReadsAll.length _ _ _ h4
      have n2 : vs'.size = ys.length := by simpa using ReadsAll.length _ _ _ k4
      have ha' : ndPs xs = true := by rw [ndP] at ha; exact ha
      have hb' : ndPs ys = true := by rw [ndP] at hb; exact hb
      show RcAt A s (.ref l) (.ref l') (PyData.eqvAll xs ys)
      by_cases hsz : vs.size = vs'.size
      · rw [← eqvAll_same_length (show xs.length = ys.length by omega), ← n1]
        refine RcAt.lists hl hl' hsz hr fun j j1 j2 => ?_
        have q := nd_eqAts xs ys A.in1 s vs.toList vs'.toList _ _ h4 k4 ha' hb' (room_in hu) j (by simpa using j1) (by simpa using j2)
        simpa using q
      · rw [eqvAll_other_length (show xs.length ≠ ys.length by omega)]
        exact RcAt.lists_lengths hl hl' (by simpa using hsz) hr
  | @tuple l o vs n xs as1 h1 h2 h3 h4 =>
    have hl : s.heap.IsTuple l vs := ⟨_, h1, h2, _, h3⟩
    cases rb with
    | none => exact .tuple_none hl hr
    | bool y => exact .tuple_bool y hl hr
    | int y u => exact .tuple_int y u hl hr
    | str y u => exact .tuple_str y u hl hr
    | list k1 k2 k3 _ => exact .tuple_list hl ⟨_, k1, k2, _, k3⟩ hr
    | dict _ _ _ _ _ => rw [ndP] at hb; cases hb
    | @tuple l' o' vs' n' ys bs1 k1 k2 k3 k4 =>
      have hl' : s.heap.IsTuple l' vs' := ⟨_, k1, k2, _, k3⟩
      have n1 : vs.size = xs.length := by simpa using ReadsAll.length _ _ _ h4
      have n2 : vs'.size = ys.length := by simpa using ReadsAll.length _ _ _ k4
      have ha' : ndPs xs = true := by rw [ndP] at ha; exact ha
      have hb' : ndPs ys = true := by rw [ndP] at hb; exact hb
      show RcAt A s (.ref l) (.ref l') (PyData.eqvAll xs ys)
      rw [← eqvAll_eq xs ys, ← n1, ← n2]
      refine RcAt.tuples hl hl' hr fun j j1 j2 => ?_
      have q := nd_eqAts xs ys A.in1 s vs.toList vs'.toList _ _ h4 k4 ha' hb' (room_in hu) j (by simpa using j1) (by simpa using j2)
      simpa using q
  | dict _ _ _ _ _ => rw [ndP] at ha; cases ha
/-- what != of two values hands back, where it is asked as an operator -/
theorem nd_rcNe {A : Around} {s : Shared} {a b : Value} {da db : PyData} {as bs : List Addr} (ra : Reads s.heap a da as) (rb : Reads s.heap b db bs) (ha : ndP da = true) (hb : ndP db = true)
    (hu : A.units + min da.depth db.depth < cLine) : RcNeAt A s a b (!PyData.eqv da db) := by
  have hr := room_here hu
  cases ra with
  | none => cases rb with
    | none => exact .none_none
    | bool y => exact .none_bool y
    | int y u => exact .none_int y u
    | str y u => exact .none_str y u
    | list k1 k2 k3 _ => exact .none_list ⟨_, k1, k2, _, k3⟩ hr
    | tuple k1 k2 k3 _ => exact .none_tuple ⟨_, k1, k2, _, k3⟩ hr
    | dict _ _ _ _ _ => rw [ndP] at hb; cases hb
  | bool x => cases rb with
    | none => exact .bool_none x
    | bool y => exact .bool_bool x y
    | int y u => exact .bool_int x y u
    | str y u => exact .bool_str x y u
    | list k1 k2 k3 _ => exact .bool_list x ⟨_, k1, k2, _, k3⟩ hr
    | tuple k1 k2 k3 _ => exact .bool_tuple x ⟨_, k1, k2, _, k3⟩ hr
    | dict _ _ _ _ _ => rw [ndP] at hb; cases hb
  | int x t => cases rb with
    | none => exact .int_none x t
    | bool y => exact .int_bool x t y
    | int y u => exact .int_int x t y u
    | str y u => exact .int_str x t y u
    | list k1 k2 k3 _ => exact .int_list x t ⟨_, k1, k2, _, k3⟩ hr
    | tuple k1 k2 k3 _ => exact .int_tuple x t ⟨_, k1, k2, _, k3⟩ hr
    | dict _ _ _ _ _ => rw [ndP] at hb; cases hb
  | str x t => cases rb with
    | none => exact .str_none x t
    | bool y => exact .str_bool x t y
    | int y u => exact .str_int x t y u
    | str y u => exact .str_str x t y u
    | list k1 k2 k3 _ => exact .str_list x t ⟨_, k1, k2, _, k3⟩ hr
    | tuple k1 k2 k3 _ => exact .str_tuple x t ⟨_, k1, k2, _, k3⟩ hr
    | dict _ _ _ _ _ => rw [ndP] at hb; cases hb
  | @list l o vs n xs as1 h1 h2 h3 h4 =>
    have hl : s.heap.IsList l vs := ⟨_, h1, h2, _, h3⟩
    cases rb with
    | none => exact .list_none hl hr
    | bool y => exact .list_bool y hl hr
    | int y u => exact .list_int y u hl hr
    | str y u => exact .list_str y u hl hr
    | tuple k1 k2 k3 _ => exact .list_tuple hl ⟨_, k1, k2, _, k3⟩ hr
    | dict _ _ _ _ _ => rw [ndP] at hb; cases hb
    | @list l' o' vs' n' ys bs1 k1 k2 k3 k4 =>
      have hl' : s.heap.IsList l' vs' := ⟨_, k1, k2, _, k3⟩
      have n1 : vs.size = xs.length := by simpa using ReadsAll.length _ _ _ h4
      have n2 : vs'.size = ys.length := by simpa using ReadsAll.length _ _ _ k4
      have ha' : ndPs xs = true := by rw [ndP] at ha; exact ha
      have hb' : ndPs ys = true := by rw [ndP] at hb; exact hb
      show RcNeAt A s (.ref l) (.ref l') (!PyData.eqvAll xs ys)
      by_cases hsz : vs.size = vs'.size
      · rw [← eqvAll_same_length (show xs.length = ys.length by omega), ← n1]
        refine RcNeAt.lists hl hl' hsz hr fun j j1 j2 => ?_
        have q := nd_eqAts xs ys A.in1 s vs.toList vs'.toList _ _ h4 k4 ha' hb' (room_in hu) j (by simpa using j1) (by simpa using j2)
        simpa using q
      · rw [eqvAll_other_length (show xs.length ≠ ys.length by omega)]
        exact RcNeAt.lists_lengths hl hl' (by simpa using hsz) hr
  | @tuple l o vs n xs as1 h1 h2 h3 h4 =>
    have hl : s.heap.IsTuple l vs := ⟨_, h1, h2, _, h3⟩
    cases rb with
    | none => exact .tuple_none hl hr
    | bool y => exact .tuple_bool y hl hr
    | int y u => exact .tuple_int y u hl hr
    | str y u => exact .tuple_str y u hl hr
    | list k1 k2 k3 _ => exact .tuple_list hl ⟨_, k1, k2, _, k3⟩ hr
    | dict _ _ _ _ _ => rw [ndP] at hb; cases hb
    | @tuple l' o' vs' n' ys bs1 k1 k2 k3 k4 =>
      have hl' : s.heap.IsTuple l' vs' := ⟨_, k1, k2, _, k3⟩
      have n1 : vs.size = xs.length := by simpa using ReadsAll.length _ _ _ h4
      have n2 : vs'.size = ys.length := by simpa using ReadsAll.length _ _ _ k4
      have ha' : ndPs xs = true := by rw [ndP] at ha; exact ha
      have hb' : ndPs ys = true := by rw [ndP] at hb; exact hb
      show RcNeAt A s (.ref l) (.ref l') (!PyData.eqvAll xs ys)
      rw [← eqvAll_eq xs ys, ← n1, ← n2]
      refine RcNeAt.tuples hl hl' hr fun j j1 j2 => ?_
      have q := nd_eqAts xs ys A.in1 s vs.toList vs'.toList _ _ h4 k4 ha' hb' (room_in hu) j (by simpa using j1) (by simpa using j2)
      simpa using q
  | dict _ _ _ _ _ => rw [ndP] at ha; cases ha
end DV

end
section
set_option Elab.async false
set_option linter.all false
set_option maxRecDepth 100000
set_option autoImplicit false
/-! Trees; what the library reads of them. -/
namespace DV
open PySem PySem.Spec PyProof.Rows L2
section
variable {K : PySem.W.Frag} {as : Pl} {ns : List Addr} {H : Hp}
mutual
theorem mapLoc_rep {k : Nat → Option D} (hk : ∀ l d' v, k l = some d' → Rep K (as.app ns) H v (.loc l) → Rep K as H v d') : ∀ (d d' : D) (v : V), d.mapLoc k = some d' → Rep K (as.app ns) H v d → Rep K as H v d'
  | .non, d', v, e, r => by simp [D.mapLoc] at e; subst e; cases r; exact .non
  | .bl _, d', v, e, r => by simp [D.mapLoc] at e; subst e; cases r; exact .bl _
  | .int _, d', v, e, r => by simp [D.mapLoc] at e; subst e; cases r; exact .int _
  | .str _, d', v, e, r => by simp [D.mapLoc] at e; subst e; cases r; exact .str _
  | .tup xs, d', v, e, r => by
    simp only [D.mapLoc, Option.map_eq_some_iff] at e
    obtain ⟨ys, e, rfl⟩ := e
    cases r with
    | tup h n r => exact .tup h (fun m => n (Pl.app_all m)) (mapLocs_rep hk xs ys _ e r)
    | tupK h r => exact .tupK h (mapLocs_rep hk xs ys _ e r)
  | .lst xs, d', v, e, r => by
    simp only [D.mapLoc, Option.map_eq_some_iff] at e
    obtain ⟨ys, e, rfl⟩ := e
    cases r with
    | lst h n r => exact .lst h (fun m => n (Pl.app_all m)) (mapLocs_rep hk xs ys _ e r)
  | .scr xs, d', v, e, r => by
    simp only [D.mapLoc, Option.map_eq_some_iff] at e
    obtain ⟨ys, e, rfl⟩ := e
    cases r with
    | scr h n r => exact .scr h (fun m => n (Pl.app_all m)) (mapLocs_rep hk xs ys _ e r)
    | scrK h r => exact .scrK h (mapLocs_rep hk xs ys _ e r)
  | .dct xs, d', v, e, r => by
    simp only [D.mapLoc, Option.map_eq_some_iff] at e
    obtain ⟨ys, e, rfl⟩ := e
    cases r with
    | dct h n r => exact .dct h (fun m => n (Pl.app_all m)) (mapLocK_rep hk xs ys _ e r)
  | .loc l, d', v, e, r => hk l d' v e r
theorem mapLocs_rep {k : Nat → Option D} (hk : ∀ l d' v, k l = some d' → Rep K (as.app ns) H v (.loc l) → Rep K as H v d') : ∀ (ds ds' : List D) (vs : List V), mapLocs k ds = some ds' → Reps K (as.app ns) H vs ds → Reps K as H vs ds'
  | [], ds', vs, e, r => by simp [mapLocs] at e; subst e; cases r; exact .nil
  | x :: xs, ds', vs, e, r => by
    simp only [mapLocs, Option.bind_eq_some_iff, Option.map_eq_some_iff] at e
    obtain ⟨y, e1, ys, e2, rfl⟩ := e
    cases r with | cons r t => exact .cons (mapLoc_rep hk x y _ e1 r) (mapLocs_rep hk xs ys _ e2 t)
theorem mapLocK_rep {k : Nat → Option D} (hk : ∀ l d' v, k l = some d' → Rep K (as.app ns) H v (.loc l) → Rep K as H v d') : ∀ (ds ds' : List (Key × D)) (vs : List (Key × V)), mapLocK k ds = some ds' → RepK K (as.app ns) H vs ds → RepK K as H vs ds'
  | [], ds', vs, e, r => by simp [mapLocK] at e; subst e; cases r; exact .nil
  | (i, x) :: xs, ds', vs, e, r => by
    simp only [mapLocK, Option.bind_eq_some_iff, Option.map_eq_some_iff] at e
    obtain ⟨y, e1, ys, e2, rfl⟩ := e
    cases r with | cons r t => exact .cons (mapLoc_rep hk x y _ e1 r) (mapLocK_rep hk xs ys _ e2 t)
end
theorem mapM_rep {f : D → Option D} (hf : ∀ d d' v, f d = some d' → Rep K (as.app ns) H v d → Rep K as H v d') : ∀ (ds ds' : List D) (vs : List V), ds.mapM f = some ds' → Reps K (as.app ns) H vs ds → Reps K as H vs ds'
  | [], ds', vs, e, r => by simp at e; subst e; cases r; exact .nil
  | x :: xs, ds', vs, e, r => by
    simp only [List.mapM_cons, Option.bind_eq_bind, Option.bind_eq_some_iff, Option.pure_def, Option.some.injEq] at e
    obtain ⟨y, e1, ys, e2, rfl⟩ := e
    cases r with | cons r t => exact .cons (hf x y _ e1 r) (mapM_rep hf xs ys _ e2 t)
theorem mapMK_rep {f : D → Option D} (hf : ∀ d d' v, f d = some d' → Rep K (as.app ns) H v d → Rep K as H v d') : ∀ (ds ds' : List (Key × D)) (vs : List (Key × V)), ds.mapM (fun p => (f p.2).map (p.1, ·)) = some ds' → RepK K (as.app ns) H vs ds → RepK K as H vs ds'
  | [], ds', vs, e, r => by simp at e; subst e; cases r; exact .nil
  | (i, x) :: xs, ds', vs, e, r => by
    simp only [List.mapM_cons, Option.bind_eq_bind, Option.bind_eq_some_iff, Option.pure_def, Option.some.injEq, Option.map_eq_some_iff] at e
    obtain ⟨_, ⟨y, e1, rfl⟩, ys, e2, rfl⟩ := e
    cases r with | cons r t => exact .cons (hf x y _ e1 r) (mapMK_rep hf xs ys _ e2 t)
/-- what is frozen stands for the same -/
theorem frz_rep {m : Store} (hs : HS K (as.app ns) m H) : ∀ (f : Nat) (d d' : D) (v : V), frz as.l.length m f d = some d' → Rep K (as.app ns) H v d → Rep K as H v d'
  | 0, d, d', v, e, r => by
    refine mapLoc_rep (fun l d' v e r => ?_) d d' v e r
    by_cases hl : l < as.l.length
    · rw [if_pos hl] at e; cases e
      cases r with | loc h => exact .loc (by change (as.l ++ ns)[l]? = _ at h; rw [List.getElem?_append_left hl] at h; exact h)
    · rw [if_neg hl] at e; cases e
  | f + 1, d, d', v, e, r => by
    refine mapLoc_rep (fun l d' v e r => ?_) d d' v e r
    by_cases hl : l < as.l.length
    · rw [if_pos hl] at e; cases e
      cases r with | loc h => exact .loc (by change (as.l ++ ns)[l]? = _ at h; rw [List.getElem?_append_left hl] at h; exact h)
    · rw [if_neg hl] at e
      cases r with
      | @loc l a h =>
        have na : a ∉ as.all := by
          have hin : a ∈ (as.app ns).l := List.mem_of_getElem? h
          change (as.l ++ ns)[l]? = _ at h
          rw [List.getElem?_append_right (Nat.le_of_not_lt hl)] at h
          have nd := hs.nd
          change (as.l ++ ns).Nodup at nd
          rw [List.nodup_append] at nd
          intro hm
          rcases List.mem_append.mp hm with hm | hm
          · exact nd.2.2 a hm a (List.mem_of_getElem? h) rfl
          · exact (hs.hid a hm).1 hin
        cases q : m[l]? with
        | none => rw [q] at e; cases e
        | some o =>
          rw [q] at e
          have ob := hs.ob l a o h q
          cases o with
          | lst xs =>
            obtain ⟨vs, h1, h2⟩ := ob
            simp only [Option.map_eq_some_iff] at e
            obtain ⟨ys, e, rfl⟩ := e
            exact .lst h1 na (mapM_rep (frz_rep hs f) xs ys vs e h2)
          | dct xs =>
            obtain ⟨vs, h1, h2⟩ := ob
            simp only [Option.map_eq_some_iff] at e
            obtain ⟨ys, e, rfl⟩ := e
            exact .dct (.inl h1) na (mapMK_rep (frz_rep hs f) xs ys vs e h2)
          | ins _ _ => cases e
          | exn _ _ => cases e
theorem Rep.open_ {hid : List Addr} {v : V} {d : D} (r : Rep K ⟨[], hid⟩ H v d) : Rep K .nil H v d := Rep.move (as := ⟨[], hid⟩) (as1 := .nil) (fun _ _ h => h) (fun _ _ h _ => ⟨h, by simp [Pl.nil, Pl.all]⟩) r
theorem tree_rep {m : Store} {ps : Pl} (hs : HS K ps m H) {d d' : D} {v : V} (e : tree m d = some d') (r : Rep K ps H v d) : Rep K .nil H v d' := (frz_rep (as := ⟨[], ps.hid⟩) (ns := ps.l) hs 6 d d' v e r).open_
mutual
theorem under_rep : ∀ (d : D) (v : V), d.under as.l.length = true → Rep K (as.app ns) H v d → Rep K as H v d
  | .non, v, _, r => by cases r; exact .non
  | .bl _, v, _, r => by cases r; exact .bl _
  | .int _, v, _, r => by cases r; exact .int _
  | .str _, v, _, r => by cases r; exact .str _
  | .tup xs, v, e, r => by
    rw [D.under] at e
    cases r with
    | tup h n r => exact .tup h (fun m => n (Pl.app_all m)) (unders_rep xs _ e r)
    | tupK h r => exact .tupK h (unders_rep xs _ e r)
  | .lst xs, v, e, r => by
    rw [D.under] at e
    cases r with
    | lst h n r => exact .lst h (fun m => n (Pl.app_all m)) (unders_rep xs _ e r)
  | .scr xs, v, e, r => by
    rw [D.under] at e
    cases r with
    | scr h n r => exact .scr h (fun m => n (Pl.app_all m)) (unders_rep xs _ e r)
    | scrK h r => exact .scrK h (unders_rep xs _ e r)
  | .dct xs, v, e, r => by
    rw [D.under] at e
    cases r with
    | dct h n r => exact .dct h (fun m => n (Pl.app_all m)) (underK_rep xs _ e r)
  | .loc l, v, e, r => by
    have hl : l < as.l.length := by simpa [D.under] using e
    cases r with | loc h => exact .loc (by change (as.l ++ ns)[l]? = _ at h; rw [List.getElem?_append_left hl] at h; exact h)
theorem unders_rep : ∀ (ds : List D) (vs : List V), unders as.l.length ds = true → Reps K (as.app ns) H vs ds → Reps K as H vs ds
  | [], _, _, r => by cases r; exact .nil
  | x :: xs, _, e, r => by
    rw [unders, Bool.and_eq_true] at e
    cases r with | cons r t => exact .cons (under_rep x _ e.1 r) (unders_rep xs _ e.2 t)
theorem underK_rep : ∀ (ds : List (Key × D)) (vs : List (Key × V)), underK as.l.length ds = true → RepK K (as.app ns) H vs ds → RepK K as H vs ds
  | [], _, _, r => by cases r; exact .nil
  | (_, x) :: xs, _, e, r => by
    rw [underK, Bool.and_eq_true] at e
    cases r with | cons r t => exact .cons (under_rep x _ e.1 r) (underK_rep xs _ e.2 t)
end
theorem tr_rep {m : Store} {ps : Pl} (hs : HS K ps m H) {d d' : D} {v : V} (e : tr m d = some d') (r : Rep K ps H v d) : Rep K .nil H v d' := by
  unfold tr at e
  split at e
  · rename_i h
    cases e
    exact (under_rep (as := ⟨[], ps.hid⟩) (ns := ps.l) d v h r).open_
  · exact tree_rep hs e r
/-- behind a def that keeps its own objects to itself -/
theorem clean_hs {m m' : Store} (hm : m.length = as.l.length) (hs : HS K (as.app ns) m' H) (c : cleanOk m m') : HS K as (m'.take m.length) H := by
  obtain ⟨hl, hc⟩ := c
  refine ⟨by rw [List.length_take, hm]; omega, ?_, fun l a o h1 h2 => ?_, fun a ha => ⟨fun hm => (hs.hid a ha).1 (List.mem_append_left _ hm), (hs.hid a ha).2⟩⟩
  · have nd := hs.nd
    change (as.l ++ ns).Nodup at nd
    rw [List.nodup_append] at nd
    exact nd.1
  · have hlt : l < as.l.length := (List.getElem?_eq_some_iff.mp h1).1
    have h2' : m'[l]? = some o := by
      rw [List.getElem?_take] at h2
      split at h2
      · exact h2
      · cases h2
    have ob := hs.ob l a o (by show (as.l ++ ns)[l]? = some a; rw [List.getElem?_append_left hlt]; exact h1) h2'
    have u := hc o (List.mem_of_getElem? h2)
    rw [hm] at u
    cases o with
    | lst xs => obtain ⟨vs, h1, h2⟩ := ob; exact ⟨vs, h1, unders_rep xs vs u h2⟩
    | dct xs => obtain ⟨vs, h1, h2⟩ := ob; exact ⟨vs, h1, underK_rep xs vs u h2⟩
    | ins _ fs => obtain ⟨C, dx, vs, h1, h2, h3, h4⟩ := ob; exact ⟨C, dx, vs, h1, h2, h3, unders_rep _ _ u h4⟩
    | exn _ fs =>
      obtain ⟨C, d, h1, h2, h3⟩ := ob
      refine ⟨C, d, h1, h2, ?_⟩
      rcases h3 with h3 | ⟨dd, vs, g1, g2, g3, g4, g5⟩
      · exact .inl h3
      · exact .inr ⟨dd, vs, g1, g2, fun z => g3 (Pl.app_all z), g4, unders_rep _ _ u g5⟩
end
end DV

end
section
set_option Elab.async false
set_option linter.all false
set_option maxRecDepth 100000
set_option autoImplicit false
/-! What the library reads of a tree; ==, <, in. -/
namespace DV
open PySem PySem.Spec PyProof.Rows L2
section
variable {X : Cx} {pins : List (Addr × Obj)} {σ : St} {H : Hp} {s : Shared}
mutual
theorem rep_reads (I : Inv X pins σ H s) : ∀ (d : D) (v : V) (u : Value), Rep X.K .nil H v d → RelV v u → ∃ as, Reads s.heap u d.toPy as ∧ (d.nol = true → ∀ a ∈ as, (a == sysModules) = false)
  | .non, v, u, h, r => by cases h; cases r; exact ⟨_, .none, fun _ a m => by cases m⟩
  | .bl b, v, u, h, r => by cases h; cases r; exact ⟨_, .bool b, fun _ a m => by cases m⟩
  | .int i, v, u, h, r => by cases h; obtain ⟨t, rfl⟩ := r; exact ⟨_, .int i t, fun _ a m => by cases m⟩
  | .str x, v, u, h, r => by cases h; obtain ⟨t, rfl⟩ := r; exact ⟨_, .str x t, fun _ a m => by cases m⟩
  | .tup ds, v, u, h, r => by
    have go : ∀ a vs, SqT X.K H a vs → Reps X.K .nil H vs ds → ∃ as, Reads s.heap (.ref a) (D.tup ds).toPy as ∧ ((D.tup ds).nol = true → ∀ a ∈ as, (a == sysModules) = false) := fun a vs hs ha => by
      obtain ⟨its, rv, ⟨o, ho, hc, n, hd⟩, _⟩ := I.tuple hs
      obtain ⟨as, hr, hn⟩ := reps_reads I ds _ its ha rv
      exact ⟨_, by rw [D.toPy]; exact .tuple ho hc hd hr, fun q => hn (by rw [D.nol] at q; exact q)⟩
    cases h with
    | tup h n q => cases r; exact go _ _ (SqT.of h) q
    | tupK h q => cases r; exact go _ _ h.sq q
  | .lst ds, v, u, h, r => by
    cases h with
    | lst h n q =>
      cases r
      obtain ⟨its, rv, ⟨o, n, ho, hc, _, hd⟩, _⟩ := I.list (SqL.of h)
      obtain ⟨as, hr, _⟩ := reps_reads I ds _ its q rv
      exact ⟨_, by rw [D.toPy]; exact .list ho hc hd hr, fun q => by rw [D.nol] at q; cases q⟩
  | .scr ds, v, u, h, r => by
    have go : ∀ a vs, SqL X.K H a vs → Reps X.K .nil H vs ds → ∃ as, Reads s.heap (.ref a) (D.scr ds).toPy as ∧ ((D.scr ds).nol = true → ∀ a ∈ as, (a == sysModules) = false) := fun a vs hs ha => by
      obtain ⟨its, rv, ⟨o, n, ho, hc, _, hd⟩, _⟩ := I.list hs
      obtain ⟨as, hr, hn⟩ := reps_reads I ds _ its ha rv
      exact ⟨_, by rw [D.toPy]; exact .list ho hc hd hr, fun q => by rw [D.nol] at q; cases q⟩
    cases h with
    | scr h n q => cases r; exact go _ _ (.inl (.inr ⟨_, h⟩)) q
    | scrK h q => cases r; exact go _ _ h.sq q
  | .dct ds, v, u, h, r => by
    cases h with
    | @dct a kvs _ h n q =>
      cases r
      obtain ⟨_, hsys, vs, kv, o, es, ep, ho, ex, hd, _, pr, _⟩ := dk_rd I.hok h
      obtain ⟨as, bs, h1, h2, hn⟩ := repk_reads I ds _ vs es.toList q kv pr
      refine ⟨_, by rw [D.toPy]; exact .dict ho ex.1 hd h1 h2, fun q' b hb => ?_⟩
      rw [D.nol] at q'
      rcases List.mem_append.mp hb with hb | hb
      · rcases List.mem_cons.mp hb with rfl | hb
        · exact hsys
        · exact (hn q').1 b hb
      · exact (hn q').2 b hb
  | .loc l, v, u, h, r => by cases h with | loc h => simp [Pl.nil] at h
theorem reps_reads (I : Inv X pins σ H s) : ∀ (ds : List D) (vs : List V) (us : List Value), Reps X.K .nil H vs ds → Vals vs us → ∃ as, ReadsAll s.heap us (toPys ds) as ∧ (nols ds = true → ∀ a ∈ as, (a == sysModules) = false)
  | [], _, _, h, r => by cases h; cases r; exact ⟨_, by rw [toPys]; exact .nil, fun _ a m => by cases m⟩
  | d :: ds, _, _, h, r => by
    cases h with
    | cons h1 h2 =>
      cases r with
      | cons r1 r2 =>
        obtain ⟨as, q1, n1⟩ := rep_reads I d _ _ h1 r1
        obtain ⟨bs, q2, n2⟩ := reps_reads I ds _ _ h2 r2
        refine ⟨_, by rw [toPys]; exact .cons q1 q2, fun q a ha => ?_⟩
        rw [nols, Bool.and_eq_true] at q
        rcases List.mem_append.mp ha with ha | ha
        · exact n1 q.1 a ha
        · exact n2 q.2 a ha
theorem repk_reads (I : Inv X pins σ H s) : ∀ (ds : List (Key × D)) (kvs : List (Key × V)) (vs : List (Key × Value)) (es : List DictEntry), RepK X.K .nil H kvs ds → KV kvs vs → Pairs (mixKind X.prog X.w) es vs →
    ∃ as bs, ReadsAll s.heap (es.map (·.key)) ((toPyK ds).map (·.1)) as ∧ ReadsAll s.heap (es.map (·.val)) ((toPyK ds).map (·.2)) bs ∧ (nolK ds = true → (∀ a ∈ as, (a == sysModules) = false) ∧ ∀ a ∈ bs, (a == sysModules) = false)
  | [], _, _, es, h, r, p => by
    cases h; cases r; cases p
    exact ⟨_, _, by simp only [toPyK]; exact .nil, by simp only [toPyK]; exact .nil, fun _ => ⟨fun a m => (by cases m), fun a m => (by cases m)⟩⟩
  | (k, d) :: ds, _, _, es, h, r, p => by
    cases h with
    | cons h1 h2 =>
      cases r with
      | @cons x y _ _ r1 r2 =>
        obtain ⟨y1, y2⟩ := y
        obtain ⟨rk, rv⟩ := r1
        cases rk
        cases p with
        | cons p0 p1 p2 =>
          obtain ⟨as, bs, q1, q2, n⟩ := repk_reads I ds _ _ _ h2 r2 p2
          obtain ⟨cs, q3, n3⟩ := rep_reads I d _ _ h1 rv
          rw [← p1] at q3
          rcases keyIs_shape p0 with ⟨i, t, e1, e2⟩ | ⟨z, t, e1, e2⟩
          · cases e1
            refine ⟨_, _, by simp only [toPyK, List.map_cons]; rw [e2]; exact .cons (.int i t) q1, by simp only [toPyK, List.map_cons]; exact .cons q3 q2, fun q => ?_⟩
            rw [nolK, Bool.and_eq_true] at q
            refine ⟨fun a ha => (n q.2).1 a (by simpa using ha), fun a ha => ?_⟩
            rcases List.mem_append.mp ha with ha | ha
            · exact n3 q.1 a ha
            · exact (n q.2).2 a ha
          · cases e1
            refine ⟨_, _, by simp only [toPyK, List.map_cons]; rw [e2]; exact .cons (.str z t) q1, by simp only [toPyK, List.map_cons]; exact .cons q3 q2, fun q => ?_⟩
            rw [nolK, Bool.and_eq_true] at q
            refine ⟨fun a ha => (n q.2).1 a (by simpa using ha), fun a ha => ?_⟩
            rcases List.mem_append.mp ha with ha | ha
            · exact n3 q.1 a ha
            · exact (n q.2).2 a ha
end
/-! ### ==, < -/
mutual
theorem nd_toPy : ∀ d : D, d.nd = true → ndP d.toPy = true ∧ d.toPy.depth = d.dep
  | .non, _ => ⟨rfl, rfl⟩
  | .bl _, _ => ⟨rfl, rfl⟩
  | .int _, _ => ⟨rfl, rfl⟩
  | .str _, _ => ⟨rfl, rfl⟩
  | .tup xs, h => by
    rw [D.nd] at h
    have q := nds_toPy xs h
    rw [D.toPy, ndP, PyData.depth, D.dep, q.1, q.2]
    exact ⟨rfl, rfl⟩
  | .lst xs, h => by
    rw [D.nd] at h
    have q := nds_toPy xs h
    rw [D.toPy, ndP, PyData.depth, D.dep, q.1, q.2]
    exact ⟨rfl, rfl⟩
  | .dct _, h => by simp [D.nd] at h
  | .loc _, h => by simp [D.nd] at h
  | .scr _, h => by simp [D.nd] at h
theorem nds_toPy : ∀ ds : List D, nds ds = true → ndPs (toPys ds) = true ∧ PyData.depthAll (toPys ds) = deps ds
  | [], _ => by rw [toPys, ndPs, PyData.depthAll, deps]; exact ⟨rfl, rfl⟩
  | x :: xs, h => by
    rw [nds, Bool.and_eq_true] at h
    have q := nds_toPy xs h.2
    have p := nd_toPy x h.1
    rw [toPys, ndPs, PyData.depthAll, deps, q.1, q.2, p.1, p.2]
    exact ⟨rfl, rfl⟩
end
theorem int_beq_dec (i j : Int) : (i == j) = decide (i = j) := by
  by_cases h : i = j <;> simp [h]
mutual
theorem eqv_toPy : ∀ a b : D, a.nd = true → b.nd = true → PyData.eqv a.toPy b.toPy = eqD a b
  | .non, b, _, hb => by cases b <;> simp_all [D.toPy, PyData.eqv, eqD, D.nd]
  | .bl x, b, _, hb => by cases b <;> simp_all [D.toPy, PyData.eqv, eqD, D.nd, int_beq_dec]
  | .int x, b, _, hb => by cases b <;> simp_all [D.toPy, PyData.eqv, eqD, D.nd, int_beq_dec]
  | .str x, b, _, hb => by
    cases b <;> simp_all [D.toPy, PyData.eqv, eqD, D.nd]
    rename_i y
    by_cases h : x = y <;> simp [h]
  | .tup xs, b, ha, hb => by
    rw [D.nd] at ha
    cases b with
    | tup ys => rw [D.nd] at hb; simp only [D.toPy, PyData.eqv, eqD]; exact eqv_toPys xs ys ha hb
    | lst ys => simp [D.toPy, PyData.eqv, eqD]
    | _ => simp_all [D.toPy, PyData.eqv, eqD, D.nd]
  | .lst xs, b, ha, hb => by
    rw [D.nd] at ha
    cases b with
    | lst ys => rw [D.nd] at hb; simp only [D.toPy, PyData.eqv, eqD]; exact eqv_toPys xs ys ha hb
    | tup ys => simp [D.toPy, PyData.eqv, eqD]
    | _ => simp_all [D.toPy, PyData.eqv, eqD, D.nd]
  | .dct _, _, ha, _ => by simp [D.nd] at ha
  | .loc _, _, ha, _ => by simp [D.nd] at ha
  | .scr _, _, ha, _ => by simp [D.nd] at ha
theorem eqv_toPys : ∀ xs ys : List D, nds xs = true → nds ys = true → PyData.eqvAll (toPys xs) (toPys ys) = eqDs xs ys
  | [], [], _, _ => by simp [toPys, PyData.eqvAll, eqDs]
  | [], _ :: _, _, _ => by simp [toPys, PyData.eqvAll, eqDs]
  | _ :: _, [], _, _ => by simp [toPys, PyData.eqvAll, eqDs]
  | x :: xs, y :: ys, ha, hb => by
    rw [nds, Bool.and_eq_true] at ha hb
    rw [toPys, toPys, PyData.eqvAll, eqDs, eqv_toPy x y ha.1 hb.1, eqv_toPys xs ys ha.2 hb.2]
end
mutual
theorem alike_toPy : ∀ a b : D, alikeD a b = true → PySem.W.alike a.toPy b.toPy = true ∧ PyData.eqv a.toPy b.toPy = eqD a b
  | .non, b, h => by cases b <;> simp_all [alikeD, D.toPy, PySem.W.alike, PyData.eqv, eqD]
  | .bl x, b, h => by cases b <;> simp_all [alikeD, D.toPy, PySem.W.alike, PyData.eqv, eqD]
  | .int x, b, h => by cases b <;> simp_all [alikeD, D.toPy, PySem.W.alike, PyData.eqv, eqD, int_beq_dec]
  | .str x, b, h => by
    cases b <;> simp_all [alikeD, D.toPy, PySem.W.alike, PyData.eqv, eqD]
    rename_i y
    by_cases h : x = y <;> simp [h]
  | .tup xs, b, h => by
    cases b with
    | tup ys => rw [alikeD] at h; simp only [D.toPy, PySem.W.alike, PyData.eqv, eqD]; exact alikes_toPy xs ys h
    | _ => simp [alikeD] at h
  | .lst xs, b, h => by
    cases b with
    | lst ys => rw [alikeD] at h; simp only [D.toPy, PySem.W.alike, PyData.eqv, eqD]; exact alikes_toPy xs ys h
    | _ => simp [alikeD] at h
  | .dct _, b, h => by cases b <;> simp [alikeD] at h
  | .loc _, b, h => by cases b <;> simp [alikeD] at h
  | .scr _, b, h => by cases b <;> simp [alikeD] at h
theorem alikes_toPy : ∀ xs ys : List D, alikeDs xs ys = true → PySem.W.alikeAll (toPys xs) (toPys ys) = true ∧ PyData.eqvAll (toPys xs) (toPys ys) = eqDs xs ys
  | [], [], _ => by simp [toPys, PySem.W.alikeAll, PyData.eqvAll, eqDs]
  | [], _ :: _, _ => by simp [toPys, PySem.W.alikeAll, PyData.eqvAll, eqDs]
  | _ :: _, [], _ => by simp [toPys, PySem.W.alikeAll, PyData.eqvAll, eqDs]
  | x :: xs, y :: ys, h => by
    rw [alikeDs, Bool.and_eq_true] at h
    have p := alike_toPy x y h.1
    have q := alikes_toPy xs ys h.2
    rw [toPys, toPys, PySem.W.alikeAll, PyData.eqvAll, eqDs, p.1, p.2, q.1, q.2]
    exact ⟨rfl, rfl⟩
end
mutual
theorem lt_toPy : ∀ a b : D, alikeD a b = true → PySem.W.dataLt a.toPy b.toPy = ltD a b
  | .non, b, h => by cases b <;> simp_all [alikeD, D.toPy, ltD, PySem.W.dataLt, PySem.W.keyToks, PyProof.Rows.lexLt]
  | .bl x, b, h => by
    cases b <;> simp_all [alikeD, D.toPy, ltD, PySem.W.dataLt_bool]
    rename_i y
    cases x <;> cases y <;> decide
  | .int x, b, h => by cases b <;> simp_all [alikeD, D.toPy, ltD, PySem.W.dataLt_int]
  | .str x, b, h => by cases b <;> simp_all [alikeD, D.toPy, ltD, PySem.W.dataLt_str]
  | .tup xs, b, h => by
    cases b with
    | tup ys => rw [alikeD] at h; rw [D.toPy, D.toPy, PySem.W.dataLt_tuple, ltD]; exact lts_toPy xs ys h
    | _ => simp [alikeD] at h
  | .lst xs, b, h => by
    cases b with
    | lst ys => rw [alikeD] at h; rw [D.toPy, D.toPy, PySem.W.dataLt_list, ltD]; exact lts_toPy xs ys h
    | _ => simp [alikeD] at h
  | .dct _, b, h => by cases b <;> simp [alikeD] at h
  | .loc _, b, h => by cases b <;> simp [alikeD] at h
  | .scr _, b, h => by cases b <;> simp [alikeD] at h
theorem lts_toPy : ∀ xs ys : List D, alikeDs xs ys = true → PyProof.Rows.lexLt PyProof.Rows.itemOrd (PySem.W.keyToksAll (toPys xs)) (PySem.W.keyToksAll (toPys ys)) = ltDs xs ys
  | [], [], _ => by rw [ltDs, toPys]; rfl
  | [], y :: ys, _ => by
    rw [ltDs, toPys, toPys, PySem.W.keyToksAll, PySem.W.keyToksAll]
    rfl
  | x :: xs, [], _ => by
    rw [ltDs, toPys, toPys, PySem.W.keyToksAll, PySem.W.keyToksAll]
    rfl
  | x :: xs, y :: ys, h => by
    rw [alikeDs, Bool.and_eq_true] at h
    have p := alike_toPy x y h.1
    rw [toPys, toPys, PySem.W.dataLt_cons p.1, p.2, ltDs, lts_toPy xs ys h.2, lt_toPy x y h.1]
end
end
end DV

end
section
set_option Elab.async false
set_option linter.all false
set_option maxRecDepth 100000
set_option autoImplicit false
/-! Comparisons. -/
namespace DV
open PySem PySem.Spec PyProof.Rows L2

def R2B (K : PySem.W.Frag) (op : D → D → Store → Res Bool) : R2 := fun x y H Q => ∃ as m a b c, HS K as m H ∧ Rep K as H x a ∧ Rep K as H y b ∧ op a b m = .ok c ∧ Q (.bl c) H

theorem need_ok {α : Type} {c : Prop} [Decidable c] {r : Res α} {a : α} (h : need c r = .ok a) : c ∧ r = .ok a := by
  unfold need at h
  by_cases q : c
  · rw [if_pos q] at h; exact ⟨q, h⟩
  · rw [if_neg q] at h; cases h
theorem bind_ok_of {α β : Type} {r : Res α} {f : α → Res β} {b : β} (h : r.bind f = .ok b) : ∃ a, r = .ok a ∧ f a = .ok b := by
  cases r with
  | ok a => exact ⟨a, rfl, h⟩
  | exc _ _ _ => cases h
  | err => cases h
mutual
theorem alikeD_comm : ∀ a b : D, alikeD a b = alikeD b a
  | .non, b => by cases b <;> simp [alikeD]
  | .bl _, b => by cases b <;> simp [alikeD]
  | .int _, b => by cases b <;> simp [alikeD]
  | .str _, b => by cases b <;> simp [alikeD]
  | .tup xs, b => by
    cases b with
    | tup ys => rw [alikeD, alikeD]; exact alikeDs_comm xs ys
    | _ => simp [alikeD]
  | .lst xs, b => by
    cases b with
    | lst ys => rw [alikeD, alikeD]; exact alikeDs_comm xs ys
    | _ => simp [alikeD]
  | .dct _, b => by cases b <;> simp [alikeD]
  | .loc _, b => by cases b <;> simp [alikeD]
  | .scr _, b => by cases b <;> simp [alikeD]
theorem alikeDs_comm : ∀ xs ys : List D, alikeDs xs ys = alikeDs ys xs
  | [], [] => rfl
  | [], _ :: _ => by simp [alikeDs]
  | _ :: _, [] => by simp [alikeDs]
  | x :: xs, y :: ys => by rw [alikeDs, alikeDs, alikeD_comm x y, alikeDs_comm xs ys]
end
section
variable {X : Cx} {pins : List (Addr × Obj)} {σ : St} {H : Hp} {s : Shared} {as : Pl} {m : Store}
/-- both sides read -/
theorem both_reads (I : Inv X pins σ H s) (hs : HS X.K as m H) {x y : V} {v u : Value} {a b c d : D} (ra : Rep X.K as H x a) (rb : Rep X.K as H y b) (rx : RelV x v) (ry : RelV y u) (e1 : tr m a = some c) (e2 : tr m b = some d) (ok : eqOk c d) :
    ∃ as1 bs1, Reads s.heap v c.toPy as1 ∧ Reads s.heap u d.toPy bs1 ∧ ndP c.toPy = true ∧ ndP d.toPy = true ∧ min c.toPy.depth d.toPy.depth ≤ 40 := by
  obtain ⟨n1, n2, hd⟩ := ok
  obtain ⟨as1, r1, _⟩ := rep_reads I c x v (tr_rep hs e1 ra) rx
  obtain ⟨bs1, r2, _⟩ := rep_reads I d y u (tr_rep hs e2 rb) ry
  have p1 := nd_toPy c n1
  have p2 := nd_toPy d n2
  refine ⟨as1, bs1, r1, r2, p1.1, p2.1, ?_⟩
  rw [p1.2, p2.2]
  omega
theorem emptyD_of {x y : D} (h : emptyD x y = true) : ∃ xs, x = .dct xs ∧ y = .dct [] := by
  cases x <;> try (simp [emptyD] at h; done)
  cases y <;> try (simp [emptyD] at h; done)
  rename_i xs ys
  cases ys with
  | nil => exact ⟨xs, rfl, rfl⟩
  | cons _ _ => simp [emptyD] at h
theorem rd_dict (I : Inv X pins σ H s) {a : Addr} {ks : List (Key × V)} (h : Rd H a (.dK ks)) : (a == PySem.sysModules) = false ∧ ∃ va, KV ks va ∧ s.heap.DictOf (mixKind X.prog X.w) a va := by
  rcases h with h | ⟨od, h⟩
  · obtain ⟨_, ya, va, ra, da⟩ := (show ObjOk X.prog X.w H s.heap a (.dK ks) from I.hok a _ h)
    exact ⟨ya, va, ra, da⟩
  · obtain ⟨hs, _, _, es, ep, vs, _, _, kv, hm⟩ := I.frzK h
    exact ⟨hs, vs, kv, hm.dictOf⟩
theorem repk_lenE {as : Pl} : ∀ {ks : List (Key × V)} {ds : List (Key × D)}, RepK X.K as H ks ds → ks.length = ds.length
  | _, _, .nil => rfl
  | _, _, .cons _ t => by simp [repk_lenE t]
theorem dct_repN {as : Pl} {v : V} {ds : List (Key × D)} (h : Rep X.K as H v (.dct ds)) : ∃ a ks, v = .ref a ∧ Rd H a (.dK ks) ∧ RepK X.K as H ks ds := by
  cases h with
  | dct h n r => exact ⟨_, _, rfl, h, r⟩
/-- a dict and the empty one -/
theorem empty_both (I : Inv X pins σ H s) (hs : HS X.K as m H) {x y : V} {v u : Value} {a b : D} {xs : List (Key × D)} (ra : Rep X.K as H x a) (rb : Rep X.K as H y b) (rx : RelV x v) (ry : RelV y u) (e1 : tr m a = some (.dct xs)) (e2 : tr m b = some (.dct [])) :
    ∃ a1 a2 va vb, v = .ref a1 ∧ u = .ref a2 ∧ (a1 == PySem.sysModules) = false ∧ (a2 == PySem.sysModules) = false ∧ s.heap.DictOf (mixKind X.prog X.w) a1 va ∧ s.heap.DictOf (mixKind X.prog X.w) a2 vb ∧
      (va.length = vb.length → PySem.W.KeqHits X.A.in1 s vb va true) ∧ eqD (.dct xs) (.dct []) = (va.length == vb.length && true) := by
  obtain ⟨a1, k1, rfl, h1, p1⟩ := dct_repN (tr_rep hs e1 ra)
  obtain ⟨a2, k2, rfl, h2, p2⟩ := dct_repN (tr_rep hs e2 rb)
  obtain ⟨ya, va, ka, da⟩ := rd_dict I h1
  obtain ⟨yb, vb, kb, db⟩ := rd_dict I h2
  cases p2
  have lb : vb.length = 0 := by rw [← Paired.length kb]; rfl
  have la : va.length = xs.length := by
    rw [← Paired.length ka]
    exact repk_lenE p1
  refine ⟨a1, a2, va, vb, rx, ry, ya, yb, da, db, fun hl => ?_, ?_⟩
  · have : va = [] := List.length_eq_zero_iff.mp (by omega)
    subst this
    exact .nil
  · rw [la, lb]
    cases xs with
    | nil => rfl
    | cons p xs => simp [eqD]
theorem op_eqG (hu : X.A.units + 64 < cLine) : OpR X (compareOp .Eq) (R2B X.K fun a b m => eqM m a b) := by
  intro pins s σ H x y v u Q I rx ry ⟨as, m, a, b, c, hs, ra, rb, e, q⟩
  simp only [eqM] at e
  split at e
  · rename_i c1 d1 e1 e2
    obtain ⟨ok, e⟩ := need_ok e
    cases e
    rcases ok with ok | ok
    rotate_left
    · obtain ⟨xs, rfl, rfl⟩ := emptyD_of ok
      obtain ⟨a1, a2, va, vb, rfl, rfl, ya, yb, da, db, hits, ev⟩ := empty_both I hs ra rb rx ry e1 e2
      exact PySem.W.keq_eq (knd := mixKind X.prog X.w) (r := true) ya yb da db (by omega) hits (fin_bl I q ev)
    obtain ⟨as1, bs1, r1, r2, n1, n2, hd⟩ := both_reads I hs ra rb rx ry e1 e2 ok
    have := nd_rc r1 r2 n1 n2 (A := X.A) (by omega)
    exact this X.prog X.w X.xe _ ⟨.bl _, H, I, by rw [eqv_toPy _ _ ok.1 ok.2.1]; rfl, q⟩
  · cases e
theorem op_neG (hu : X.A.units + 64 < cLine) : OpR X (compareOp .NotEq) (R2B X.K fun a b m => (eqM m a b).bind fun c => .ok (!c)) := by
  intro pins s σ H x y v u Q I rx ry ⟨as, m, a, b, c, hs, ra, rb, e0, q⟩
  obtain ⟨c', e, e'⟩ := bind_ok_of e0
  clear e0
  cases e'
  simp only [eqM] at e
  split at e
  · rename_i c1 d1 e1 e2
    obtain ⟨ok, e⟩ := need_ok e
    cases e
    rcases ok with ok | ok
    rotate_left
    · obtain ⟨xs, rfl, rfl⟩ := emptyD_of ok
      obtain ⟨a1, a2, va, vb, rfl, rfl, ya, yb, da, db, hits, ev⟩ := empty_both I hs ra rb rx ry e1 e2
      exact PySem.W.keq_ne (knd := mixKind X.prog X.w) (r := true) ya yb da db (by omega) hits (fin_bl I q (by rw [ev]))
    obtain ⟨as1, bs1, r1, r2, n1, n2, hd⟩ := both_reads I hs ra rb rx ry e1 e2 ok
    have := nd_rcNe r1 r2 n1 n2 (A := X.A) (by omega)
    exact this X.prog X.w X.xe _ ⟨.bl _, H, I, by rw [eqv_toPy _ _ ok.1 ok.2.1]; rfl, q⟩
  · cases e
theorem toPy_ne_none {d : D} (n : d.nd = true) (h : isNon d = false) : d.toPy ≠ .none := by
  cases d <;> simp_all [isNon, D.toPy, D.nd]
theorem op_ordG {op : CmpOp} {k : D → D → Bool} (hu : X.A.units + 64 < cLine)
    (rule : ∀ {s : Shared} {v u : Value} {da db : PyData} {as bs : List Addr} {Q : Value → Shared → Prop}, Reads s.heap v da as → Reads s.heap u db bs → PySem.W.alike da db = true → da ≠ .none → X.A.units + min da.depth db.depth < cLine →
      ∀ c d, da = D.toPy c → db = D.toPy d → alikeD c d = true → Q (.bool (k c d)) s → wpAny (model X.prog X.w) X.A (compareOp op v u) Q X.xe s) :
    OpR X (compareOp op) (R2B X.K fun a b m => ordM k m a b) := by
  intro pins s σ H x y v u Q I rx ry ⟨as, m, a, b, c, hs, ra, rb, e, q⟩
  simp only [ordM] at e
  split at e
  · rename_i c1 d1 e1 e2
    obtain ⟨⟨ok, al, nn⟩, e⟩ := need_ok e
    cases e
    obtain ⟨as1, bs1, r1, r2, n1, n2, hd⟩ := both_reads I hs ra rb rx ry e1 e2 ok
    exact rule r1 r2 (alike_toPy _ _ al).1 (toPy_ne_none ok.1 nn) (by omega) c1 d1 rfl rfl al ⟨.bl _, H, I, rfl, q⟩
  · cases e
theorem op_ltG (hu : X.A.units + 64 < cLine) : OpR X (compareOp .Lt) (R2B X.K fun a b m => ordM (fun x y => ltD x y) m a b) :=
  op_ordG hu fun r1 r2 h hn hu c d e1 e2 al q => PySem.W.lt_data r1 r2 h hn hu (by subst e1 e2; rw [lt_toPy _ _ al]; exact q)
theorem op_gtG (hu : X.A.units + 64 < cLine) : OpR X (compareOp .Gt) (R2B X.K fun a b m => ordM (fun x y => ltD y x) m a b) :=
  op_ordG hu fun r1 r2 h hn hu c d e1 e2 al q => PySem.W.gt_data r1 r2 h hn hu (by subst e1 e2; rw [lt_toPy _ _ (by rw [alikeD_comm]; exact al)]; exact q)
theorem op_leG (hu : X.A.units + 64 < cLine) : OpR X (compareOp .LtE) (R2B X.K fun a b m => ordM (fun x y => !ltD y x) m a b) :=
  op_ordG hu fun r1 r2 h hn hu c d e1 e2 al q => PySem.W.le_data r1 r2 h hn hu (by subst e1 e2; rw [lt_toPy _ _ (by rw [alikeD_comm]; exact al)]; exact q)
theorem op_geG (hu : X.A.units + 64 < cLine) : OpR X (compareOp .GtE) (R2B X.K fun a b m => ordM (fun x y => !ltD x y) m a b) :=
  op_ordG hu fun r1 r2 h hn hu c d e1 e2 al q => PySem.W.ge_data r1 r2 h hn hu (by subst e1 e2; rw [lt_toPy _ _ al]; exact q)

/-! ### in -/
open Classical in
/-- what a value reads as, where it reads as data without dicts -/
noncomputable def rdOf (h : Heap) (v : Value) : PyData := if q : ∃ d as, ndP d = true ∧ Reads h v d as then q.choose else .none
theorem rdOf_eq {h : Heap} {v : Value} {d : PyData} {as : List Addr} (n : ndP d = true) (r : Reads h v d as) : rdOf h v = d := by
  have q : ∃ d as, ndP d = true ∧ Reads h v d as := ⟨d, as, n, r⟩
  unfold rdOf
  rw [dif_pos q]
  obtain ⟨bs, n', r'⟩ := q.choose_spec
  exact nd_uniq _ _ _ _ _ n' n r' r
theorem trs_rep (hs : HS X.K as m H) : ∀ {ds ys : List D} {vs : List V}, trs m ds = some ys → Reps X.K as H vs ds → Reps X.K .nil H vs ys
  | [], ys, vs, e, r => by simp [trs] at e; subst e; cases r; exact .nil
  | x :: xs, ys, vs, e, r => by
    simp only [trs, Option.bind_eq_some_iff, Option.map_eq_some_iff] at e
    obtain ⟨y, e1, zs, e2, rfl⟩ := e
    cases r with | cons r t => exact .cons (tr_rep hs e1 r) (trs_rep hs e2 t)
theorem reads_all (I : Inv X pins σ H s) : ∀ {ys : List D} {vs : List V} {us : List Value}, Reps X.K .nil H vs ys → (∀ y ∈ ys, y.nd = true) → Vals vs us → ∀ {j : Nat} {u : Value}, us[j]? = some u → ∃ y bs, ys[j]? = some y ∧ Reads s.heap u y.toPy bs ∧ ndP y.toPy = true
  | [], vs, us, r, n, rv, j, u, e => by cases r; cases rv; simp at e
  | y :: ys, vs, us, r, n, rv, j, u, e => by
    cases r with
    | cons r t =>
      cases rv with
      | cons r1 r2 =>
        cases j with
        | zero =>
          simp at e; subst e
          obtain ⟨bs, rd, _⟩ := rep_reads I _ _ _ r r1
          exact ⟨y, bs, rfl, rd, (nd_toPy y (n y List.mem_cons_self)).1⟩
        | succ j => simpa using reads_all I t (fun z hz => n z (List.mem_cons_of_mem _ hz)) r2 (j := j) (u := u) (by simpa using e)
theorem any_rd (I : Inv X pins σ H s) (b : PyData) : ∀ {ys : List D} {vs : List V} {us : List Value}, Reps X.K .nil H vs ys → (∀ y ∈ ys, y.nd = true) → Vals vs us → us.map (fun u => PyData.eqv (rdOf s.heap u) b) = ys.map fun y => PyData.eqv y.toPy b
  | [], vs, us, r, n, rv => by cases r; cases rv; rfl
  | y :: ys, vs, us, r, n, rv => by
    cases r with
    | cons r t =>
      cases rv with
      | cons r1 r2 =>
        obtain ⟨bs, rd, _⟩ := rep_reads I _ _ _ r r1
        rw [List.map_cons, List.map_cons, any_rd I b t (fun z hz => n z (List.mem_cons_of_mem _ hz)) r2, rdOf_eq (nd_toPy y (n y List.mem_cons_self)).1 rd]
/-- the comparisons that a search makes -/
theorem seek_eq (I : Inv X pins σ H s) (hu : X.A.units + 64 < cLine) {ys : List D} {vs : List V} {us : List Value} {a : D} {x : V} {v : Value} (r : Reps X.K .nil H vs ys) (n : ∀ y ∈ ys, y.nd = true) (rv : Vals vs us)
    (ra : Rep X.K .nil H x a) (rx : RelV x v) (na : a.nd = true) (hd : a.dep ≤ 40) : ∀ u ∈ us.toArray, SeqAt.EqAt X.A.in1 s u v (PyData.eqv (rdOf s.heap u) a.toPy) := by
  intro u hu'
  obtain ⟨j, hj⟩ := List.mem_iff_getElem?.mp (by simpa using hu')
  obtain ⟨y, bs, _, rd, ny⟩ := reads_all I r n rv hj
  obtain ⟨cs, rd2, _⟩ := rep_reads I _ _ _ ra rx
  have p := nd_toPy a na
  rw [rdOf_eq ny rd]
  refine nd_eqAt _ _ _ _ _ _ _ _ rd rd2 ny p.1 ?_
  rw [p.2]
  show X.A.units + 1 + _ < cLine
  omega
theorem seek_any (I : Inv X pins σ H s) {ys : List D} {vs : List V} {us : List Value} {a : D} (r : Reps X.K .nil H vs ys) (n : ∀ y ∈ ys, y.nd = true) (rv : Vals vs us) (na : a.nd = true) :
    us.any (fun u => PyData.eqv (rdOf s.heap u) a.toPy) = ys.any fun y => eqD y a := by
  have e := any_rd I a.toPy r n rv
  have e2 : ys.map (fun y => PyData.eqv y.toPy a.toPy) = ys.map fun y => eqD y a := List.map_congr_left fun y hy => eqv_toPy y a (n y hy) na
  rw [e2] at e
  have : (us.map fun u => PyData.eqv (rdOf s.heap u) a.toPy).any id = (ys.map fun y => eqD y a).any id := by rw [e]
  simpa [List.any_map, Function.comp_def] using this
theorem repk_find {as : Pl} {kvs : List (Key × V)} {ds : List (Key × D)} (h : RepK X.K as H kvs ds) (k : Key) : (valV kvs k).isSome = (dget ds k).isSome ∧ ∀ v d, valV kvs k = some v → dget ds k = some d → Rep X.K as H v d := by
  induction ds generalizing kvs with
  | nil => cases h; exact ⟨rfl, fun v d e _ => by simp [valV] at e⟩
  | cons p ds ih =>
    cases h with
    | @cons i v d vs _ h t =>
      by_cases e : i = k
      · subst e
        refine ⟨by simp [valV, dget, List.find?_cons], fun v' d' e1 e2 => ?_⟩
        simp [valV, dget, List.find?_cons] at e1 e2
        subst e1 e2
        exact h
      · have q := ih t
        have e1 : valV ((i, v) :: vs) k = valV vs k := by simp [valV, List.find?_cons, e]
        have e2 : dget ((i, d) :: ds) k = dget ds k := by simp [dget, List.find?_cons, e]
        rw [e1, e2]
        exact q
theorem key_rep {as : Pl} {v : V} {d : D} {k : Key} (h : Rep X.K as H v d) (e : keyOf d = some k) : v = kV k := by
  cases d <;> simp [keyOf] at e
  · subst e; exact int_rep h
  · subst e; exact str_rep h
/-- in, not in -/
theorem inM_run (hu : X.A.units + 64 < cLine) (neg : Bool) (I : Inv X pins σ H s) {x y : V} {v u : Value} {Q : VK} (rx : RelV x v) (ry : RelV y u) {a b : D} {c : Bool} (hs : HS X.K as m H) (ra : Rep X.K as H x a) (rb : Rep X.K as H y b) (e : inM m a b = .ok c) (q : Q (.bl (if neg then !c else c)) H) :
    wpAny (model X.prog X.w) X.A (compareOp (if neg then .NotIn else .In) v u) (EP X pins σ Q) X.xe s := by
  have seqs : inC m a b = .ok c → wpAny (model X.prog X.w) X.A (compareOp (if neg then .NotIn else .In) v u) (EP X pins σ Q) X.xe s := by
    clear e
    intro e
    simp only [inC] at e
    split at e
    · rename_i kvs e1
      split at e
      · rename_i k e2
        cases e
        obtain ⟨p, kv, rfl, hp, r⟩ := dctV_rep hs rb e1
        have fk := repk_find r k
        have ex := key_rep ra e2
        subst ex
        cases ry
        have g : DGet H p (kV k) (valV kv k) := .inl ⟨kv, k, hp, rfl, rfl⟩
        rw [← fk.1] at q
        cases neg with
        | true => exact d_notIn (by omega) I g rx fun s' I' => ⟨.bl _, H, I', rfl, q⟩
        | false => exact d_in (by omega) I g rx fun s' I' => ⟨.bl _, H, I', rfl, q⟩
      · cases e
    · split at e
      · rename_i xs e2
        simp only [seekM] at e
        split at e
        · rename_i zs d e3 e4
          obtain ⟨⟨n, nd', hd⟩, e⟩ := need_ok e
          cases e
          obtain ⟨p, vs, rfl, hp, r⟩ := seqV_rep hs rb e2
          cases ry
          have r1 := trs_rep hs e3 r
          have r2 := tr_rep hs e4 ra
          rcases hp with hp | hp
          · obtain ⟨its, rv, pl, _⟩ := I.list hp
            have ans := seek_any I r1 n rv nd'
            cases neg with
            | true => exact SeqAt.notIn_listAt _ pl.isList (seek_eq I hu r1 n rv r2 rx nd' hd) ⟨.bl _, H, I, by rw [List.any_toArray, ans]; rfl, q⟩
            | false => exact SeqAt.in_listAt _ pl.isList (seek_eq I hu r1 n rv r2 rx nd' hd) ⟨.bl _, H, I, by rw [List.any_toArray, ans]; rfl, q⟩
          · obtain ⟨its, rv, ⟨o, ho, hc, k, hd2⟩, _⟩ := I.tuple hp
            have ans := seek_any I r1 n rv nd'
            cases neg with
            | true => exact SeqAt.notIn_tupleAt _ ⟨o, ho, hc, k, hd2⟩ (seek_eq I hu r1 n rv r2 rx nd' hd) ⟨.bl _, H, I, by rw [List.any_toArray, ans]; rfl, q⟩
            | false => exact SeqAt.in_tupleAt _ ⟨o, ho, hc, k, hd2⟩ (seek_eq I hu r1 n rv r2 rx nd' hd) ⟨.bl _, H, I, by rw [List.any_toArray, ans]; rfl, q⟩
        · cases e
      · cases e
  cases b with
  | str z =>
    simp only [inM] at e
    split at e
    · rename_i x'
      split at e
      · rename_i c' e1
        cases e
        have e2 : x' = ⟨#[c']⟩ := by
          obtain ⟨cps⟩ := x'
          have : cps = #[c'] := by rw [← Array.toList_inj]; exact e1
          rw [this]
        subst e2
        have p := str_rep ra
        have p2 := str_rep rb
        subst p p2
        cases neg with
        | true => exact op_notIn_sign pins s σ H _ _ _ _ Q I rx ry ⟨c', z, rfl, rfl, q⟩
        | false => exact op_in_sign pins s σ H _ _ _ _ Q I rx ry ⟨c', z, rfl, rfl, q⟩
      · cases e
    · cases e
  | _ => exact seqs e
theorem op_inG (hu : X.A.units + 64 < cLine) : OpR X (compareOp .In) (R2B X.K fun a b m => inM m a b) := by
  intro pins s σ H x y v u Q I rx ry ⟨as, m, a, b, c, hs, ra, rb, e, q⟩
  exact inM_run hu false I rx ry hs ra rb e q
theorem op_notinG (hu : X.A.units + 64 < cLine) : OpR X (compareOp .NotIn) (R2B X.K fun a b m => (inM m a b).bind fun c => .ok (!c)) := by
  intro pins s σ H x y v u Q I rx ry ⟨as, m, a, b, c, hs, ra, rb, e0, q⟩
  obtain ⟨c', e, e'⟩ := bind_ok_of e0
  cases e'
  exact inM_run hu true I rx ry hs ra rb e q
end
end DV

end
section
set_option Elab.async false
set_option linter.all false
set_option maxRecDepth 100000
set_option autoImplicit false
/-! list(text), list(d.items()). -/
namespace DV
open PySem PySem.Spec PyProof.Rows L2
section
variable {X : Cx}
theorem signs_vals {x : Str} : ∀ (us : List Value) (o : Nat), (∀ j v, us[j]? = some v → ∃ c u, x.cps.toList[o + j]? = some c ∧ v = .str ⟨#[c]⟩ u) → us.length = x.cps.toList.length - o → o ≤ x.cps.toList.length → Vals ((x.cps.toList.drop o).map fun c => V.str ⟨#[c]⟩) us
  | [], o, _, hl, ho => by
    rw [List.length_nil] at hl
    rw [List.drop_eq_nil_of_le (by omega)]
    exact .nil
  | u :: us, o, h, hl, ho => by
    obtain ⟨c, t, e, rfl⟩ := h 0 u rfl
    rw [List.length_cons] at hl
    rw [Nat.add_zero] at e
    obtain ⟨h1, h2⟩ := List.getElem?_eq_some_iff.mp e
    rw [List.drop_eq_getElem_cons h1, List.map_cons, h2]
    exact .cons ⟨t, rfl⟩ (signs_vals us (o + 1) (fun j v e => by
      have := h (j + 1) v e
      rwa [show o + (j + 1) = o + 1 + j by omega] at this) (by omega) h1)
theorem call_list_txt (hc : X.calm = true) : CallR X (.type "list") (fun xs H Q => ∃ x : Str, xs = [.str x] ∧ x.cps.size ≤ sizeLine ∧ ∀ l, H l = none → Q (.ref l) (upd H l (.lst (x.cps.toList.map fun c => V.str ⟨#[c]⟩)))) := by
  intro pins s σ H xs us Q I r h
  obtain ⟨x, rfl, hz, q⟩ := h
  obtain ⟨u, rfl, rx⟩ := vals1 r
  obtain ⟨t, rfl⟩ := rx
  refine call_list_str (hn := hz) (I.ok.hd hc) x t fun h' tk acc' c' kp e hacc => ?_
  have hv : Vals (x.cps.toList.map fun c => V.str ⟨#[c]⟩) acc'.toList := by
    have := signs_vals (x := x) acc'.toList 0 (fun j v e => by
      obtain ⟨c, u, h1, h2⟩ := hacc.2 j v (by rw [← Array.getElem?_toList]; exact e)
      exact ⟨c, u, by rw [Nat.zero_add, Array.getElem?_toList]; exact h1, h2⟩) (by rw [Array.length_toList, hacc.1]; simp) (Nat.zero_le _)
    simpa using this
  exact ⟨.ref s.heap.objs.size, _, I.laid (t' := tk) kp (Nat.le_refl _) (show ObjOk X.prog X.w _ h' _ (.lst _) from ⟨by rw [List.length_map, Array.length_toList]; exact hz, acc'.toList, c', hv, by rw [Array.toArray_toList]; exact e⟩), rfl, q _ (I.hok.fresh (Nat.le_refl _))⟩
/-- list(e.items()), the dict locked or not -/
def rItR : V → Hp → VK → Prop := fun x H Q => ∃ (d : Addr) (kvs : List (Key × V)), x = .ref d ∧ Rd H d (.dK kvs) ∧
  ∀ (H' : Hp) (p : Addr) (ts : List Addr), (∀ b o, H b = some o → H' b = some o) → H p = none → (∀ t ∈ ts, H t = none) → p ∉ ts → H' p = some (.lst (ts.map V.ref)) → Paired (fun (t : Addr) (q : Key × V) => H' t = some (.tup [kV q.1, q.2])) ts kvs → Q (.ref p) H'
theorem pe_itR {e : Expr} {te : TE} {p apos cpos pos : Pos} (hc : X.calm = true) (he : PE X e te) (hg : Gl X "list") (hm : X.mg "list" = none) (hbase : attributeBase e "items" X.env (eval e X.env) = eval e X.env) (hline : (apos.endLine == cpos.line) = true) :
    PE X (.Call (.Name "list" p) [.Call (.Attribute e "items" apos) [] [] cpos] [] pos) (fun σ H Q => te σ H fun x H1 => rItR x H1 Q) := by
  have hv : bootBuiltins "list" = some (.type "list") := by decide +kernel
  have hst : starEach [.Call (.Attribute e "items" apos) [] [] cpos] X.env = (false, eval (.Call (.Attribute e "items" apos) [] [] cpos) X.env) :: starEach [] X.env := rfl
  refine ⟨fun pins s σ H Q I hq => wpAny_Call_Name_kw (ld_blt I hg hm hv (PyProof.Rows.callWith_type1 ?_ hst rfl))⟩
  rw [hst]
  refine Calls.spliced_cons (wpAny_Call_method (T := "dict") (id := "dict.items") hbase rfl hline F.plainAttrs_dict F.slot_dict_items F.type_dict_items (thn (he.run pins s σ H _ I hq) fun u s1 ⟨x, H1, I1, rx, a, kvs, ex, hd, q⟩ => ?_))
  subst ex
  obtain rfl : u = Value.ref a := rx
  obtain ⟨z1, z2, vs, rel, dd⟩ := dk_rd I1.hok hd
  obtain ⟨ep, hat⟩ := dd.dictAt
  have len : kvs.length = vs.length := Paired.length rel
  have J : Inv X pins σ H1 { s1 with heap := s1.heap.push { cls := .type "dict_items", data := .fields #[.ref a] } } := I1.kept (t' := s1.toks) fun b ob q => Heap.get?_push_of_some _ q
  refine ⟨dd.typeIs, dd.mapOf.noDict, method_meetsIn F.slot_dict_items F.entry_dict_items rfl (PySem.evalArgs_none ⟨rfl, dd.typeIs, F.args_dict_items_1 _, _, meets_dict_items (mixKind X.prog X.w) a z2, ⟨vs, dd⟩, ?_⟩)⟩
  refine Calls.spliced_nil (PySem.W.kdx_call (knd := mixKind X.prog X.w) (kvs := vs) (ep := ep) (I1.ok.hd hc) ⟨_, Heap.get?_push_size _ rfl, rfl, rfl⟩ (hat.push _) (by omega) fun h' tk acc c as hk hS hl hG hacc => ?_)
  obtain ⟨H', g1, g2, g3, g4, g5, g6, J2⟩ := LiI.items_laid (tk := tk) J z1 rel hk hS hl hG hacc
  exact ⟨.ref _, H', J2, rfl, q H' _ as g1 g2 g3 g4 g5 g6⟩
end
end DV

end
section
set_option Elab.async false
set_option linter.all false
set_option maxRecDepth 100000
set_option autoImplicit false
/-! Built-ins, methods, items. -/
namespace DV
open PySem PySem.Spec PyProof.Rows L2
/-- a call by the evaluator -/
def RC (K : PySem.W.Frag) (op : List D → Store → RD) : List V → Hp → VK → Prop := fun vs H Q => ∃ as m ds, HS K as m H ∧ Reps K as H vs ds ∧ PostV K as H (op ds m) Q
section
variable {X : Cx} {pins : List (Addr × Obj)} {σ : St} {H : Hp} {s : Shared} {as : Pl} {m : Store}
/-- a built-in of one argument -/
def RC1 (K : PySem.W.Frag) (k : D → Store → RD) : List V → Hp → VK → Prop := fun vs H Q => ∃ as m v a, HS K as m H ∧ vs = [v] ∧ Rep K as H v a ∧ PostV K as H (k a m) Q
theorem repk_len {kvs : List (Key × V)} {ds : List (Key × D)} (h : RepK X.K as H kvs ds) : kvs.length = ds.length := by
  induction ds generalizing kvs with
  | nil => cases h; rfl
  | cons p ds ih => cases h with | cons h t => simp [ih t]
theorem cr_len : CallR X (.builtin "len") (RC1 X.K lenD) := by
  intro pins s σ H vs us Q I rv ⟨as, m, v, a, hs, ev, r, h⟩
  subst ev
  have rest : PostV X.K as H (match dctV m a with | some kvs => .ok (.int kvs.length, m) | none => match seqV m a with | some ys => .ok (.int ys.length, m) | none => .err) Q → wpAny (model X.prog X.w) X.A (call (.builtin "len") us) (EP X pins σ Q) X.xe s := by
    intro h
    split at h
    · rename_i kvs e
      obtain ⟨p, kv, rfl, hp, rk⟩ := dctV_rep hs r e
      obtain ⟨u, rfl, ru⟩ := vals1 rv
      cases ru
      refine d_len I hp fun t s' I' => ⟨.int kv.length, H, I', ⟨t, rfl⟩, ?_⟩
      rw [repk_len rk]
      exact h.here hs (.int _)
    · split at h
      · rename_i ys e
        obtain ⟨p, ws, rfl, hp, rk⟩ := seqV_rep hs r e
        refine call_len pins s σ H _ us Q I rv ⟨_, ws.length, rfl, ?_, ?_⟩
        · rcases hp with hp | hp
          · exact .inl ⟨ws, hp, rfl⟩
          · exact .inr ⟨ws, hp, rfl⟩
        · rw [rk.length]; exact h.here hs (.int _)
      · exact h.elim
  cases a with
  | str x =>
    obtain ⟨hl, h⟩ := h.needs
    have := str_rep r
    subst this
    exact call_len pins s σ H _ us Q I rv ⟨_, x.length, rfl, ⟨hl, rfl⟩, h.here hs (.int _)⟩
  | _ => exact rest h
theorem cr_abs : CallR X (.builtin "abs") (RC1 X.K absD) := CallR.imp call_abs fun vs H Q ⟨as, m, v, a, hs, ev, r, h⟩ => by
  subst ev
  cases a <;> first | exact h.elim | skip
  have := int_rep r
  subst this
  exact ⟨_, rfl, h.here hs (.int _)⟩
theorem cr_bool : CallR X (.type "bool") (RC1 X.K boolD) := CallR.imp call_bool1 fun vs H Q ⟨as, m, v, a, hs, ev, r, h⟩ => by
  subst ev
  cases a <;> first | exact h.elim | skip
  have := bl_rep r
  subst this
  exact .inr ⟨_, rfl, h.here hs (.bl _)⟩
theorem cr_str : CallR X (.type "str") (RC1 X.K strD) := CallR.imp (CallR.or call_str_int SkE.call_str_str) fun vs H Q ⟨as, m, v, a, hs, ev, r, h⟩ => by
  subst ev
  cases a <;> first | exact h.elim | skip
  · have := int_rep r
    subst this
    obtain ⟨c, h⟩ := h.needs
    exact .inl ⟨_, rfl, c, h.here hs (.str _)⟩
  · have := str_rep r
    subst this
    exact .inr ⟨_, rfl, h.here hs (.str _)⟩
theorem rep_keys {as : Pl} {H : Hp} : ∀ {kvs : List (Key × V)} {ds : List (Key × D)}, RepK X.K as H kvs ds → Reps X.K as H (kvs.map fun kv => kV kv.1) (ds.map fun p => keyD p.1)
  | _, [], .nil => .nil
  | _, (.inl _, _) :: _, .cons _ t => .cons (.int _) (rep_keys t)
  | _, (.inr _, _) :: _, .cons _ t => .cons (.str _) (rep_keys t)
theorem rep_signs {as : Pl} {H : Hp} : ∀ cs : List Nat, Reps X.K as H (cs.map fun c => V.str ⟨#[c]⟩) (cs.map sign)
  | [] => .nil
  | _ :: cs => .cons (.str _) (rep_signs cs)
theorem cr_list (hc : X.calm = true) (f : Bool) : CallR X (.type "list") (RC1 X.K (listD f)) := CallR.imp (CallR.or call_list_of (CallR.or (call_listD hc) (call_list_txt hc))) fun vs H Q ⟨as, m, v, a, hs, ev, r, h⟩ => by
  subst ev
  have rest : PostV X.K as H (listK f a m) Q → (∃ p ys, [v] = [V.ref p] ∧ (SqL X.K H p ys ∨ SqT X.K H p ys) ∧ ∀ l, H l = none → Q (.ref l) (upd H l (.lst ys))) ∨ ((∃ (a : Addr) (kvs : List (Key × V)), [v] = [.ref a] ∧ Rd H a (.dK kvs) ∧ ∀ p, H p = none → Q (.ref p) (upd H p (.lst (kvs.map fun kv => kV kv.1)))) ∨ (∃ x : Str, [v] = [.str x] ∧ x.cps.size ≤ sizeLine ∧ ∀ l, H l = none → Q (.ref l) (upd H l (.lst (x.cps.toList.map fun c => V.str ⟨#[c]⟩))))) := fun h => by
    unfold listK at h
    split at h
    · rename_i ks e
      obtain ⟨b, kvs, rfl, h1, h2⟩ := dctV_rep hs r e
      obtain ⟨_, k⟩ := newL_post hs (rep_keys h2) h
      exact .inr (.inl ⟨b, kvs, rfl, h1, k⟩)
    · unfold listQ at h
      split at h
      · rename_i ys e
        obtain ⟨p, ws, rfl, hp, rk⟩ := seqV_rep hs r e
        obtain ⟨_, k⟩ := newL_post hs rk h
        exact .inl ⟨p, ws, rfl, hp, k⟩
      · exact h.elim
  cases a with
  | str x =>
    have := str_rep r
    subst this
    obtain ⟨hl, k⟩ := newL_post hs (rep_signs x.cps.toList) h
    exact .inr (.inr ⟨x, rfl, by simpa using hl, k⟩)
  | _ => exact rest h
theorem cr_tuple : CallR X (.type "tuple") (RC1 X.K tupleD) := CallR.imp call_tuple_of fun vs H Q ⟨as, m, v, a, hs, ev, r, h⟩ => by
  subst ev
  unfold tupleD at h
  split at h
  · rename_i ys e
    cases a with
    | tup xs =>
      simp [seqV] at e
      subst e
      obtain ⟨p, ws, rfl, hp, rk⟩ := tup_rep r
      obtain ⟨_, h⟩ := h.needs
      exact ⟨p, ws, rfl, .inr ⟨hp, h.here hs r⟩⟩
    | _ =>
      obtain ⟨p, ws, rfl, hp, rk⟩ := lstV_rep hs r e
      obtain ⟨_, k⟩ := newT_post hs rk h
      exact ⟨p, ws, rfl, .inl ⟨hp, k⟩⟩
  · exact h.elim
theorem cr_int : CallR X (.type "int") (RC1 X.K intD) := CallR.imp (CallR.or call_int1 call_int_str) fun vs H Q ⟨as, m, v, a, hs, ev, r, h⟩ => by
  subst ev
  cases a <;> first | exact h.elim | skip
  · have := bl_rep r
    subst this
    exact .inl (.inr ⟨_, rfl, h.here hs (.int _)⟩)
  · have := int_rep r
    subst this
    exact .inl (.inl ⟨_, rfl, h.here hs (.int _)⟩)
  · have := str_rep r
    subst this
    unfold intD at h
    dsimp only at h
    split at h
    · rename_i n e
      obtain ⟨c, h⟩ := h.needs
      exact .inr ⟨_, n, rfl, e, c, h.here hs (.int _)⟩
    · exact h.elim
theorem bools_rep {as : Pl} {H : Hp} : ∀ {ys : List D} {vs : List V} {bs : List Bool}, Reps X.K as H vs ys → bools ys = some bs → vs = bs.map V.bl
  | [], _, bs, r, e => by cases r; simp [bools] at e; subst e; rfl
  | y :: ys, _, bs, r, e => by
    cases r with
    | cons r t =>
      cases y <;> simp [bools] at e
      obtain ⟨cs, e, rfl⟩ := e
      rw [bl_rep r, bools_rep t e]
      rfl
theorem cr_allD (hc : X.calm = true) : CallR X (.builtin "all") (RC1 X.K (boolsD fun bs => bs.all id)) := CallR.imp (cr_all hc) fun vs H Q ⟨as, m, v, a, hs, ev, r, h⟩ => by
  subst ev
  unfold boolsD at h
  split at h
  · rename_i ys e
    split at h
    · rename_i bs e2
      obtain ⟨p, ws, rfl, hp, rk⟩ := lstV_rep hs r e
      have := bools_rep rk e2
      subst this
      exact ⟨p, bs, rfl, hp, h.here hs (.bl _)⟩
    · exact h.elim
  · exact h.elim
theorem cr_anyD (hc : X.calm = true) : CallR X (.builtin "any") (RC1 X.K (boolsD fun bs => bs.any id)) := CallR.imp (cr_any hc) fun vs H Q ⟨as, m, v, a, hs, ev, r, h⟩ => by
  subst ev
  unfold boolsD at h
  split at h
  · rename_i ys e
    split at h
    · rename_i bs e2
      obtain ⟨p, ws, rfl, hp, rk⟩ := lstV_rep hs r e
      have := bools_rep rk e2
      subst this
      exact ⟨p, bs, rfl, hp, h.here hs (.bl _)⟩
    · exact h.elim
  · exact h.elim
mutual
theorem nd_hasDict : ∀ d : D, d.nd = true → d.toPy.hasDict = false
  | .non, _ => rfl
  | .bl _, _ => rfl
  | .int _, _ => rfl
  | .str _, _ => rfl
  | .tup xs, h => by rw [D.toPy, PyData.hasDict]; exact nds_hasDict xs (by simpa [D.nd] using h)
  | .lst xs, h => by rw [D.toPy, PyData.hasDict]; exact nds_hasDict xs (by simpa [D.nd] using h)
  | .dct _, h => by simp [D.nd] at h
  | .loc _, h => by simp [D.nd] at h
  | .scr _, h => by simp [D.nd] at h
theorem nds_hasDict : ∀ ds : List D, nds ds = true → PyData.hasDictAll (toPys ds) = false
  | [], _ => rfl
  | x :: xs, h => by
    rw [nds, Bool.and_eq_true] at h
    rw [toPys, PyData.hasDictAll, nd_hasDict x h.1, nds_hasDict xs h.2]
    rfl
end
theorem cr_repr (hu : X.A.units + 64 < cLine) (hg : X.A.guards = some []) : CallR X (.builtin "repr") (RC1 X.K reprD) := by
  intro pins s σ H vs us Q I rv ⟨as, m, v, a, hs, ev, r, h⟩
  subst ev
  unfold reprD at h
  split at h
  · rename_i d e
    obtain ⟨⟨n, hd, hsh, hz⟩, h⟩ := h.needs
    obtain ⟨u, rfl, ru⟩ := vals1 rv
    have q := h.here hs (.str _)
    obtain ⟨bs, rd, ok⟩ := rep_reads I d v u (tr_rep hs e r) ru
    have hsm : d.toPy.hasDict = true → sysModules ∉ bs := by
      intro hh hm
      rcases n with n | n
      · rw [nd_hasDict d n] at hh; cases hh
      · have := ok n _ hm
        simp at this
    generalize d.toPy = py at *
    cases rd with
    | none => exact PySem.P.repr_of_none ⟨.str _, H, I.tok _, ⟨_, rfl⟩, q⟩
    | bool b => exact PySem.P.repr_of_bool ⟨.str _, H, I.tok _, ⟨_, rfl⟩, by simpa [PyData.shown] using q⟩
    | int i t =>
      refine PySem.P.repr_of_int ?_ ⟨.str _, H, I.tok _, ⟨_, rfl⟩, by simpa [PyData.shown] using q⟩
      simpa [PyData.showable] using hsh
    | str x t =>
      refine PySem.P.repr_of_str ⟨.str _, H, I.tok _, ⟨_, rfl⟩, by simpa [PyData.shown] using q⟩ ?_
      rw [PyData.shown_str] at hz
      exact hz
    | _ =>
      refine repr_of_reads' (by first | exact .list ‹_› ‹_› ‹_› ‹_› | exact .tuple ‹_› ‹_› ‹_› ‹_› | exact .dict ‹_› ‹_› ‹_› ‹_› ‹_›) hsh hsm hg (by omega) (fun _ _ e => e) (fun h' u tk hk => ⟨.str _, H, I.kept hk, ⟨_, rfl⟩, q⟩) hz
  · exact h.elim
theorem ints_rep {as : Pl} {H : Hp} : ∀ {ys : List D} {vs : List V} {ns : List Int}, Reps X.K as H vs ys → intsD ys = some ns → vs = ns.map V.int
  | [], _, ns, r, e => by cases r; simp [intsD] at e; subst e; rfl
  | y :: ys, _, ns, r, e => by
    cases r with
    | cons r t =>
      cases y <;> simp [intsD] at e
      obtain ⟨cs, e, rfl⟩ := e
      rw [int_rep r, ints_rep t e]
      rfl
/-- the sum of a list's whole numbers -/
theorem cr_sumD (hc : X.calm = true) : CallR X (.builtin "sum") (RC1 X.K sumD) := CallR.imp (cr_sum hc) fun vs H Q ⟨as, m, v, a, hs, ev, r, h⟩ => by
  subst ev
  unfold sumD at h
  split at h
  · rename_i ys e
    split at h
    · rename_i ns e2
      obtain ⟨p, ws, rfl, hp, rk⟩ := lstV_rep hs r e
      have := ints_rep rk e2
      subst this
      exact ⟨p, ns, rfl, hp, h.here hs (.int _)⟩
    · exact h.elim
  · exact h.elim
theorem fold_min : ∀ (ns : List Int) (n : Int), (ns.foldl (fun a b => if b < a then b else a) n) ∈ n :: ns ∧ ∀ y ∈ n :: ns, (ns.foldl (fun a b => if b < a then b else a) n) ≤ y
  | [], n => ⟨List.mem_cons_self, fun y hy => by simp at hy; subst hy; exact Int.le_refl _⟩
  | b :: ns, n => by
    obtain ⟨h1, h2⟩ := fold_min ns (if b < n then b else n)
    rw [List.foldl_cons]
    have h3 := h2 _ List.mem_cons_self
    refine ⟨?_, fun y hy => ?_⟩
    · rcases List.mem_cons.mp h1 with h | h
      · rw [h]; split <;> simp
      · exact List.mem_cons_of_mem _ (List.mem_cons_of_mem _ h)
    · rcases List.mem_cons.mp hy with e | hy
      · subst e; exact Int.le_trans h3 (by split <;> omega)
      · rcases List.mem_cons.mp hy with e | hy
        · subst e; exact Int.le_trans h3 (by split <;> omega)
        · exact h2 y (List.mem_cons_of_mem _ hy)
theorem fold_max : ∀ (ns : List Int) (n : Int), (ns.foldl (fun a b => if a < b then b else a) n) ∈ n :: ns ∧ ∀ y ∈ n :: ns, y ≤ (ns.foldl (fun a b => if a < b then b else a) n)
  | [], n => ⟨List.mem_cons_self, fun y hy => by simp at hy; subst hy; exact Int.le_refl _⟩
  | b :: ns, n => by
    obtain ⟨h1, h2⟩ := fold_max ns (if n < b then b else n)
    rw [List.foldl_cons]
    have h3 := h2 _ List.mem_cons_self
    refine ⟨?_, fun y hy => ?_⟩
    · rcases List.mem_cons.mp h1 with h | h
      · rw [h]; split <;> simp
      · exact List.mem_cons_of_mem _ (List.mem_cons_of_mem _ h)
    · rcases List.mem_cons.mp hy with e | hy
      · subst e; exact Int.le_trans (by split <;> omega) h3
      · rcases List.mem_cons.mp hy with e | hy
        · subst e; exact Int.le_trans (by split <;> omega) h3
        · exact h2 y (List.mem_cons_of_mem _ hy)
theorem foldI_of {k : Int → Int → Int} {a : D} {m : Store} {v : V} {as : Pl} {H : Hp} {Q : VK} (hs : HS X.K as m H) (r : Rep X.K as H v a) (h : PostV X.K as H (foldI k a m) Q) : ∃ p n ns, v = .ref p ∧ SqL X.K H p ((n :: ns).map V.int) ∧ Q (.int (ns.foldl k n)) H := by
  unfold foldI at h
  split at h
  · rename_i ys e
    split at h
    · rename_i n ns e2
      obtain ⟨p, ws, rfl, hp, rk⟩ := lstV_rep hs r e
      have := ints_rep rk e2
      subst this
      exact ⟨p, n, ns, rfl, hp, h.here hs (.int _)⟩
    · exact h.elim
  · exact h.elim
theorem cr_minD (hc : X.calm = true) : CallR X (.builtin "min") (RC1 X.K minI) := CallR.imp (cr_min hc) fun vs H Q ⟨as, m, v, a, hs, ev, r, h⟩ => by
  subst ev
  obtain ⟨p, n, ns, rfl, hp, q⟩ := foldI_of hs r h
  obtain ⟨h1, h2⟩ := fold_min ns n
  refine ⟨p, n :: ns, rfl, hp, by simp, fun m hm hall => ?_⟩
  rw [show m = _ from Int.le_antisymm (hall _ h1) (h2 m hm)]
  exact q
theorem cr_maxD (hc : X.calm = true) : CallR X (.builtin "max") (RC1 X.K maxI) := CallR.imp (cr_max hc) fun vs H Q ⟨as, m, v, a, hs, ev, r, h⟩ => by
  subst ev
  obtain ⟨p, n, ns, rfl, hp, q⟩ := foldI_of hs r h
  obtain ⟨h1, h2⟩ := fold_max ns n
  refine ⟨p, n :: ns, rfl, hp, by simp, fun m hm hall => ?_⟩
  rw [show m = _ from Int.le_antisymm (h2 m hm) (hall _ h1)]
  exact q
end
end DV

end
section
set_option Elab.async false
set_option linter.all false
set_option maxRecDepth 100000
set_option autoImplicit false
/-! sorted, min, max of data. -/
namespace DV
open PySem PySem.Spec PyProof.Rows L2
section
variable {X : Cx} {pins : List (Addr × Obj)} {σ : St} {H : Hp} {s : Shared} {as : Pl} {m : Store}
mutual
theorem nd_under (n : Nat) : ∀ d : D, d.nd = true → d.under n = true
  | .non, _ => by rw [D.under]
  | .bl _, _ => by rw [D.under]
  | .int _, _ => by rw [D.under]
  | .str _, _ => by rw [D.under]
  | .tup xs, h => by rw [D.under]; exact nds_under n xs (by simpa [D.nd] using h)
  | .lst xs, h => by rw [D.under]; exact nds_under n xs (by simpa [D.nd] using h)
  | .dct _, h => by simp [D.nd] at h
  | .loc _, h => by simp [D.nd] at h
  | .scr _, h => by simp [D.nd] at h
theorem nds_under (n : Nat) : ∀ ds : List D, nds ds = true → unders n ds = true
  | [], _ => by rw [unders]
  | x :: xs, h => by
    rw [nds, Bool.and_eq_true] at h
    rw [unders, nd_under n x h.1, nds_under n xs h.2]; rfl
end
theorem tr_nd {d : D} (h : d.nd = true) : tr m d = some d := by unfold tr; rw [if_pos (nd_under 0 d h)]
/-- values with what they stand for -/
abbrev IsR (X : Cx) (as : Pl) (H : Hp) (u : Value) (d : D) : Prop := ∃ v, RelV v u ∧ Rep X.K as H v d
theorem reps_each : ∀ {ds : List D} {vs : List V} {us : List Value}, Reps X.K as H vs ds → Vals vs us → PySem.W.EachIs (IsR X as H) us ds
  | [], _, _, r, q => by cases r; cases q; exact .nil
  | d :: ds, _, _, r, q => by
    cases r with
    | cons r t => cases q with | cons q q' => exact .cons ⟨_, q, r⟩ (reps_each t q')
theorem each_reps : ∀ {ds : List D} {us : List Value}, PySem.W.EachIs (IsR X as H) us ds → ∃ vs, Vals vs us ∧ Reps X.K as H vs ds
  | [], _, r => by cases r; exact ⟨[], .nil, .nil⟩
  | d :: ds, _, r => by
    cases r with
    | cons r t =>
      obtain ⟨v, q, r⟩ := r
      obtain ⟨vs, q', r'⟩ := each_reps t
      exact ⟨v :: vs, .cons q q', .cons r r'⟩
theorem each_reads (I : Inv X pins σ H s) (hs : HS X.K as m H) : ∀ {ds : List D} {us : List Value}, (∀ d ∈ ds, d.nd = true) → PySem.W.EachIs (IsR X as H) us ds → PySem.W.EachIs (fun u d => ∃ bs, Reads s.heap u (D.toPy d) bs) us ds
  | [], _, _, r => by cases r; exact .nil
  | d :: ds, _, hn, r => by
    cases r with
    | cons r t =>
      obtain ⟨v, q, r⟩ := r
      obtain ⟨bs, k, _⟩ := rep_reads I d v _ (tr_rep hs (tr_nd (m := m) (hn d List.mem_cons_self)) r) q
      exact .cons ⟨bs, k⟩ (each_reads I hs (fun x hx => hn x (List.mem_cons_of_mem _ hx)) t)
theorem each_readsA (I : Inv X pins σ H s) (hs : HS X.K as m H) : ∀ {ds : List D} {us : List Value}, (∀ d ∈ ds, d.nd = true) → PySem.W.EachIs (IsR X as H) us ds → ∃ bs, ReadsAll s.heap us (ds.map D.toPy) bs
  | [], _, _, r => by cases r; exact ⟨[], .nil⟩
  | d :: ds, _, hn, r => by
    cases r with
    | cons r t =>
      obtain ⟨v, q, r⟩ := r
      obtain ⟨bs, k, _⟩ := rep_reads I d v _ (tr_rep hs (tr_nd (m := m) (hn d List.mem_cons_self)) r) q
      obtain ⟨cs, k2⟩ := each_readsA I hs (fun x hx => hn x (List.mem_cons_of_mem _ hx)) t
      exact ⟨_, .cons k k2⟩
theorem py_depth {d : D} (h : d.nd = true) : d.toPy.depth = d.dep := (nd_toPy d h).2
theorem all_alike {ys : List D} (h : ∀ x ∈ ys, ∀ y ∈ ys, alikeD x y = true) : PySem.W.AllAlike (ys.map D.toPy) := by
  intro d hd d' hd'
  obtain ⟨x, hx, rfl⟩ := List.mem_map.mp hd
  obtain ⟨y, hy, rfl⟩ := List.mem_map.mp hd'
  exact (alike_toPy x y (h x hx y hy)).1
theorem sortable_of {ys : List D} (h : Sortable ys) : PySem.W.Sortable (ys.map D.toPy) := by
  rcases h.2.2 with h1 | h1
  · refine .inl fun d hd => ?_
    obtain ⟨x, hx, rfl⟩ := List.mem_map.mp hd
    have := h1 x hx
    cases x with
    | tup xs =>
      cases xs with
      | nil => simp [isTup1] at this
      | cons a b => exact ⟨a.toPy, toPys b, by rw [D.toPy, toPys]⟩
    | _ => simp [isTup1] at this
  · refine .inr fun d hd => ?_
    obtain ⟨x, hx, rfl⟩ := List.mem_map.mp hd
    have q := h1 x hx
    have n := (h.1 x hx).1
    cases x with
    | tup xs => simp [noTup] at q
    | non => simp [noTup] at q
    | bl b => rw [D.toPy]; exact ⟨(nofun), (nofun)⟩
    | int b => rw [D.toPy]; exact ⟨(nofun), (nofun)⟩
    | str b => rw [D.toPy]; exact ⟨(nofun), (nofun)⟩
    | lst b => rw [D.toPy]; exact ⟨(nofun), (nofun)⟩
    | _ => simp [D.nd] at n
theorem sort_eq {ys : List D} (h : Sortable ys) : ys.mergeSort (PySem.W.dataLe false D.toPy) = sortD ys := by
  refine PySem.W.sort_congr fun a ha b hb => ?_
  rw [PySem.W.dataLe_eq]
  show (!PySem.W.dataLt b.toPy a.toPy) = leD a b
  rw [lt_toPy b a (h.2.1 b hb a ha)]; rfl
theorem sorted_list (f : Bool) {us : List Value} {v : V} {a : D} {ys : List D} {Q : VK} (I : Inv X pins σ H s) (hu : X.A.units + 64 < cLine) (rv : Vals [v] us) (hs : HS X.K as m H) (r : Rep X.K as H v a) (e : lstV m a = some ys) (sb : Sortable ys) (h : PostV X.K as H (newL f (sortD ys) m) Q) :
    wpAny (model X.prog X.w) X.A (call (.builtin "sorted") us) (EP X pins σ Q) X.xe s := by
  obtain ⟨p, ws, rfl, hp, rk⟩ := lstV_rep hs r e
  rw [Vals.ref1 rv]
  obtain ⟨its, rvl, hl, hz⟩ := I.list hp
  have en := reps_each rk rvl
  have hn : ∀ d ∈ ys, d.nd = true := fun d hd => (sb.1 d hd).1
  have hL : ys.length ≤ sizeLine := by rw [← rk.length]; exact hz
  refine PySem.W.sorted_data (R := IsR X as H) (enc := D.toPy) (bs := ys) hl.isList en (each_reads I hs hn en) (all_alike sb.2.1) (sortable_of sb) hL (fun d hd => ?_) fun out ho eo => ?_
  · rw [py_depth (hn d hd)]; have := (sb.1 d hd).2; omega
  · rw [sort_eq sb] at eo
    obtain ⟨vs', q1, q2⟩ := each_reps eo
    obtain ⟨hlen, k⟩ := newL_post hs q2 h
    obtain ⟨ep, he'⟩ := PyProof.Rows.sortedAll_at s.heap its out.toArray
    exact ⟨.ref _, upd H (s.heap.objs.size + 1) (.lst vs'), I.laid (t' := s.toks) (fun _ _ => PyProof.Rows.sortedAll_old) (Nat.le_succ _) ⟨hlen, out, ep, q1, by simpa using he'⟩, rfl, k _ (I.hok.fresh (Nat.le_succ _))⟩
/-! ### the keys of a dict -/
theorem repk_keys {kvs : List (Key × V)} {ds : List (Key × D)} (h : RepK X.K as H kvs ds) : kvs.map (·.1) = ds.map (·.1) := by
  induction ds generalizing kvs with
  | nil => cases h; rfl
  | cons p ds ih => cases h with | cons h t => simp [ih t]
theorem strs_keys : ∀ {ds : List (Key × D)} {ks : List Str}, strsS (ds.map fun p => keyD p.1) = some ks → ds.map (·.1) = ks.map Sum.inr
  | [], ks, h => by simp [strsS] at h; subst h; rfl
  | (.inl i, d) :: ds, ks, h => by simp [strsS, keyD] at h
  | (.inr x, d) :: ds, ks, h => by
    simp only [List.map_cons, keyD, strsS, Option.map_eq_some_iff] at h
    obtain ⟨l, h, rfl⟩ := h
    simp [strs_keys h]
theorem ints_keys : ∀ {ds : List (Key × D)} {ks : List Int}, intsD (ds.map fun p => keyD p.1) = some ks → ds.map (·.1) = ks.map Sum.inl
  | [], ks, h => by simp [intsD] at h; subst h; rfl
  | (.inr i, d) :: ds, ks, h => by simp [intsD, keyD] at h
  | (.inl x, d) :: ds, ks, h => by
    simp only [List.map_cons, keyD, intsD, Option.map_eq_some_iff] at h
    obtain ⟨l, h, rfl⟩ := h
    simp [ints_keys h]
theorem strsS_of : ∀ {ds : List D} {ks : List Str}, strsS ds = some ks → ds = ks.map D.str
  | [], ks, h => by simp [strsS] at h; subst h; rfl
  | d :: ds, ks, h => by
    cases d <;> simp [strsS] at h
    obtain ⟨l, h, rfl⟩ := h
    simp [strsS_of h]
theorem intsD_of : ∀ {ds : List D} {ks : List Int}, intsD ds = some ks → ds = ks.map D.int
  | [], ks, h => by simp [intsD] at h; subst h; rfl
  | d :: ds, ks, h => by
    cases d <;> simp [intsD] at h
    obtain ⟨l, h, rfl⟩ := h
    simp [intsD_of h]
theorem rep_strs {as : Pl} {H : Hp} : ∀ ks : List Str, Reps X.K as H (ks.map V.str) (ks.map D.str)
  | [] => .nil
  | k :: ks => .cons (.str k) (rep_strs ks)
theorem rep_ints {as : Pl} {H : Hp} : ∀ ks : List Int, Reps X.K as H (ks.map V.int) (ks.map D.int)
  | [] => .nil
  | k :: ks => .cons (.int k) (rep_ints ks)
theorem leD_str (x y : Str) : leD (.str x) (.str y) = !decide (y.cps.toList < x.cps.toList) := by simp [leD, ltD]
theorem leD_intS (x y : Int) : leD (.int x) (.int y) = decide (x ≤ y) := by
  simp only [leD, ltD]
  by_cases h : y < x
  · rw [decide_eq_true h, decide_eq_false (by omega)]; rfl
  · rw [decide_eq_false h, decide_eq_true (by omega)]; rfl
theorem str_total (x y : Str) : leD (.str x) (.str y) = true ∨ leD (.str y) (.str x) = true := by
  rw [leD_str, leD_str]
  by_cases h : y.cps.toList < x.cps.toList
  · right; simp only [Bool.not_eq_true', decide_eq_false_iff_not]; exact fun h2 => absurd (List.lt_trans h h2) (List.lt_irrefl _)
  · left; simpa using h
theorem str_anti (x y : Str) (h1 : leD (.str x) (.str y) = true) (h2 : leD (.str y) (.str x) = true) : x = y := by
  rw [leD_str] at h1 h2
  simp only [Bool.not_eq_true', decide_eq_false_iff_not] at h1 h2
  have e : x.cps.toList = y.cps.toList := List.le_antisymm h1 h2
  have e2 : x.cps = y.cps := by
    rw [← Array.toArray_toList (xs := x.cps), ← Array.toArray_toList (xs := y.cps), e]
  cases x; cases y; cases e2; rfl
theorem str_trans (x y z : Str) (h1 : leD (.str x) (.str y) = true) (h2 : leD (.str y) (.str z) = true) : leD (.str x) (.str z) = true := by
  rw [leD_str] at h1 h2 ⊢
  simp only [Bool.not_eq_true', decide_eq_false_iff_not] at h1 h2 ⊢
  exact List.le_trans h1 h2
/-- the one order of texts -/
theorem strs_unique {ys ks : List Str} (hp : ys.Perm ks) (hs : ys.Pairwise fun x y => leD (.str x) (.str y) = true) : ys.map D.str = sortD (ks.map D.str) := by
  have p1 : (sortD (ks.map D.str)).Perm (ks.map D.str) := List.mergeSort_perm _ _
  have tot : ∀ a b c : D, True := fun _ _ _ => trivial
  refine List.Perm.eq_of_pairwise (le := fun a b => leD a b = true) (fun a b ha hb h1 h2 => ?_) (List.pairwise_map.mpr hs) ?_ ((hp.map _).trans p1.symm)
  · obtain ⟨x, _, rfl⟩ := List.mem_map.mp ha
    obtain ⟨y, _, rfl⟩ := List.mem_map.mp (p1.mem_iff.mp hb)
    rw [str_anti x y h1 h2]
  · have e : sortD (ks.map D.str) = (ks.mergeSort fun x y => leD (.str x) (.str y)).map D.str := (List.map_mergeSort (f := D.str) (s := leD) fun a _ b _ => rfl).symm
    rw [e]
    refine List.pairwise_map.mpr (List.pairwise_mergeSort (le := fun x y => leD (.str x) (.str y)) (fun a b c h1 h2 => str_trans a b c h1 h2) (fun a b => ?_) ks)
    rcases str_total a b with h | h <;> simp [h]
theorem ints_unique {ys ks : List Int} (hp : ys.Perm ks) (hs : ys.Pairwise (· ≤ ·)) : ys.map D.int = sortD (ks.map D.int) := by
  have e : sortD (ks.map D.int) = (ks.mergeSort fun x y => leD (.int x) (.int y)).map D.int := (List.map_mergeSort (f := D.int) (s := leD) fun a _ b _ => rfl).symm
  rw [e]
  congr 1
  refine List.Perm.eq_of_pairwise (le := fun a b => a ≤ b) (fun a b _ _ h1 h2 => Int.le_antisymm h1 h2) hs ?_ (hp.trans (List.mergeSort_perm _ _).symm)
  refine (List.pairwise_mergeSort (le := fun x y : Int => leD (.int x) (.int y)) (fun a b c h1 h2 => ?_) (fun a b => ?_) ks).imp fun {a b} h => by rw [leD_intS] at h; exact of_decide_eq_true h
  · rw [leD_intS] at *
    have h1 := of_decide_eq_true h1
    have h2 := of_decide_eq_true h2
    exact decide_eq_true (by omega)
  · rw [leD_intS, leD_intS]
    by_cases h : a ≤ b <;> simp [h]
    omega
theorem rising_pair : ∀ (ys : List Str) (p : Str), risingS p ys = true → (p :: ys).Pairwise fun x y => leD (.str x) (.str y) = true
  | [], p, _ => by simp
  | x :: r, p, h => by
    rw [risingS, Bool.and_eq_true] at h
    have ih := rising_pair r x h.2
    have hx : leD (.str p) (.str x) = true := by
      rw [leD_str]
      have := h.1
      rw [PyProof.Rows.ltCps_eq] at this
      exact this
    refine List.pairwise_cons.mpr ⟨fun y hy => ?_, ih⟩
    rcases List.mem_cons.mp hy with rfl | hy
    · exact hx
    · exact str_trans p x y hx (List.rel_of_pairwise_cons ih hy)
theorem sortedS_pair {ys : List Str} (h : sortedS ys = true) : ys.Pairwise fun x y => leD (.str x) (.str y) = true := by
  cases ys with
  | nil => exact .nil
  | cons x r => exact rising_pair r x h
open Classical in
theorem cr_sortedD (hc : X.calm = true) (hu : X.A.units + 64 < cLine) (f : Bool) : CallR X (.builtin "sorted") (RC1 X.K (sortedD f)) := by
  intro pins s σ H vs us Q I rv ⟨as, m, v, a, hs, ev, r, h⟩
  subst ev
  unfold sortedD at h
  split at h
  · rename_i kvs e
    obtain ⟨p, kv, rfl, hp, rk⟩ := dctV_rep hs r e
    have hl : kv.length = kvs.length := repk_len rk
    split at h
    · rename_i ks ek
      obtain ⟨hl2, h⟩ := h.needs
      have k1 := strs_keys ek
      refine call_sortedD hc pins s σ H _ us Q I rv ⟨p, kv, ks, rfl, hp, (repk_keys rk).trans k1, hl2, fun ys q pm so nq => ?_⟩
      have e3 := strs_unique pm (sortedS_pair so)
      rw [← e3] at h
      exact (newL_post hs (rep_strs ys) h).2 q nq
    · split at h
      · rename_i ks ek
        obtain ⟨hl2, h⟩ := h.needs
        have k1 := ints_keys ek
        refine call_sortedDI hc pins s σ H _ us Q I rv ⟨p, kv, ks, rfl, hp, (repk_keys rk).trans k1, hl2, fun ys q pm so nq => ?_⟩
        have e3 := ints_unique pm so
        rw [← e3] at h
        exact (newL_post hs (rep_ints ys) h).2 q nq
      · exact h.elim
  · split at h
    · rename_i ys e
      obtain ⟨sb, h⟩ := h.needs
      exact sorted_list f I hu rv hs r e sb h
    · exact h.elim
/-! ### min, max -/
mutual
theorem toPy_inj : ∀ a b : D, a.nd = true → b.nd = true → a.toPy = b.toPy → a = b
  | .non, b, _, hb, e => by cases b <;> first | rfl | (simp [D.nd] at hb; done) | (simp [D.toPy] at e; done)
  | .bl x, b, _, hb, e => by cases b <;> first | (simp [D.nd] at hb; done) | (simp [D.toPy] at e; done) | (simp [D.toPy] at e; subst e; rfl)
  | .int x, b, _, hb, e => by cases b <;> first | (simp [D.nd] at hb; done) | (simp [D.toPy] at e; done) | (simp [D.toPy] at e; subst e; rfl)
  | .str x, b, _, hb, e => by cases b <;> first | (simp [D.nd] at hb; done) | (simp [D.toPy] at e; done) | (simp [D.toPy] at e; subst e; rfl)
  | .tup xs, b, ha, hb, e => by
    cases b with
    | tup ys => rw [D.nd] at ha hb; rw [D.toPy, D.toPy] at e; rw [toPys_inj xs ys ha hb (by injection e)]
    | scr _ => simp [D.nd] at hb
    | loc _ => simp [D.nd] at hb
    | dct _ => simp [D.nd] at hb
    | _ => simp [D.toPy] at e
  | .lst xs, b, ha, hb, e => by
    cases b with
    | lst ys => rw [D.nd] at ha hb; rw [D.toPy, D.toPy] at e; rw [toPys_inj xs ys ha hb (by injection e)]
    | scr _ => simp [D.nd] at hb
    | loc _ => simp [D.nd] at hb
    | dct _ => simp [D.nd] at hb
    | _ => simp [D.toPy] at e
  | .dct _, _, ha, _, _ => by simp [D.nd] at ha
  | .loc _, _, ha, _, _ => by simp [D.nd] at ha
  | .scr _, _, ha, _, _ => by simp [D.nd] at ha
theorem toPys_inj : ∀ xs ys : List D, nds xs = true → nds ys = true → toPys xs = toPys ys → xs = ys
  | [], [], _, _, _ => rfl
  | [], _ :: _, _, _, e => by simp [toPys] at e
  | _ :: _, [], _, _, e => by simp [toPys] at e
  | x :: xs, y :: ys, ha, hb, e => by
    rw [nds, Bool.and_eq_true] at ha hb
    rw [toPys, toPys] at e
    injection e with e1 e2
    rw [toPy_inj x y ha.1 hb.1 e1, toPys_inj xs ys ha.2 hb.2 e2]
end
theorem fold_mem {k : D → D → Bool} : ∀ (ys : List D) (x : D), ys.foldl (fun a y => if k y a = true then y else a) x ∈ x :: ys
  | [], x => List.mem_cons_self
  | y :: ys, x => by
    rw [List.foldl_cons]
    have := fold_mem (k := k) ys (if k y x = true then y else x)
    rcases List.mem_cons.mp this with h | h
    · rw [h]; split <;> simp
    · exact List.mem_cons_of_mem _ (List.mem_cons_of_mem _ h)
theorem fold_py {k : D → D → Bool} {k' : PyData → PyData → Bool} : ∀ (ys : List D) (x : D), (∀ a ∈ x :: ys, ∀ b ∈ x :: ys, k' b.toPy a.toPy = k b a) →
    (ys.map D.toPy).foldl (fun a y => if k' y a = true then y else a) x.toPy = (ys.foldl (fun a y => if k y a = true then y else a) x).toPy
  | [], x, _ => rfl
  | y :: ys, x, h => by
    rw [List.map_cons, List.foldl_cons, List.foldl_cons, h x List.mem_cons_self y (List.mem_cons_of_mem _ List.mem_cons_self)]
    have e : (if k y x = true then y.toPy else x.toPy) = (if k y x = true then y else x).toPy := by split <;> rfl
    rw [e]
    refine fold_py ys _ fun a ha b hb => h a ?_ b ?_
    · rcases List.mem_cons.mp ha with rfl | ha
      · split <;> simp
      · exact List.mem_cons_of_mem _ (List.mem_cons_of_mem _ ha)
    · rcases List.mem_cons.mp hb with rfl | hb
      · split <;> simp
      · exact List.mem_cons_of_mem _ (List.mem_cons_of_mem _ hb)
theorem depths_le {n : Nat} : ∀ {ys : List D}, (∀ y ∈ ys, y.nd = true ∧ y.dep ≤ n) → PyData.depthAll (ys.map D.toPy) ≤ n
  | [], _ => by simp [PyData.depthAll]
  | y :: ys, h => by
    rw [List.map_cons, PyData.depthAll, py_depth (h y List.mem_cons_self).1]
    have := depths_le fun z hz => h z (List.mem_cons_of_mem _ hz)
    have := (h y List.mem_cons_self).2
    omega
theorem alike_all {ys : List D} (h : Sortable ys) : PySem.W.AlikeAll (ys.map D.toPy) := by
  refine ⟨all_alike h.2.1, fun d hd => ?_⟩
  rcases sortable_of h with h1 | h1
  · obtain ⟨x, r, e⟩ := h1 d hd; rw [e]; intro z; cases z
  · exact (h1 d hd).1
theorem vals_at : ∀ {ws : List V} {its : List Value}, Vals ws its → ∀ {i : Nat} {u : Value}, its[i]? = some u → ∃ w, ws[i]? = some w ∧ RelV w u
  | _, _, .nil, i, u, h => by simp at h
  | _, _, .cons a b, 0, u, h => by simp at h; subst h; exact ⟨_, rfl, a⟩
  | _, _, .cons a b, i + 1, u, h => by simpa using vals_at b (by simpa using h)
/-- what the walk of min or max asks -/
theorem best_of {nm : String} {k : D → D → Bool} {best : PyData → List PyData → PyData} {x : D} {ys : List D} {us : List Value} {v : V} {a : D} {Q : VK} (I : Inv X pins σ H s) (hu : X.A.units + 64 < cLine) (rv : Vals [v] us) (hs : HS X.K as m H) (r : Rep X.K as H v a) (e : seqV m a = some (x :: ys)) (sb : Sortable (x :: ys))
    (hb : best x.toPy (ys.map D.toPy) = (ys.foldl (fun a y => if k y a = true then y else a) x).toPy)
    (hL : ∀ {l : Addr} {its : Array Value} {bs : List Addr} {P : Value → Shared → Prop}, s.heap.IsList l its → ReadsAll s.heap its.toList ((x :: ys).map D.toPy) bs → PySem.W.AlikeAll ((x :: ys).map D.toPy) → X.A.units + 1 + PyData.depthAll ((x :: ys).map D.toPy) < cLine →
      (∀ (i : Nat) v h' tk bs, its[i]? = some v → Reads h' v (best x.toPy (ys.map D.toPy)) bs → (∀ b o, s.heap.get? b = some o → h'.get? b = some o) → P v { s with heap := h', toks := tk }) → wpAny (model X.prog X.w) X.A (call (.builtin nm) [.ref l]) P X.xe s)
    (hT : ∀ {l : Addr} {its : Array Value} {bs : List Addr} {P : Value → Shared → Prop}, s.heap.IsTuple l its → ReadsAll s.heap its.toList ((x :: ys).map D.toPy) bs → PySem.W.AlikeAll ((x :: ys).map D.toPy) → X.A.units + 1 + PyData.depthAll ((x :: ys).map D.toPy) < cLine →
      (∀ (i : Nat) v h' tk bs, its[i]? = some v → Reads h' v (best x.toPy (ys.map D.toPy)) bs → (∀ b o, s.heap.get? b = some o → h'.get? b = some o) → P v { s with heap := h', toks := tk }) → wpAny (model X.prog X.w) X.A (call (.builtin nm) [.ref l]) P X.xe s)
    (h : PostV X.K as H (.ok (ys.foldl (fun a y => if k y a = true then y else a) x, m)) Q) : wpAny (model X.prog X.w) X.A (call (.builtin nm) us) (EP X pins σ Q) X.xe s := by
  obtain ⟨p, ws, rfl, hp, rk⟩ := seqV_rep hs r e
  rw [Vals.ref1 rv]
  have hn : ∀ d ∈ x :: ys, d.nd = true := fun d hd => (sb.1 d hd).1
  have hdep := depths_le (n := 30) sb.1
  have fin : ∀ {its : List Value}, Vals ws its → ∀ (i : Nat) (u : Value) (h' : Heap) (tk : Nat) (bs : List Addr), its.toArray[i]? = some u → Reads h' u (best x.toPy (ys.map D.toPy)) bs → (∀ b o, s.heap.get? b = some o → h'.get? b = some o) → EP X pins σ Q u { s with heap := h', toks := tk } := by
    intro its rvl i u h' tk bs hi hr hk
    have en := reps_each rk rvl
    have hi' : its[i]? = some u := by simpa using hi
    obtain ⟨w, hw, rw1⟩ : ∃ w, ws[i]? = some w ∧ RelV w u := by
      exact vals_at rvl hi'
    obtain ⟨d, hd, rd⟩ := rk.get' hw
    have dm : d ∈ x :: ys := List.mem_of_getElem? hd
    obtain ⟨cs, r1, _⟩ := rep_reads I d w u (tr_rep hs (tr_nd (m := m) (hn d dm)) rd) rw1
    have e1 := (Reads.unique (Reads.keeps hk r1) _ _ hr).1
    rw [hb] at e1
    have e2 := toPy_inj _ _ (hn d dm) (hn _ (fold_mem ys x)) e1
    rw [← e2] at h
    exact ⟨w, H, I.kept hk, rw1, h.here hs rd⟩
  rcases hp with hp | hp
  · obtain ⟨its, rvl, hl, hz⟩ := I.list hp
    obtain ⟨bs, hr⟩ := each_readsA I hs hn (reps_each rk rvl)
    exact hL hl.isList (by simpa using hr) (alike_all sb) (by omega) (fin rvl)
  · obtain ⟨its, rvl, hl, hz⟩ := I.tuple hp
    obtain ⟨bs, hr⟩ := each_readsA I hs hn (reps_each rk rvl)
    exact hT hl (by simpa using hr) (alike_all sb) (by omega) (fin rvl)
open Classical in
theorem cr_minA (hc : X.calm = true) (hu : X.A.units + 64 < cLine) : CallR X (.builtin "min") (RC1 X.K minA) := by
  intro pins s σ H vs us Q I rv ⟨as, m, v, a, hs, ev, r, h⟩
  unfold minA at h
  by_cases hi : isInts a m = true
  · rw [if_pos hi] at h
    exact cr_minD hc pins s σ H vs us Q I rv ⟨as, m, v, a, hs, ev, r, h⟩
  · rw [if_neg hi] at h
    subst ev
    unfold bestD at h
    split at h
    · rename_i x ys e
      obtain ⟨sb, h⟩ := h.needs
      refine best_of (best := PySem.W.minD) (k := ltD) I hu rv hs r e sb ?_ (fun hl hr ha hd hk => PySem.W.min_list_data (I.ok.hd hc) hl hr ha hd hk) (fun hl hr ha hd hk => PySem.W.min_tuple_data (I.ok.hd hc) hl hr ha hd hk) h
      exact fold_py (k := ltD) (k' := PySem.W.dataLt) ys x fun a ha b hb => lt_toPy b a (sb.2.1 b hb a ha)
    · exact h.elim
open Classical in
theorem cr_maxA (hc : X.calm = true) (hu : X.A.units + 64 < cLine) : CallR X (.builtin "max") (RC1 X.K maxA) := by
  intro pins s σ H vs us Q I rv ⟨as, m, v, a, hs, ev, r, h⟩
  unfold maxA at h
  by_cases hi : isInts a m = true
  · rw [if_pos hi] at h
    exact cr_maxD hc pins s σ H vs us Q I rv ⟨as, m, v, a, hs, ev, r, h⟩
  · rw [if_neg hi] at h
    subst ev
    unfold bestD at h
    split at h
    · rename_i x ys e
      obtain ⟨sb, h⟩ := h.needs
      refine best_of (best := PySem.W.maxD) (k := fun y a => ltD a y) I hu rv hs r e sb ?_ (fun hl hr ha hd hk => PySem.W.max_list_data (I.ok.hd hc) hl hr ha hd hk) (fun hl hr ha hd hk => PySem.W.max_tuple_data (I.ok.hd hc) hl hr ha hd hk) h
      exact fold_py (k := fun y a => ltD a y) (k' := fun y a => PySem.W.dataLt a y) ys x fun a ha b hb => lt_toPy a b (sb.2.1 a ha b hb)
    · exact h.elim
end
end DV

end
section
set_option Elab.async false
set_option linter.all false
set_option maxRecDepth 100000
set_option autoImplicit false
/-! Sets of texts, any number of them: how many there are. -/
namespace DV
open PySem PySem.Spec PyProof.Rows L2
section
variable {prog : Program} {w : World} {A : Around} {I : Addr} {fp wr : List Addr} {G : Array GenState → Array GenState → Prop} {n : Nat} {P : Nat → Value → Prop} {St : Nat → Shared → Prop} {R : Result → Shared → Prop}
/-- the set holds what came so far -/
abbrev Got (prog : Program) (w : World) (S : Addr) (xs : List Str) (s : Shared) : Prop := s.heap.SetOf (PySem.strKind prog w) S (fun y => decide (y ∈ xs)) (onceS xs).length
theorem Got.kept {S : Addr} {xs : List Str} {s s' : Shared} (h : Got prog w S xs s) (k : ∀ o, s.heap.get? S = some o → s'.heap.get? S = some o) : Got prog w S xs s' := by
  obtain ⟨o, es, ep, t, ho, more⟩ := h
  exact ⟨o, es, ep, t, k o ho, more⟩
theorem pour_strs (W : WalksS prog w A.in1 I fp wr G n P St) {S : Addr} (off : S ∉ fp) {xs : List Str} (hn : xs.length = n) (room : n < 4000) (hP : ∀ i v, P i v → ∃ x t, xs[i]? = some x ∧ v = .str x t) :
    ∀ (left i : Nat) (s : Shared), i + left = n → St i s → Got prog w S (xs.take i) s → (∀ s', Moved (S :: wr) G s s' → Got prog w S xs s' → R (.ok (.ret .none)) s') → codeAny (model prog w) A (.builtin "set.update.loop" ⟨[.ref S, .ref I], []⟩) R s := by
  have offw : S ∉ wr := fun h => off (W.sub _ h)
  have wide : ∀ {s s' : Shared}, Moved wr G s s' → Moved (S :: wr) G s s' := fun h => h.mono fun b hb => List.mem_cons_of_mem _ hb
  intro left
  induction left with
  | zero =>
    intro i s hi st got fin
    have e : xs.take i = xs := List.take_of_length_le (by omega)
    rw [show i = n by omega] at st
    rw [e] at got
    refine codeAny_builtin PyProof.Rows.F.entry_set_update_loop ?_
    rw [Around.under_plainId PyProof.Rows.F.plain_set_update_loop _]
    exact wpAny_bind (W.done s _ _ st fun s' mv => wpAny_pure (fin s' (wide mv) (got.kept fun o => mv.heap S o offw)))
  | succ left ih =>
    intro i s hi st got fin
    refine codeAny_builtin PyProof.Rows.F.entry_set_update_loop ?_
    rw [Around.under_plainId PyProof.Rows.F.plain_set_update_loop _]
    refine wpAny_bind (W.item i s _ _ (by omega) st fun v s1 hv st1 mv => ?_)
    obtain ⟨x, t, hx, rfl⟩ := hP i v hv
    have got1 : Got prog w S (xs.take i) s1 := got.kept fun o => mv.heap S o offw
    have hlen : (onceS (xs.take i)).length ≤ i := Nat.le_trans (onceS_le _) (by rw [List.length_take]; omega)
    refine wpAny_bind (wpAny_holding ?_)
    unfold setAdd
    refine wpAny_holding (wpAny_bind ((PySem.strKind prog w).pyHash (k := x) (strKind_is _ _ _ _) ?_))
    refine wpAny_setAddHashed_of (knd := PySem.strKind prog w) (s := { s1 with toks := s1.toks + 1 }) (strKind_is _ _ _ _) rfl got1 (by unfold scanBound; omega) fun h2 same got2 => ?_
    have etk : xs.take (i + 1) = xs.take i ++ [x] := by rw [List.take_add_one, hx]; rfl
    have got3 : Got prog w S (xs.take (i + 1)) { s1 with heap := h2, toks := s1.toks + 1 } := by
      refine SetOf_congr got2 (fun y => ?_) ?_
      · rw [etk]; simp [List.mem_append]
      · rw [etk, onceS_snoc]
        by_cases hm : x ∈ xs.take i
        · rw [if_pos (by simpa using hm), if_pos ((onceS_mem _ _).mpr hm)]
        · rw [if_neg (by simpa using hm), if_neg (fun h => hm ((onceS_mem _ _).mp h)), List.length_append]; rfl
    refine wpAny_pure ⟨plainId_quiet PyProof.Rows.F.plain_set_update_loop _, ih (i + 1) _ (by omega) (W.frame _ s1 _ _ st1 (Nat.le_succ _) fun b hb o e => ?_) got3 fun s' mv2 got4 => ?_⟩
    · rw [same.2 b fun e2 : b = S => off (e2 ▸ hb)]; exact e
    · refine fin s' (Moved.trans W.gtrans ((wide mv).then_heap (Nat.le_succ _) fun b o hb e => ?_) mv2) got4
      rw [same.2 b fun e2 : b = S => hb (by rw [e2]; exact List.mem_cons_self)]; exact e
end
end DV

end
section
set_option Elab.async false
set_option linter.all false
set_option maxRecDepth 100000
set_option autoImplicit false
/-! set(xs) of a list or tuple of texts. -/
namespace DV
open PySem PySem.Spec PyProof.Rows L2
section
variable {prog : Program} {w : World} {A : Around} {E : Value → Shared → Prop} {s : Shared}
/-- an empty set, new in a heap -/
abbrev newSet (led : Bool) : Obj := { cls := .type "set", dict := none, data := .set #[] 0 (.fresh 0 0 led) }
abbrev withSet (s : Shared) (led : Bool) : Shared := { s with heap := s.heap.push (newSet led) }
set_option maxHeartbeats 3200000 in
/-- a set made: what its init does of the new, empty one decides -/
theorem set_madeS {a : Value} {Q : Value → Shared → Prop}
    (body : ∀ led, wpAny (model prog w) A.in1.in1 (Builtin.«set.__init__» ⟨[.ref s.heap.objs.size, a], []⟩)
      (fun fin s' => match fin with | .done f => wants (fun r s₂ => r = .none ∧ Q (.ref s.heap.objs.size) s₂) E (.ok f) s' | .again c' => c'.quiet = true ∧ codeAny (model prog w) A.in1 c' (wants (fun r s₂ => r = .none ∧ Q (.ref s.heap.objs.size) s₂) E) s')
      (fun e s' => wants (fun r s₂ => r = .none ∧ Q (.ref s.heap.objs.size) s₂) E (.error e) s') (withSet s led)) :
    wpAny (model prog w) A (call (.type "set") [a]) Q E s := by
  have ft := PySem.F.called_set
  have hct := PySem.F.typeCall_set_1 a
  obtain ⟨c, tl, hmro⟩ := ft.mro
  have hmade := ft.made
  have hsub := ft.sub
  have h1 := ft.notType
  have h2 := ft.canCreate
  refine wpAny_call (codeAny_of_tree ?_)
  show wpAny _ _ (callAny (.type "set") _) _ _ _
  refine wpAny_pure ⟨Code.quiet_builtin _ (by decide +kernel), codeAny_builtin PySem.F.entry_type_call ?_⟩
  rw [Around.under_plain (weight_type_call_type "set" [a] []) rfl]
  repeat (any_goals (first | assumption | wp_step))
  refine codeAny_mono (code_set_new_1 a (E := E) (Q₁ := fun obj s₁ => ∃ led, obj = .ref s.heap.objs.size ∧ s₁ = withSet s led) fun led => ⟨led, rfl, rfl⟩) fun r s₁ hr => ?_
  cases r with
  | error e => exact hr
  | ok fl =>
    cases fl with
    | ret obj =>
      obtain ⟨led, rfl, rfl⟩ := hr
      have hT : Shared.TypeIs (withSet s led) (.ref s.heap.objs.size) "set" := ⟨_, Heap.get?_push_size _ rfl, rfl⟩
      have hli := ft.init.lookup
      have hbi := ft.init.bind (.ref s.heap.objs.size)
      repeat (any_goals (first | assumption | wp_step))
      refine codeAny_mono (codeAny_call_builtin ft.init.plain PySem.F.entry_set_init (check_set_init_1 hT (body led))) fun r₂ s₂ hr₂ => ?_
      cases r₂ with
      | error e => exact hr₂
      | ok fl₂ =>
        cases fl₂ with
        | ret r =>
          obtain ⟨rfl, hq⟩ := hr₂
          repeat (any_goals (first | assumption | wp_step))
        | _ => exact hr₂.elim
    | _ => exact hr.elim
end
end DV

end
section
set_option Elab.async false
set_option linter.all false
set_option maxRecDepth 100000
set_option autoImplicit false
namespace DV
open PySem PySem.Spec PyProof.Rows L2
section
variable {prog : Program} {w : World} {A : Around} {E : Value → Shared → Prop} {s : Shared}
theorem strsAt : ∀ {us : List Value} {xs : List Str}, StrsAre us xs → ∀ (i : Nat) (v : Value), us[i]? = some v → ∃ x t, xs[i]? = some x ∧ v = .str x t
  | _, _, .nil, i, v, h => by simp at h
  | _, _, .cons n t hr, 0, v, h => by simp at h; exact ⟨n, t, rfl, h.symm⟩
  | _, _, .cons n t hr, i + 1, v, h => by
    simp only [List.getElem?_cons_succ] at h ⊢
    exact strsAt hr i v h
set_option maxHeartbeats 3200000 in
theorem set_strsL {l : Addr} {items : Array Value} {xs : List Str} {Q : Value → Shared → Prop} (hh : A.handled = none) (hl : s.heap.IsList l items) (hi : StrsAre items.toList xs) (room : xs.length < 4000)
    (h : ∀ (h' : Heap) (tk : Nat), h'.SetOf (PySem.strKind prog w) s.heap.objs.size (fun y => decide (y ∈ xs)) (onceS xs).length → (∀ b o, b < s.heap.objs.size → s.heap.get? b = some o → h'.get? b = some o) → Q (.ref s.heap.objs.size) { s with heap := h', toks := tk }) :
    wpAny (model prog w) A (call (.type "set") [.ref l]) Q E s := by
  have hlen : xs.length = items.size := by rw [← StrsAre.len_eq hi, Array.length_toList]
  refine set_madeS fun led => ?_
  have hl0 : l < s.heap.objs.size := by obtain ⟨ol, hol, _⟩ := hl; exact Heap.lt_size hol
  have hl1 : (s.heap.push (newSet led)).IsList l items := hl.push _
  have hS : (s.heap.push (newSet led)).get? s.heap.objs.size = some (newSet led) := Heap.get?_push_size _ rfl
  have hT : Shared.TypeIs (withSet s led) (.ref s.heap.objs.size) "set" := ⟨_, hS, rfl⟩
  have hTl : Shared.TypeIs (withSet s led) (.ref l) "list" := hl1.typeIs
  have k1 := PySem.F.sub_list_set
  have k2 := PySem.F.sub_list_frozenset
  have k3 : (Value.type "list" == Value.type "dict") = false := by decide
  obtain ⟨ol, hol, hcl, nl, hdl⟩ := id hl1
  unfold Builtin.«set.__init__» noKeywords Builtin.Frozenset.updateFrom
  generalize hPI : pyIter = PI
  wp_walk
  subst hPI
  refine wpAny_pyIter_list hl1 ?_
  refine wpAny_bind (wpAny_runValue ?_)
  have hh3 : A.in1.in1.in1.handled = none := by simp [hh]
  have hz : (s.heap.push (newSet led)).objs.size = s.heap.objs.size + 1 := by rw [Heap.size_push]
  have hne : l ≠ (s.heap.push (newSet led)).objs.size := by rw [hz]; exact Nat.ne_of_lt (Nat.lt_succ_of_lt hl0)
  have off : s.heap.objs.size ∉ [(s.heap.push (newSet led)).objs.size, l] := by
    simp only [List.mem_cons, List.not_mem_nil, or_false, not_or]
    exact ⟨by rw [hz]; exact Nat.ne_of_lt (Nat.lt_succ_self _), Nat.ne_of_gt hl0⟩
  refine pour_strs ((Walks.list hh3 _ l hne items).toS) off hlen (by omega) (fun i v hv => strsAt hi i v (by rw [Array.getElem?_toList]; exact hv)) items.size 0 _ (by omega) ⟨⟨_, Heap.get?_push_size _ rfl, rfl, rfl⟩, hl1.push _⟩ ?_ ?_
  · have hget : ((s.heap.push (newSet led)).push { cls := .type "list_iterator", data := .fields #[.ref l, .int 0 0] }).get? s.heap.objs.size = some (newSet led) := Heap.get?_push_of_some _ hS
    exact SetOf_congr ((setObjOf_fresh (knd := PySem.strKind prog w) led).setOf hget (by unfold scanBound; omega)) (fun y => by simp) rfl
  · intro s' mv got
    obtain ⟨h', g', d', tk', os'⟩ := s'
    have eg : g' = s.gens := mv.gens
    have ed : d' = s.drawn := mv.drawn
    have eo : os' = s.os := mv.os
    subst eg; subst ed; subst eo
    refine wpAny_pure ?_
    refine wpAny_pure ⟨rfl, h h' tk' got fun b o hb e => ?_⟩
    refine mv.heap b o ?_ (Heap.get?_push_of_some _ (Heap.get?_push_of_some _ e))
    simp only [List.mem_cons, List.not_mem_nil, or_false, not_or]
    exact ⟨Nat.ne_of_lt hb, by rw [hz]; exact Nat.ne_of_lt (Nat.lt_succ_of_lt hb)⟩
set_option maxHeartbeats 3200000 in
theorem set_strsT {l : Addr} {items : Array Value} {xs : List Str} {Q : Value → Shared → Prop} (hh : A.handled = none) (hl : s.heap.IsTuple l items) (hi : StrsAre items.toList xs) (room : xs.length < 4000)
    (h : ∀ (h' : Heap) (tk : Nat), h'.SetOf (PySem.strKind prog w) s.heap.objs.size (fun y => decide (y ∈ xs)) (onceS xs).length → (∀ b o, b < s.heap.objs.size → s.heap.get? b = some o → h'.get? b = some o) → Q (.ref s.heap.objs.size) { s with heap := h', toks := tk }) :
    wpAny (model prog w) A (call (.type "set") [.ref l]) Q E s := by
  have hlen : xs.length = items.size := by rw [← StrsAre.len_eq hi, Array.length_toList]
  refine set_madeS fun led => ?_
  have hl0 : l < s.heap.objs.size := by obtain ⟨ol, hol, _⟩ := hl; exact Heap.lt_size hol
  have hl1 : (s.heap.push (newSet led)).IsTuple l items := hl.push _
  have hS : (s.heap.push (newSet led)).get? s.heap.objs.size = some (newSet led) := Heap.get?_push_size _ rfl
  have hT : Shared.TypeIs (withSet s led) (.ref s.heap.objs.size) "set" := ⟨_, hS, rfl⟩
  have hTl : Shared.TypeIs (withSet s led) (.ref l) "tuple" := hl1.typeIs
  have k1 := PySem.F.sub_tuple_set
  have k2 := PySem.F.sub_tuple_frozenset
  have k3 : (Value.type "tuple" == Value.type "dict") = false := by decide
  obtain ⟨ol, hol, hcl, nl, hdl⟩ := id hl1
  unfold Builtin.«set.__init__» noKeywords Builtin.Frozenset.updateFrom
  generalize hPI : pyIter = PI
  wp_walk
  subst hPI
  refine wpAny_pyIter_tuple hl1 ?_
  refine wpAny_bind (wpAny_runValue ?_)
  have hh3 : A.in1.in1.in1.handled = none := by simp [hh]
  have hz : (s.heap.push (newSet led)).objs.size = s.heap.objs.size + 1 := by rw [Heap.size_push]
  have hne : l ≠ (s.heap.push (newSet led)).objs.size := by rw [hz]; exact Nat.ne_of_lt (Nat.lt_succ_of_lt hl0)
  have off : s.heap.objs.size ∉ [(s.heap.push (newSet led)).objs.size, l] := by
    simp only [List.mem_cons, List.not_mem_nil, or_false, not_or]
    exact ⟨by rw [hz]; exact Nat.ne_of_lt (Nat.lt_succ_self _), Nat.ne_of_gt hl0⟩
  refine pour_strs ((Walks.tuple hh3 _ l hne items).toS) off hlen (by omega) (fun i v hv => strsAt hi i v (by rw [Array.getElem?_toList]; exact hv)) items.size 0 _ (by omega) ⟨⟨_, Heap.get?_push_size _ rfl, rfl, rfl⟩, hl1.push _⟩ ?_ ?_
  · have hget : ((s.heap.push (newSet led)).push { cls := .type "tuple_iterator", data := .fields #[.ref l, .int 0 0] }).get? s.heap.objs.size = some (newSet led) := Heap.get?_push_of_some _ hS
    exact SetOf_congr ((setObjOf_fresh (knd := PySem.strKind prog w) led).setOf hget (by unfold scanBound; omega)) (fun y => by simp) rfl
  · intro s' mv got
    obtain ⟨h', g', d', tk', os'⟩ := s'
    have eg : g' = s.gens := mv.gens
    have ed : d' = s.drawn := mv.drawn
    have eo : os' = s.os := mv.os
    subst eg; subst ed; subst eo
    refine wpAny_pure ?_
    refine wpAny_pure ⟨rfl, h h' tk' got fun b o hb e => ?_⟩
    refine mv.heap b o ?_ (Heap.get?_push_of_some _ (Heap.get?_push_of_some _ e))
    simp only [List.mem_cons, List.not_mem_nil, or_false, not_or]
    exact ⟨Nat.ne_of_lt hb, by rw [hz]; exact Nat.ne_of_lt (Nat.lt_succ_of_lt hb)⟩
end
end DV

end
section
set_option Elab.async false
set_option linter.all false
set_option maxRecDepth 100000
set_option autoImplicit false
/-! Built-ins: all of them. -/
namespace DV
open PySem PySem.Spec PyProof.Rows L2
section
variable {X : Cx} {pins : List (Addr × Obj)} {σ : St} {H : Hp} {s : Shared} {as : Pl} {m : Store}
theorem repk_any {as : Pl} {H : Hp} {kvs : List (Key × V)} {ds : List (Key × D)} (h : RepK X.K as H kvs ds) (k : Key) : (kvs.any fun kv => decide (kv.1 = k)) = ds.any fun p => decide (p.1 = k) := by
  induction ds generalizing kvs with
  | nil => cases h; rfl
  | cons q ds ih => cases h with | cons r t => simp only [List.any_cons, ih t]
theorem repk_map {as : Pl} {H : Hp} {kvs : List (Key × V)} {ds : List (Key × D)} (h : RepK X.K as H kvs ds) (k : Key) {v : V} {d : D} (r : Rep X.K as H v d) : RepK X.K as H (kvs.map fun kv => if kv.1 = k then (kv.1, v) else kv) (ds.map fun p => if p.1 = k then (p.1, d) else p) := by
  induction ds generalizing kvs with
  | nil => cases h; exact .nil
  | cons q ds ih =>
    cases h with
    | @cons j v0 d0 vs0 ds0 r0 t =>
      simp only [List.map_cons]
      by_cases e : j = k
      · rw [if_pos e, if_pos e]; exact .cons r (ih t)
      · rw [if_neg e, if_neg e]; exact .cons r0 (ih t)
theorem repk_snoc {as : Pl} {H : Hp} {kvs : List (Key × V)} {ds : List (Key × D)} (h : RepK X.K as H kvs ds) (k : Key) {v : V} {d : D} (r : Rep X.K as H v d) : RepK X.K as H (kvs ++ [(k, v)]) (ds ++ [(k, d)]) := by
  induction ds generalizing kvs with
  | nil => cases h; exact .cons r .nil
  | cons q ds ih => cases h with | cons r0 t => exact .cons r0 (ih t)
/-- an entry written -/
theorem repk_put {as : Pl} {H : Hp} : ∀ {kvs : List (Key × V)} {ds : List (Key × D)}, RepK X.K as H kvs ds → ∀ (k : Key) {v : V} {d : D}, Rep X.K as H v d → RepK X.K as H (putK kvs k v) (dput ds k d) := by
  intro kvs ds h k v d r
  unfold putK dput
  rw [repk_any h k]
  by_cases e : (ds.any fun p => decide (p.1 = k)) = true
  · rw [if_pos e, if_pos e]; exact repk_map h k r
  · rw [if_neg e, if_neg e]; exact repk_snoc h k r
theorem repk_merge {as : Pl} {H : Hp} : ∀ {more : List (Key × V)} {es : List (Key × D)}, RepK X.K as H more es → ∀ {kvs : List (Key × V)} {ds : List (Key × D)}, RepK X.K as H kvs ds → RepK X.K as H (mergeK kvs more) (es.foldl (fun a p => dput a p.1 p.2) ds)
  | [], [], _, kvs, ds, h => h
  | _ :: _, _ :: _, .cons r t, kvs, ds, h => repk_merge t (repk_put h _ r)

theorem pairs_rep {as : Pl} {H : Hp} : ∀ {ys : List D} {ps : List (Key × D)} {ws : List V}, pairsK ys = some ps → Reps X.K as H ws ys → ∃ (bs : List Addr) (kvs : List (Key × V)), ws = bs.map V.ref ∧ RepK X.K as H kvs ps ∧ Paired (fun p kv => SqT X.K H p [kV kv.1, kv.2]) bs kvs
  | [], ps, ws, e, r => by cases r; simp [pairsK] at e; subst e; exact ⟨[], [], rfl, .nil, .nil⟩
  | y :: ys, ps, ws, e, r => by
    cases r with
    | @cons v _ vs _ r t =>
      simp only [pairsK, Option.bind_eq_some_iff, Option.map_eq_some_iff] at e
      obtain ⟨p, e1, l, e2, rfl⟩ := e
      obtain ⟨bs, kvs, rfl, h1, h2⟩ := pairs_rep e2 t
      unfold pairK at e1
      split at e1
      · rename_i k w
        simp only [Option.map_eq_some_iff] at e1
        obtain ⟨key, ek, rfl⟩ := e1
        obtain ⟨a, us, rfl, hT, ru⟩ := tup_rep r
        obtain ⟨u1, u2, rfl, r1, r2⟩ := ru.two'
        have := key_rep r1 ek
        subst this
        exact ⟨a :: bs, (key, u2) :: kvs, rfl, .cons r2 h1, .cons hT h2⟩
      · cases e1
theorem cr_dictD (hc : X.calm = true) (f : Bool) : CallR X (.type "dict") (RC1 X.K (dictL f)) := CallR.imp (CallR.or (call_dictP hc) call_dictD) fun vs H Q ⟨as, m, v, a, hs, ev, r, h⟩ => by
  subst ev
  unfold dictL at h
  split at h
  · rename_i ks e
    obtain ⟨b, kvs, rfl, h1, h2⟩ := dctV_rep hs r e
    obtain ⟨_, k⟩ := newD_post hs h2 h
    exact .inr ⟨b, kvs, rfl, h1, k⟩
  unfold dictP at h
  split at h
  · rename_i ys e
    split at h
    · rename_i ps ep
      obtain ⟨p, ws, rfl, hp, rk⟩ := lstV_rep hs r e
      obtain ⟨bs, kvs, rfl, h1, h2⟩ := pairs_rep ep rk
      obtain ⟨_, k⟩ := newD_post hs (repk_merge h1 (kvs := []) (ds := []) .nil) h
      exact .inl ⟨p, bs, kvs, rfl, hp, h2, fun q hq => k q hq⟩
    · exact h.elim
  · exact h.elim
/-- a built-in's value -/
def biV : Bi → Value
  | .len => .builtin "len" | .abs => .builtin "abs" | .repr => .builtin "repr" | .sum => .builtin "sum" | .min => .builtin "min" | .max => .builtin "max" | .min2 => .builtin "min" | .max2 => .builtin "max"
  | .sorted => .builtin "sorted" | .all => .builtin "all" | .any => .builtin "any" | .int => .type "int" | .str => .type "str" | .bool => .type "bool" | .list => .type "list" | .tuple => .type "tuple" | .dict => .type "dict"
  | _ => .none
theorem CallR.no {f : Value} {r : List V → Hp → VK → Prop} (h : ∀ xs H Q, ¬ r xs H Q) : CallR X f r := fun pins s σ H xs us Q _ _ q => (h _ _ _ q).elim
theorem RC1.no {K : PySem.W.Frag} {vs : List V} {H : Hp} {Q : VK} : ¬ RC1 K (fun _ _ => .err) vs H Q := fun ⟨as, m, v, a, hs, ev, r, h⟩ => h
theorem cr_bi1 (hc : X.calm = true) (hu : X.A.units + 64 < cLine) (hg : X.A.guards = some []) (f : Bool) (b : Bi) : CallR X (biV b) (RC1 X.K (bi1 f b)) := by
  cases b
  case len => exact cr_len
  case abs => exact cr_abs
  case int => exact cr_int
  case str => exact cr_str
  case bool => exact cr_bool
  case repr => exact cr_repr hu hg
  case list => exact cr_list hc f
  case tuple => exact cr_tuple
  case all => exact cr_allD hc
  case any => exact cr_anyD hc
  case sum => exact cr_sumD hc
  case min => exact cr_minA hc hu
  case max => exact cr_maxA hc hu
  case dict => exact cr_dictD hc f
  case sorted => exact cr_sortedD hc hu f
  all_goals exact CallR.no fun _ _ _ => RC1.no
theorem cr_bi2 (hc : X.calm = true) (b : Bi) : CallR X (biV b) (fun vs H Q => ∃ as m v w a c, HS X.K as m H ∧ vs = [v, w] ∧ Rep X.K as H v a ∧ Rep X.K as H w c ∧ PostV X.K as H (bi2 b a c m) Q) := by
  cases b
  case min2 =>
    refine CallR.imp (call_min2 hc) fun vs H Q ⟨as, m, v, w, a, c, hs, ev, r1, r2, h⟩ => ?_
    subst ev
    cases a <;> cases c <;> first | exact h.elim | skip
    rw [int_rep r1, int_rep r2]
    exact ⟨_, _, rfl, h.here hs (.int _)⟩
  case max2 =>
    refine CallR.imp (call_max2 hc) fun vs H Q ⟨as, m, v, w, a, c, hs, ev, r1, r2, h⟩ => ?_
    subst ev
    cases a <;> cases c <;> first | exact h.elim | skip
    rw [int_rep r1, int_rep r2]
    exact ⟨_, _, rfl, h.here hs (.int _)⟩
  all_goals exact CallR.no fun _ _ _ ⟨as, m, v, w, a, c, hs, ev, r1, r2, h⟩ => by simp [bi2] at h; exact h
/-- a built-in called -/
theorem cr_biD (hc : X.calm = true) (hu : X.A.units + 64 < cLine) (hg : X.A.guards = some []) (f : Bool) (b : Bi) : CallR X (biV b) (RC X.K (biD f b)) := by
  refine CallR.imp (CallR.or (cr_bi1 hc hu hg f b) (cr_bi2 hc b)) fun vs H Q ⟨as, m, ds, hs, r, h⟩ => ?_
  match ds, r, h with
  | [], _, h => exact h.elim
  | [a], r, h => obtain ⟨v, rfl, r'⟩ := r.one'; exact .inl ⟨as, m, v, a, hs, rfl, r', h⟩
  | [a, c], r, h => obtain ⟨v, w, rfl, r1, r2⟩ := r.two'; exact .inr ⟨as, m, v, w, a, c, hs, rfl, r1, r2, h⟩
  | _ :: _ :: _ :: _, _, h => exact h.elim
/-- times -/
theorem op_mulStr : OpR X (binaryOp .Mult) (fun x y H Q => ∃ a k, x = .str a ∧ y = .int k ∧ -(2 ^ 62) < k ∧ k < 2 ^ 62 ∧ a.length * k.toNat ≤ sizeMax ∧ Q (.str (Txt.mul a k)) H) := by
  intro pins s σ H x y v u Q I rx ry ⟨a, k, ex, ey, h1, h2, h3, q⟩
  subst ex ey
  obtain ⟨t, rfl⟩ := rx
  obtain ⟨t', rfl⟩ := ry
  refine SB.mul ⟨by simp; omega, fun c _ => ?_, fun c _ => ?_⟩ fun t2 k2 => ⟨.str _, H, I.tok _, ⟨_, rfl⟩, q⟩
  · intro z
    have hk : 0 < k := by omega
    have z2 := (Int.lt_iff_add_one_le).mp z
    have z3 : (2 ^ 63 - 1 : Int) < (a.length : Int) * k := by
      exact (Int.ediv_lt_iff_lt_mul hk).mp z
    have z4 : ((a.length * k.toNat : Nat) : Int) = (a.length : Int) * k := by push_cast; rw [Int.toNat_of_nonneg (by omega)]
    have : sizeMax = 2 ^ 24 := rfl
    omega
  · simp only [Builtin.Str.tooLong, decide_eq_false_iff_not, gt_iff_lt, Nat.not_lt]
    have : sizeMax ≤ sizeLine := by decide
    omega
theorem op_mulD (f : Bool) : OpR X (binaryOp .Mult) (R2D X.K (binD f .mul)) := by
  refine OpR.imp (OpR.or op_mul (OpR.or op_mulW (OpR.or op_mulStr (OpR.or op_repT op_rep)))) fun x y H Q ⟨as, m, a, b, hs, ra, rb, h⟩ => ?_
  have lists : ∀ (k : Int) (R : RD), b = .int k → R = (match lstX m a with | some xs => need (-(2 ^ 62) < k ∧ k < 2 ^ 62 ∧ xs.length * k.toNat ≤ sizeMax) (newL f (rep k.toNat xs) m) | none => .err) → PostV X.K as H R Q → rRep x y H Q := by
    intro k R eb eR h
    subst eb eR
    split at h
    · rename_i xs e
      obtain ⟨⟨h1, h2, h3⟩, h⟩ := h.needs
      obtain ⟨p, vs, rfl, hp, r⟩ := lstX_rep hs ra e
      obtain ⟨_, q⟩ := newL_post hs (rep_map r k.toNat) h
      exact ⟨p, k, vs, rfl, int_rep rb, hp, by omega, by omega, by rw [r.length]; exact h3, q⟩
    · exact h.elim
  cases b with
  | int k =>
    cases a with
    | int i =>
      obtain ⟨c, h⟩ := h.needs
      have q := h.here hs (.int _)
      rcases c with c | c
      · exact .inl ⟨i, k, int_rep ra, int_rep rb, by unfold CMul; omega, q⟩
      · exact .inr (.inl ⟨i, k, int_rep ra, int_rep rb, c, q⟩)
    | str i =>
      obtain ⟨⟨h1, h2, h3⟩, h⟩ := h.needs
      exact .inr (.inr (.inl ⟨i, k, str_rep ra, int_rep rb, h1, h2, h3, h.here hs (.str _)⟩))
    | tup xs =>
      obtain ⟨⟨h0, h1, h2, h3⟩, h⟩ := h.needs
      obtain ⟨p, vs, rfl, hp, r⟩ := tup_rep ra
      obtain ⟨_, q⟩ := newT_post hs (rep_map r k.toNat) h
      exact .inr (.inr (.inr (.inl ⟨p, k, vs, rfl, int_rep rb, hp, by rintro rfl; cases r; exact h0 rfl, h1, h2, by rw [r.length]; exact h3, q⟩)))
    | _ => exact .inr (.inr (.inr (.inr (lists k _ rfl rfl h))))
  | _ => cases a <;> exact h.elim
end
end DV

end
section
set_option Elab.async false
set_option linter.all false
set_option maxRecDepth 100000
set_option autoImplicit false
/-! Items, slices, methods. -/
namespace DV
open PySem PySem.Spec PyProof.Rows L2
section
variable {X : Cx}
theorem ixN_eq (n : Nat) (i : Int) : DV.ixN n i = L2.ixN n i := rfl
theorem sIx_eq (n d : Nat) (o : Option Int) : DV.sIx n d o = HT.sIx n d o := by cases o <;> rfl
theorem repk_dget {as : Pl} {H : Hp} {kvs : List (Key × V)} {ds : List (Key × D)} (h : RepK X.K as H kvs ds) {k : Key} {d : D} (e : dget ds k = some d) : ∃ v, valV kvs k = some v ∧ Rep X.K as H v d := by
  have q := repk_find h k
  rw [e] at q
  obtain ⟨v, hv⟩ := Option.isSome_iff_exists.mp q.1
  exact ⟨v, hv, q.2 v d hv rfl⟩
theorem ix_dict (hu : X.A.units + 1 < cLine) : IxR X (fun x y H Q => ∃ a v, x = .ref a ∧ DGet H a y (some v) ∧ Q v H) := by
  intro value slice pins s σ H x y v u Q I rx ry ⟨a, w, ex, g, q⟩ hs
  subst ex
  obtain rfl : v = Value.ref a := rx
  exact tail_any (ops := [.ref a, u]) (dict_typeIs I g) PySem.F.slot_dict_getitem.lookup (d_getItem hu I g ry fun w' s3 I3 rw' => ⟨w, H, I3, rw', q⟩) hs
theorem ix_C (hu : X.A.units + 1 < cLine) : IxR X (R2D X.K ixC) := by
  intro value slice pins s σ H x y v u Q I rx ry ⟨as, m, a, b, hs, ra, rb, h⟩ hsl
  unfold ixC at h
  split at h
  · rename_i kvs e1
    unfold ixK at h
    split at h
    · rename_i k e2
      split at h
      · rename_i w e3
        obtain ⟨p, kv, rfl, hp, r⟩ := dctV_rep hs ra e1
        obtain ⟨z, hz, rz⟩ := repk_dget r e3
        have ek := key_rep rb e2
        subst ek
        exact ix_dict hu value slice pins s σ H _ _ v u Q I rx ry ⟨p, z, rfl, .inl ⟨kv, k, hp, rfl, hz.symm⟩, h.here hs rz⟩ hsl
      · exact h.elim
    · exact h.elim
  · split at h
    · rename_i xs e1
      unfold ixS at h
      split at h
      · rename_i k
        split at h
        · rename_i w e2
          obtain ⟨p, vs, rfl, hp, r⟩ := seqV_rep hs ra e1
          have ei := int_rep rb
          subst ei
          have : ∃ z, atI vs k = some z ∧ Rep X.K as H z w := by
            unfold atI
            rw [r.length]
            rw [ixN_eq] at e2
            obtain ⟨j, ej, ew⟩ := Option.bind_eq_some_iff.mp e2
            obtain ⟨z, hz, rz⟩ := r.get ew
            exact ⟨z, by rw [ej]; exact hz, rz⟩
          obtain ⟨z, hz, rz⟩ := this
          refine ix_seq value slice pins s σ H _ _ v u Q I rx ry ?_ hsl
          rcases hp with hp | hp
          · exact .inl ⟨p, vs, k, z, rfl, rfl, hp, hz, h.here hs rz⟩
          · exact .inr (.inl ⟨p, vs, k, z, rfl, rfl, hp, hz, h.here hs rz⟩)
        · exact h.elim
      · exact h.elim
    · exact h.elim
theorem ix_D (hu : X.A.units + 1 < cLine) : IxR X (R2D X.K ixD) := by
  intro value slice pins s σ H x y v u Q I rx ry ⟨as, m, a, b, hs, ra, rb, h⟩ hsl
  cases a with
  | str z =>
    change PostV X.K as H (ixT z b m) Q at h
    unfold ixT at h
    split at h
    · rename_i k
      obtain ⟨hl, h⟩ := h.needs
      split at h
      · rename_i c e
        have e1 := str_rep ra
        have e2 := int_rep rb
        subst e1 e2
        exact ix_seq value slice pins s σ H _ _ v u Q I rx ry (.inr (.inr ⟨z, k, c, rfl, rfl, hl, e, h.here hs (.str _)⟩)) hsl
      · exact h.elim
    · exact h.elim
  | _ => exact ix_C hu value slice pins s σ H x y v u Q I rx ry ⟨as, m, _, b, hs, ra, rb, h⟩ hsl
/-- a[lo:hi] -/
def RSl (K : PySem.W.Frag) (f : Bool) : V → Option Int → Option Int → Hp → VK → Prop := fun x lo hi H Q => ∃ as m a, HS K as m H ∧ Rep K as H x a ∧ PostV K as H (slD f a lo hi m) Q
theorem cut_rep {as : Pl} {H : Hp} {vs : List V} {ds : List D} (r : Reps X.K as H vs ds) (lo hi : Option Int) : Reps X.K as H (cutV vs lo hi) (cut ds lo hi) := by
  unfold cutV cut
  rw [r.length, sIx_eq, sIx_eq]
  exact (r.drop _).take _
theorem cut_all {α : Type} (xs : List α) (lo hi : Option Int) (h : DV.sIx xs.length 0 lo = 0) (h2 : DV.sIx xs.length xs.length hi = xs.length) : cut xs lo hi = xs := by
  unfold cut
  rw [h, h2]
  simp
theorem sl_C (f : Bool) : SlR X (fun x lo hi H Q => ∃ as m a, HS X.K as m H ∧ Rep X.K as H x a ∧ PostV X.K as H (slC f a lo hi m) Q) := by
  intro pins s σ H x v vl vu lo hi sl Q I rx hs pl pu ⟨as, m, a, st, ra, h⟩
  unfold slC at h
  split at h
  · rename_i xs e
    obtain ⟨p, vs, rfl, hp, r⟩ := lstV_rep st ra e
    obtain ⟨_, k⟩ := newL_post st (cut_rep r lo hi) h
    exact sl_list pins s σ H _ v vl vu lo hi sl Q I rx hs pl pu ⟨p, vs, rfl, hp, k⟩
  · exact h.elim
theorem cutS_eq (z : Str) (lo hi : Option Int) : cutS z lo hi = cutStr z lo hi := by
  unfold cutS cutStr cut
  have e : z.cps.toList.length = z.length := by simp [Str.length]
  rw [e, sIx_eq, sIx_eq]
theorem sl_D (f : Bool) : SlR X (RSl X.K f) := by
  intro pins s σ H x v vl vu lo hi sl Q I rx hs pl pu ⟨as, m, a, st, ra, h⟩
  cases a with
  | tup xs =>
    obtain ⟨p, vs, rfl, hp, r⟩ := tup_rep ra
    obtain ⟨_, k⟩ := newT_post st (cut_rep r lo hi) h
    obtain ⟨_, h'⟩ := h.needs
    refine sl_tupA pins s σ H _ v vl vu lo hi sl Q I rx hs pl pu ⟨p, vs, rfl, hp, fun e => ?_, fun _ => k⟩
    rw [r.length, ← sIx_eq, ← sIx_eq] at e
    rw [cut_all xs lo hi e.1 e.2] at h'
    exact h'.here st ra
  | str z =>
    obtain ⟨hl, h⟩ := h.needs
    exact sl_str pins s σ H x v vl vu lo hi sl Q I rx hs pl pu ⟨z, str_rep ra, hl, by rw [cutS_eq]; exact h.here st (.str _)⟩
  | _ => exact sl_C f pins s σ H x v vl vu lo hi sl Q I rx hs pl pu ⟨as, m, _, st, ra, h⟩
/-- a method by the evaluator -/
def RM (K : PySem.W.Frag) (f : Bool) (t : Mt) : V → List V → Hp → VK → Prop := fun x vs H Q => ∃ as m a ds, HS K as m H ∧ Rep K as H x a ∧ Reps K as H vs ds ∧ PostV K as H (mtD f t a ds m) Q
theorem loc_list {as : Pl} {m : Store} {H : Hp} (hs : HS X.K as m H) {x : V} {l : Nat} {ys : List D} (r : Rep X.K as H x (.loc l)) (e : m[l]? = some (.lst ys)) : ∃ a vs, x = .ref a ∧ as.l[l]? = some a ∧ H a = some (.lst vs) ∧ Reps X.K as H vs ys := by
  cases r with
  | @loc _ a h =>
    obtain ⟨vs, h1, h2⟩ := hs.ob _ _ _ h e
    exact ⟨a, vs, rfl, h, h1, h2⟩
/-- the list at a place is written -/
theorem put_list {as : Pl} {m : Store} {H : Hp} (hs : HS X.K as m H) {l : Nat} {a : Addr} {ds : List D} {vs : List V} (h : as.l[l]? = some a) (r : Reps X.K as H vs ds) {d : D} {v : V} {Q : VK} (rv : Rep X.K as H v d)
    (q : PostV X.K as H (.ok (d, m.set l (.lst ds))) Q) : Q v (upd H a (.lst vs)) :=
  q _ _ _ (Ext.put h) (hs.put h ⟨vs, upd_same, r.ext (Ext.put h)⟩) (rv.ext (Ext.put h))
theorem onList_of {as : Pl} {m : Store} {H : Hp} (hs : HS X.K as m H) {x : V} {o : D} (r : Rep X.K as H x o) {k : Nat → List D → RD} {Q : VK} (h : PostV X.K as H (onList o m k) Q) :
    ∃ l ys a vs, x = .ref a ∧ as.l[l]? = some a ∧ H a = some (.lst vs) ∧ Reps X.K as H vs ys ∧ PostV X.K as H (k l ys) Q := by
  unfold onList at h
  split at h
  · split at h
    · rename_i l _ ys e
      obtain ⟨a, vs, rfl, h1, h2, h3⟩ := loc_list hs r e
      exact ⟨l, ys, a, vs, rfl, h1, h2, h3, h⟩
    · exact h.elim
  · exact h.elim
theorem arg1_of {as : Pl} {H : Hp} {xs : List D} {vs : List V} (r : Reps X.K as H vs xs) {k : D → RD} {Q : VK} (h : PostV X.K as H (arg1 xs k) Q) : ∃ v d, vs = [v] ∧ Rep X.K as H v d ∧ PostV X.K as H (k d) Q := by
  unfold arg1 at h
  split at h
  · obtain ⟨v, rfl, r'⟩ := r.one'
    exact ⟨v, _, rfl, r', h⟩
  · exact h.elim
theorem arg0_of {as : Pl} {H : Hp} {xs : List D} {vs : List V} (r : Reps X.K as H vs xs) {k : RD} {Q : VK} (h : PostV X.K as H (arg0 xs k) Q) : vs = [] ∧ PostV X.K as H k Q := by
  unfold arg0 at h
  split at h
  · exact ⟨r.zero', h⟩
  · exact h.elim
theorem MtM.imp {id : String} {r r' : V → List V → Hp → VK → Prop} (h : MtM X id r) (k : ∀ x vs H Q, r' x vs H Q → r x vs H Q) : MtM X id r' := fun pins s σ H x xs v us Q I rx rv q => h pins s σ H x xs v us Q I rx rv (k _ _ _ _ q)
theorem mt_appendD (f : Bool) : MtM X "list.append" (RM X.K f .append) := MtM.imp mt_append fun x vs H Q ⟨as, m, o, ds, hs, ra, rs, h⟩ => by
  obtain ⟨l, ys, a, ws, rfl, hl, hH, r, h⟩ := onList_of hs ra h
  obtain ⟨v, d, rfl, rv, h⟩ := arg1_of rs h
  obtain ⟨hz, h⟩ := h.needs
  exact ⟨a, ws, v, rfl, rfl, hH, by rw [r.length]; exact hz, put_list hs hl (r.append (.cons rv .nil)) .non h⟩
theorem mt_extendD (f : Bool) : MtM X "list.extend" (RM X.K f .extend) := MtM.imp mt_extend fun x vs H Q ⟨as, m, o, ds, hs, ra, rs, h⟩ => by
  obtain ⟨l, ys, a, ws, rfl, hl, hH, r, h⟩ := onList_of hs ra h
  obtain ⟨v, d, rfl, rv, h⟩ := arg1_of rs h
  unfold extD at h
  split at h
  · rename_i zs e
    obtain ⟨hz, h⟩ := h.needs
    obtain ⟨b, us, rfl, hb, r2⟩ := lstX_rep hs rv e
    exact ⟨a, b, ws, us, rfl, rfl, hH, hb, by rw [r.length, r2.length]; exact hz, put_list hs hl (r.append r2) .non h⟩
  · exact h.elim
theorem Reps.dropLast {K : PySem.W.Frag} {as : Pl} {H : Hp} {vs : List V} {ds : List D} (h : Reps K as H vs ds) : Reps K as H vs.dropLast ds.dropLast := by
  rw [List.dropLast_eq_take, List.dropLast_eq_take, h.length]
  exact h.take _
theorem mt_popD (f : Bool) : MtM X "list.pop" (RM X.K f .pop) := MtM.imp mt_pop fun x vs H Q ⟨as, m, o, ds, hs, ra, rs, h⟩ => by
  obtain ⟨l, ys, a, ws, rfl, hl, hH, r, h⟩ := onList_of hs ra h
  obtain ⟨rfl, h⟩ := arg0_of rs h
  unfold popLast at h
  split at h
  · rename_i y e
    rw [List.getLast?_eq_getElem?] at e
    obtain ⟨w, ew, rw'⟩ := r.get e
    exact ⟨a, ws, w, rfl, rfl, hH, by rw [r.length]; exact ew, put_list hs hl r.dropLast rw' h⟩
  · exact h.elim
theorem mt_popAtD (f : Bool) : MtM X "list.pop" (RM X.K f .popAt) := by
  intro pins s σ H x vs v us Q I rx rv ⟨as, m, o, ds, hs, ra, rs, h⟩
  obtain ⟨l, ys, a, ws, rfl, hl, hH, r, h⟩ := onList_of hs ra h
  obtain ⟨v, d, rfl, rd, h⟩ := arg1_of rs h
  unfold popAt at h
  split at h
  · rename_i i
    split at h
    · rename_i k e
      split at h
      · rename_i y e2
        obtain ⟨w, ew, rw'⟩ := r.get e2
        have ei := int_rep rd
        subst ei
        rw [ixN_eq, ← r.length] at e
        obtain ⟨h1, h2, h3, h4⟩ := ixN_seq e
        have hz := (I.lstM hH).1
        have hn := line63
        exact mt_popAt pins s σ H _ _ _ us Q I rx rv ⟨a, ws, i, k, w, rfl, rfl, hH, by omega, by omega, h1, ew, put_list hs hl (r.erase k) rw' h⟩
      · exact h.elim
    · exact h.elim
  · exact h.elim
theorem mt_reverseD (f : Bool) : MtM X "list.reverse" (RM X.K f .reverse) := MtM.imp mt_reverse fun x vs H Q ⟨as, m, o, ds, hs, ra, rs, h⟩ => by
  obtain ⟨l, ys, a, ws, rfl, hl, hH, r, h⟩ := onList_of hs ra h
  obtain ⟨rfl, h⟩ := arg0_of rs h
  exact ⟨a, ws, rfl, rfl, hH, put_list hs hl r.reverse .non h⟩
theorem mt_clearD (f : Bool) : MtM X "list.clear" (RM X.K f .clear) := MtM.imp mt_clear fun x vs H Q ⟨as, m, o, ds, hs, ra, rs, h⟩ => by
  obtain ⟨l, ys, a, ws, rfl, hl, hH, r, h⟩ := onList_of hs ra h
  obtain ⟨rfl, h⟩ := arg0_of rs h
  exact ⟨a, ws, rfl, rfl, hH, put_list hs hl .nil .non h⟩
theorem arg2_of {as : Pl} {H : Hp} {xs : List D} {vs : List V} (r : Reps X.K as H vs xs) {k : D → D → RD} {Q : VK} (h : PostV X.K as H (arg2 xs k) Q) : ∃ v w d e, vs = [v, w] ∧ Rep X.K as H v d ∧ Rep X.K as H w e ∧ PostV X.K as H (k d e) Q := by
  unfold arg2 at h
  split at h
  · obtain ⟨v, w, rfl, r1, r2⟩ := r.two'
    exact ⟨v, w, _, _, rfl, r1, r2, h⟩
  · exact h.elim
theorem mt_insertD (f : Bool) : MtM X "list.insert" (RM X.K f .insert) := MtM.imp (fun pins s σ H x xs v us Q I rx rv q => L2.mt_insert pins s σ H x xs v us Q I rx rv q) fun x vs H Q ⟨as, m, o, ds, hs, ra, rs, h⟩ => by
  obtain ⟨l, ys, a, ws, rfl, hl, hH, r, h⟩ := onList_of hs ra h
  obtain ⟨v, w, d, e, rfl, rv, rw1, h⟩ := arg2_of rs h
  unfold insAt at h
  split at h
  · rename_i i
    obtain ⟨⟨h0, h1, h2⟩, h⟩ := h.needs
    have := int_rep rv
    subst this
    exact ⟨a, ws, i, w, rfl, rfl, hH, (by rw [r.length]; exact h2), h0, (by omega), put_list hs hl (((r.take _).append (.cons rw1 .nil)).append (r.drop _)) .non h⟩
  · exact h.elim
theorem strs_rep' {as : Pl} {H : Hp} : ∀ {ss : List Str} {vs : List V}, Reps X.K as H vs (ss.map D.str) → vs = ss.map V.str
  | [], _, r => by cases r; rfl
  | s :: ss, _, r => by cases r with | cons r t => rw [str_rep r, strs_rep' t]; rfl
theorem ints_rep' {as : Pl} {H : Hp} : ∀ {ss : List Int} {vs : List V}, Reps X.K as H vs (ss.map D.int) → vs = ss.map V.int
  | [], _, r => by cases r; rfl
  | s :: ss, _, r => by cases r with | cons r t => rw [int_rep r, ints_rep' t]; rfl
theorem find_at {α : Type} [DecidableEq α] {x : α} : ∀ {ss : List α} {j : Nat}, (ss.findIdx? fun y => decide (y = x)) = some j → ss[j]? = some x ∧ ∀ m z, m < j → ss[m]? = some z → z ≠ x := by
  intro ss j h
  rw [List.findIdx?_eq_some_iff_getElem] at h
  obtain ⟨h0, h1, h2⟩ := h
  refine ⟨by rw [List.getElem?_eq_getElem h0]; simpa using h1, fun m z hm hz => ?_⟩
  have := h2 m hm
  rw [List.getElem?_eq_getElem (by omega)] at hz
  cases hz
  simpa using this
theorem mt_indexF (f : Bool) : MtM X "list.index" (RM X.K f .index) := MtM.imp (fun pins s σ H x xs v us Q I rx rv q => mt_index pins s σ H x xs v us Q I rx rv q) fun x vs H Q ⟨as, m, o, ds, hs, ra, rs, h⟩ => by
  change PostV X.K as H (idxD o ds m) Q at h
  unfold idxD at h
  split at h
  · rename_i ys e
    obtain ⟨a, ws, rfl, hq, rk⟩ := lstV_rep hs ra e
    obtain ⟨v, d, rfl, rv, h⟩ := arg1_of rs h
    split at h
    · rename_i y
      split at h
      · rename_i ss es
        split at h
        · rename_i j ej
          have q := h.here hs (Rep.int _)
          have e1 := strsS_of es
          subst e1
          have e2 := strs_rep' rk
          subst e2
          have e3 := str_rep rv
          subst e3
          obtain ⟨h1, h2⟩ := find_at ej
          refine ⟨a, _, _, j, V.str y, rfl, rfl, hq, rfl, by simp [flatV], by rw [List.getElem?_map, h1]; rfl, by simp [eqV], fun m z hm hz => ?_, q⟩
          rw [List.getElem?_map] at hz
          obtain ⟨w, hw, rfl⟩ := Option.map_eq_some_iff.mp hz
          simpa [eqV] using h2 m w hm hw
        · exact h.elim
      · exact h.elim
    · rename_i y
      split at h
      · rename_i ss es
        split at h
        · rename_i j ej
          have q := h.here hs (Rep.int _)
          have e1 := intsD_of es
          subst e1
          have e2 := ints_rep' rk
          subst e2
          have e3 := int_rep rv
          subst e3
          obtain ⟨h1, h2⟩ := find_at ej
          refine ⟨a, _, _, j, V.int y, rfl, rfl, hq, rfl, by simp [flatV], by rw [List.getElem?_map, h1]; rfl, by simp [eqV], fun m z hm hz => ?_, q⟩
          rw [List.getElem?_map] at hz
          obtain ⟨w, hw, rfl⟩ := Option.map_eq_some_iff.mp hz
          simpa [eqV] using h2 m w hm hw
        · exact h.elim
      · exact h.elim
    · exact h.elim
  · exact h.elim
/-- a[i] = v by the evaluator -/
def RSet (K : PySem.W.Frag) : V → V → V → Hp → (Hp → Prop) → Prop := fun o i v H Q => ∃ as m a b d, HS K as m H ∧ Rep K as H o a ∧ Rep K as H i b ∧ Rep K as H v d ∧ ∃ m', setD a b d m = .ok m' ∧ ∀ as' H', Ext as H as' H' → HS K as' m' H' → Q H'
theorem loc_dict {as : Pl} {m : Store} {H : Hp} (hs : HS X.K as m H) {x : V} {l : Nat} {ys : List (Key × D)} (r : Rep X.K as H x (.loc l)) (e : m[l]? = some (.dct ys)) : ∃ a vs, x = .ref a ∧ as.l[l]? = some a ∧ H a = some (.dK vs) ∧ RepK X.K as H vs ys := by
  cases r with
  | @loc _ a h =>
    obtain ⟨vs, h1, h2⟩ := hs.ob _ _ _ h e
    exact ⟨a, vs, rfl, h, h1, h2⟩
theorem set_D (hu : X.A.units + 1 < cLine) : PSet X (RSet X.K) := by
  intro pins s σ H o i v ov iv u Q I ro ri rv ⟨as, m, a, b, d, hs, ra, rb, rd, m', e, q⟩
  unfold setD at e
  split at e
  · split at e
    · rename_i l _ ys e1
      obtain ⟨p, vs, rfl, hl, hH, r⟩ := loc_list hs ra e1
      unfold setL at e
      split at e
      · rename_i k
        split at e
        · rename_i j e2
          cases e
          have ei := int_rep rb
          subst ei
          exact set_list pins s σ H _ _ v ov iv u Q I ro ri rv ⟨p, vs, k, j, rfl, rfl, hH, by rw [r.length]; exact e2, q _ _ (Ext.put hl) (hs.put hl ⟨_, upd_same, (r.set rd j).ext (Ext.put hl)⟩)⟩
        · cases e
      · cases e
    · rename_i l _ kvs e1
      obtain ⟨p, vs, rfl, hl, hH, r⟩ := loc_dict hs ra e1
      unfold setK at e
      split at e
      · rename_i k ek
        unfold need at e
        split at e
        · rename_i hz
          cases e
          have := key_rep rb ek
          subst this
          refine set_dict hu pins s σ H _ _ v ov iv u Q I ro ri rv ⟨p, _, rfl, .k hH (by rw [repk_len r]; exact hz), q _ _ (Ext.put hl) (hs.put hl ⟨_, upd_same, (repk_put r k rd).ext (Ext.put hl)⟩)⟩
        · cases e
      · cases e
    · cases e
  · cases e
end
end DV

end
section
set_option Elab.async false
set_option linter.all false
set_option maxRecDepth 100000
set_option autoImplicit false
/-! Targets, iterators, loops. -/
namespace DV
open PySem PySem.Spec PyProof.Rows L2

/-- the static context: the slots' names, the scope, the scope whose cells are the block's own -/
structure Cc where
  N : List Str
  sc : Scope
  fn : Scope
  /-- nothing is handled -/
  cm : Bool
def vis (c : Cc) (x : Str) : Bool := decide (c.sc.names.lookup x = some .local) || decide (c.sc.names.lookup x = some .cell) || decide (c.sc.names.lookup x = some .free)
def sto (c : Cc) (x : Str) : Bool := decide (c.sc.names.lookup x = some .local) || (decide (c.sc.names.lookup x = some .cell) && decide (c.fn.names.lookup x = some .cell))
structure XC (X : Cx) (c : Cc) : Prop where
  N : X.N = c.N
  nd : X.N.Nodup
  sc : X.env.scope = c.sc
  fn : ∀ x, c.fn.names.lookup x = some .cell → X.fn x = true
  calm : c.cm = true → X.calm = true
  room : X.A.units + 64 < cLine
  gd : X.A.guards = some []
mutual
def T.slots : T → List Nat
  | .name i => [i]
  | .tup ts => slotss ts
def slotss : List T → List Nat
  | [] => []
  | t :: ts => t.slots ++ slotss ts
end
mutual
def chkT (c : Cc) : T → Expr → Bool
  | .name i, .Name x _ => decide (c.N[i]? = some x) && sto c x
  | .tup ts, .Tuple es _ _ => c.cm && chkTs c ts es
  | _, _ => false
def chkTs (c : Cc) : List T → List Expr → Bool
  | [], [] => true
  | t :: ts, e :: es => chkT c t e && chkTs c ts es
  | _, _ => false
end
/-- what stores into the slots -/
def SlotP (ks : List Nat) (σ σ' : St) : Prop := σ'.length = σ.length ∧ ∀ i, i ∉ ks → σ'[i]? = σ[i]?
def RG (K : PySem.W.Frag) (t : T) : TG := fun v σ H Q => ∃ as m r d r', HS K as m H ∧ SR K as H σ r ∧ Rep K as H v d ∧ asgT m t d r = some r' ∧ ∀ σ', SR K as H σ' r' → SlotP t.slots σ σ' → Q σ' H
def RGs (K : PySem.W.Frag) (ts : List T) : TGs := fun vs σ H Q => ∃ as m r ds r', HS K as m H ∧ SR K as H σ r ∧ Reps K as H vs ds ∧ asgTs m ts ds r = some r' ∧ ∀ σ', SR K as H σ' r' → SlotP (slotss ts) σ σ' → Q σ' H
theorem PG.imp {X : Cx} {e : Expr} {t t' : TG} (h : PG X e t) (k : ∀ v σ H Q, t' v σ H Q → t v σ H Q) : PG X e t' := ⟨fun pins s σ H v u Q I r hw => h.run pins s σ H v u Q I r (k _ _ _ _ hw)⟩
theorem PGs.imp {X : Cx} {e : List Expr} {t t' : TGs} (h : PGs X e t) (k : ∀ v σ H Q, t' v σ H Q → t v σ H Q) : PGs X e t' := ⟨fun pins s σ H v u Q I r hw => h.run pins s σ H v u Q I r (k _ _ _ _ hw)⟩
theorem SlotP.trans {ks ls : List Nat} {a b d : St} (h : SlotP ks a b) (g : SlotP ls b d) : SlotP (ks ++ ls) a d := ⟨g.1.trans h.1, fun i hi => (g.2 i fun q => hi (List.mem_append_right _ q)).trans (h.2 i fun q => hi (List.mem_append_left _ q))⟩
theorem SR.set {K : PySem.W.Frag} {as : Pl} {H : Hp} {σ : St} {r : Fr} (h : SR K as H σ r) {v : V} {d : D} (rv : Rep K as H v d) (i : Nat) : SR K as H (σ.set i (some v)) (r.set i (some d)) := by
  refine ⟨by rw [List.length_set, List.length_set]; exact h.len, fun j d' e => ?_⟩
  by_cases hj : i = j
  · subst hj
    by_cases hl : i < r.length
    · rw [List.getElem?_set_self hl] at e
      cases e
      exact ⟨v, by rw [List.getElem?_set_self (by rw [← h.len]; exact hl)], rv⟩
    · rw [List.getElem?_eq_none (by rw [List.length_set]; omega)] at e; cases e
  · rw [List.getElem?_set_ne hj] at e
    rw [List.getElem?_set_ne hj]
    exact h.at_ j d' e
theorem SlotP.set (σ : St) (i : Nat) (v : Option V) : SlotP [i] σ (σ.set i v) := ⟨List.length_set, fun j hj => List.getElem?_set_ne (by intro e; exact hj (by simp [e]))⟩
theorem assignEach_plain {env : PySem.Env} : ∀ {c : Cc} {ts : List T} {es : List Expr}, chkTs c ts es = true → (assignEach es env).length = ts.length ∧ (assignEach es env).findIdx? (·.1) = none ∧ (assignEach es env).map (·.2) = es.map fun e => assign e env
  | c, [], [], _ => by simp [assignEach]
  | c, t :: ts, e :: es, h => by
    rw [chkTs, Bool.and_eq_true] at h
    have q := assignEach_plain (env := env) h.2
    have e1 : assignEach (e :: es) env = (false, assign e env) :: assignEach es env := by
      cases e <;> first | rfl | (cases t <;> simp [chkT] at h)
    rw [e1]
    refine ⟨by simp [q.1], ?_, by simp [q.2.2]⟩
    rw [List.findIdx?_cons]
    simp [q.2.1]
  | c, [], _ :: _, h => by simp [chkTs] at h
  | c, _ :: _, [], h => by simp [chkTs] at h
section
variable {X : Cx} {c : Cc}
theorem sto_of (hx : XC X c) {x : Str} (h : sto c x = true) : Loc X.env.scope x ∧ (X.fn x = true ∨ X.env.scope.names.lookup x = some .local) := by
  rw [hx.sc]
  simp only [sto, Bool.or_eq_true, Bool.and_eq_true, decide_eq_true_eq] at h
  rcases h with h | ⟨h, g⟩
  · exact ⟨.inl h, .inr h⟩
  · exact ⟨.inr h, .inl (hx.fn x g)⟩
theorem asgTs_len {m : Store} : ∀ {ts : List T} {ds : List D} {r r' : Fr}, asgTs m ts ds r = some r' → ds.length = ts.length
  | [], [], _, _, _ => rfl
  | [], _ :: _, _, _, h => by simp [asgTs] at h
  | _ :: _, [], _, _, h => by simp [asgTs] at h
  | t :: ts, d :: ds, r, r', h => by
    simp only [asgTs] at h
    obtain ⟨r1, e1, e2⟩ := Option.bind_eq_some_iff.mp h
    simp [asgTs_len e2]
mutual
theorem pg_T (hx : XC X c) : ∀ (t : T) (e : Expr), chkT c t e = true → PG X e (RG X.K t)
  | .name i, e, h => by
    cases e <;> simp [chkT] at h
    rename_i x p
    obtain ⟨h1, h2⟩ := h
    obtain ⟨g1, g2⟩ := sto_of hx h2
    refine PG.imp (pg_name hx.nd (by rw [hx.N]; exact h1) g1 g2) fun v σ H Q ⟨as, m, r, d, r', hs, sr, rv, e, k⟩ => ?_
    simp only [asgT] at e
    split at e
    · cases e
      exact k _ (sr.set rv i) (SlotP.set _ _ _)
    · cases e
  | .tup ts, e, h => by
    cases e <;> simp [chkT] at h
    rename_i es kk p
    obtain ⟨hcm, h⟩ := h
    have q := assignEach_plain (env := X.env) h
    refine ⟨fun pins s σ H v u Q I rr ⟨as, m, r, d, r', hs, sr, rv, e, k⟩ => ?_⟩
    have go : ∀ ds, lstV m d = some ds → asgTs m ts ds r = some r' → gLst X.K ts.length (RGs X.K ts) v σ H Q := fun ds el et => by
      obtain ⟨a, vs, rfl, hq, rs⟩ := lstV_rep hs rv el
      exact ⟨a, vs, rfl, hq, by rw [rs.length]; exact asgTs_len et, as, m, r, ds, r', hs, sr, rs, et, fun σ' h1 h2 => k σ' h1 (by rw [T.slots]; exact h2)⟩
    cases d <;> simp only [asgT] at e <;> try (cases e; done)
    · rename_i ds
      obtain ⟨a, vs, rfl, hq, rs⟩ := tup_rep rv
      exact (pg_tup (hx.calm hcm) (pg_Ts hx ts es h) q.1 q.2.1).run pins s σ H _ u Q I rr ⟨a, vs, rfl, hq, by rw [rs.length]; exact asgTs_len e, as, m, r, ds, r', hs, sr, rs, e, fun σ' h1 h2 => k σ' h1 (by rw [T.slots]; exact h2)⟩
    · exact (pg_lst (hx.calm hcm) (pg_Ts hx ts es h) q.1 q.2.1).run pins s σ H _ u Q I rr (go _ rfl e)
    · obtain ⟨ds, e1, e2⟩ := Option.bind_eq_some_iff.mp e
      exact (pg_lst (hx.calm hcm) (pg_Ts hx ts es h) q.1 q.2.1).run pins s σ H _ u Q I rr (go _ e1 e2)
theorem pg_Ts (hx : XC X c) : ∀ (ts : List T) (es : List Expr), chkTs c ts es = true → PGs X es (RGs X.K ts)
  | [], es, h => by
    cases es with
    | nil =>
      refine PGs.imp pgs_nil fun vs σ H Q ⟨as, m, r, ds, r', hs, sr, rs, e, k⟩ => ?_
      cases ds with
      | nil =>
        simp only [asgTs] at e
        cases e
        exact ⟨rs.zero', k σ sr ⟨rfl, fun _ _ => rfl⟩⟩
      | cons d ds => simp [asgTs] at e
    | cons => simp [chkTs] at h
  | t :: ts, es, h => by
    cases es with
    | nil => simp [chkTs] at h
    | cons x es =>
      have q := assignEach_plain (env := X.env) h
      have h' := h
      rw [chkTs, Bool.and_eq_true] at h'
      have q' := assignEach_plain (env := X.env) h'.2
      refine PGs.imp (pgs_cons (pg_T hx t x h'.1) (pg_Ts hx ts es h'.2) (by rw [q.2.2, q'.2.2]; rfl)) fun vs σ H Q ⟨as, m, r, ds, r', hs, sr, rs, e, k⟩ => ?_
      cases ds with
      | nil => simp [asgTs] at e
      | cons d ds =>
        simp only [asgTs] at e
        obtain ⟨r1, e1, e2⟩ := Option.bind_eq_some_iff.mp e
        cases rs with
        | @cons v _ vs' _ rv rs =>
          exact ⟨v, vs', rfl, as, m, r, d, r1, hs, sr, rv, e1, fun σ1 s1 p1 => ⟨as, m, r1, ds, r', hs, s1, rs, e2, fun σ2 s2 p2 => k σ2 s2 (by rw [slotss]; exact p1.trans p2)⟩⟩
end
end
end DV

end
section
set_option Elab.async false
set_option linter.all false
set_option maxRecDepth 100000
set_option autoImplicit false
/-! Iterators, loops, comprehensions. -/
namespace DV
open PySem PySem.Spec PyProof.Rows L2
/-- what an iterator gives: the source's items, while the source stands -/
def Walked (K : PySem.W.Frag) (as : Pl) (H : Hp) (J : It) (src : Src) : Prop :=
  ∃ (G : Hp → Prop) (Y : Nat → Hp → V → Hp → Prop), Walk J src.items.length G Y ∧ ∀ as1 m1 H1, Ext as H as1 H1 → HS K as1 m1 H1 → src.still m1 → G H1 ∧
    ∀ i x H2, i < src.items.length → Y i H1 x H2 → Ext as1 H1 as1 H2 ∧ HS K as1 m1 H2 ∧ ∃ d, src.items[i]? = some d ∧ Rep K as1 H2 x d
abbrev PostI (K : PySem.W.Frag) := Post (α := Src) (β := It) K (Walked K)
def RI (K : PySem.W.Frag) (ev : Fr → Store → Res (Src × Store)) : TI := fun s H R => ∃ as r m, HS K as m H ∧ SR K as H s r ∧ PostI K as H (ev r m) R
theorem PI.imp {X : Cx} {tg e : Expr} {t t' : TI} (h : PI X tg e t) (k : ∀ s H R, t' s H R → t s H R) : PI X tg e t' := ⟨fun pins s σ H R I hw => h.run pins s σ H R I (k _ _ _ hw)⟩
theorem PI.or {X : Cx} {tg e : Expr} {t t' : TI} (h : PI X tg e t) (h' : PI X tg e t') : PI X tg e (fun s H R => t s H R ∨ t' s H R) := ⟨fun pins s σ H R I hw => hw.elim (h.run pins s σ H R I) (h'.run pins s σ H R I)⟩
section
variable {K : PySem.W.Frag} {as : Pl} {H : Hp} {m : Store}
theorem walked_seqL {a : Addr} {d : D} {xs : List D} (r : Rep K as H (.ref a) d) (nt : tupV d = none) : Walked K as H (Itl K a) ⟨xs, fun m' => seqV m' d = some xs⟩ := by
  refine ⟨fun H => ∃ vs, SqL K H a vs ∧ vs.length = xs.length, fun i H x H' => H' = H ∧ ∀ vs, SqL K H a vs → vs[i]? = some x, ⟨fun i H hi ⟨vs, h, l⟩ => ⟨vs, vs[i]'(by rw [l]; exact hi), h, by simp⟩, fun H ⟨vs, h, l⟩ => ⟨vs, h, by rw [l]; exact Nat.le_refl _⟩, fun i H x H' _ _ y => y⟩, fun as1 m1 H1 ex hs st => ?_⟩
  have st' : lstV m1 d = some xs := by
    cases d <;> first | exact st | (simp [tupV] at nt)
  obtain ⟨b, vs, e1, h, rs⟩ := lstV_rep hs (r.ext ex) st'
  cases e1
  refine ⟨⟨vs, h, rs.length⟩, fun i x H2 hi ⟨e2, y⟩ => ?_⟩
  subst e2
  exact ⟨Ext.refl _ _, hs, rs.get' (y vs h)⟩
theorem walked_seqT {a : Addr} {xs : List D} (r : Rep K as H (.ref a) (.tup xs)) : Walked K as H (Itt K a) ⟨xs, fun m' => seqV m' (.tup xs) = some xs⟩ := by
  refine ⟨fun H => ∃ vs, SqT K H a vs ∧ vs.length = xs.length, fun i H x H' => H' = H ∧ ∀ vs, SqT K H a vs → vs[i]? = some x, ⟨fun i H hi ⟨vs, h, l⟩ => ⟨vs, vs[i]'(by rw [l]; exact hi), h, by simp⟩, fun H ⟨vs, h, l⟩ => ⟨vs, h, by rw [l]; exact Nat.le_refl _⟩, fun i H x H' _ _ y => y⟩, fun as1 m1 H1 ex hs st => ?_⟩
  obtain ⟨b, vs, e1, h, rs⟩ := tup_rep (r.ext ex)
  cases e1
  refine ⟨⟨vs, h, rs.length⟩, fun i x H2 hi ⟨e2, y⟩ => ?_⟩
  subst e2
  exact ⟨Ext.refl _ _, hs, rs.get' (y vs h)⟩
theorem walked_rng {lo : Int} {n : Nat} : Walked K as H (Itr lo n) ⟨rngL lo n 1, fun _ => True⟩ := by
  have hl : (rngL lo n 1).length = n := by simp [rngL]
  refine ⟨fun _ => True, YFn fun i => .int (lo + i), by show Walk _ (rngL lo n 1).length _ _; rw [hl]; exact walk_range, fun as1 m1 H1 ex hs st => ⟨trivial, fun i x H2 hi ⟨e2, y⟩ => ?_⟩⟩
  subst e2 y
  change i < (rngL lo n 1).length at hi
  rw [hl] at hi
  exact ⟨Ext.refl _ _, hs, .int (lo + i), by simp [rngL, hi], .int _⟩
theorem walked_rngC {lo c : Int} {n : Nat} : Walked K as H (Itc lo c n) ⟨rngL lo n c, fun _ => True⟩ := by
  have hl : (rngL lo n c).length = n := by simp [rngL]
  refine ⟨fun _ => True, YFn fun i => .int (lo + (i : Nat) * c), by show Walk _ (rngL lo n c).length _ _; rw [hl]; exact walk_rangeC, fun as1 m1 H1 ex hs st => ⟨trivial, fun i x H2 hi ⟨e2, y⟩ => ?_⟩⟩
  subst e2 y
  change i < (rngL lo n c).length at hi
  rw [hl] at hi
  exact ⟨Ext.refl _ _, hs, .int (lo + (i : Nat) * c), by simp [rngL, hi], .int _⟩
theorem walked_str {z : Str} : Walked K as H (Its z) ⟨z.cps.toList.map sign, fun _ => True⟩ := by
  have hl : (z.cps.toList.map sign).length = z.cps.size := by simp
  refine ⟨fun _ => True, fun i H v H' => H' = H ∧ ∃ c, z.cps[i]? = some c ∧ v = .str ⟨#[c]⟩, by show Walk _ (z.cps.toList.map sign).length _ _; rw [hl]; exact walk_str, fun as1 m1 H1 ex hs st => ⟨trivial, fun i x H2 hi ⟨e2, c, y, e3⟩ => ?_⟩⟩
  subst e2 e3
  exact ⟨Ext.refl _ _, hs, sign c, by simp [List.getElem?_map, y], .str _⟩
theorem pairs_get : ∀ (xs : List D) (k i : Nat), (pairs k xs)[i]? = (xs[i]?).map fun d => .tup [.int ((k + i : Nat) : Int), d]
  | [], k, i => by simp [pairs]
  | x :: xs, k, 0 => by simp [pairs]
  | x :: xs, k, i + 1 => by
    simp only [pairs, List.getElem?_cons_succ, pairs_get xs (k + 1) i]
    rw [show k + 1 + i = k + (i + 1) by omega]
theorem pairs_len : ∀ (xs : List D) (k : Nat), (pairs k xs).length = xs.length
  | [], k => rfl
  | x :: xs, k => by simp [pairs, pairs_len xs]
theorem pair_rep {as1 : Pl} {m1 : Store} {H1 : Hp} (hs : HS K as1 m1 H1) {T : Addr} (hT : H1 T = none) {x y : V} {c d : D} (rx : Rep K as1 H1 x c) (ry : Rep K as1 H1 y d) :
    Ext as1 H1 as1 (upd H1 T (.tup [x, y])) ∧ HS K as1 m1 (upd H1 T (.tup [x, y])) ∧ Rep K as1 (upd H1 T (.tup [x, y])) (.ref T) (.tup [c, d]) :=
  ⟨Ext.new hT, hs.new hT, .tup upd_same (hs.freshA hT) (.cons (rx.ext (Ext.new hT)) (.cons (ry.ext (Ext.new hT)) .nil))⟩
theorem walked_enum {a : Addr} {d : D} {xs : List D} (r : Rep K as H (.ref a) d) : Walked K as H (Ite K a) ⟨enumL xs, fun m' => lstV m' d = some xs⟩ := by
  have hl : (enumL xs).length = xs.length := pairs_len xs 0
  refine ⟨fun H => ∃ vs, SqL K H a vs ∧ vs.length = xs.length, fun i H x H' => ∀ vs, SqL K H a vs → vs.length = xs.length → YPair (fun i => some (.int (i : Nat))) (fun i => vs[i]?) i H x H', ⟨fun i H hi ⟨vs, h, l⟩ => ?_, fun H ⟨vs, h, l⟩ => ?_, fun i H x H' hi ⟨vs0, h0, l0⟩ y vs h l => ?_⟩, fun as1 m1 H1 ex hs st => ?_⟩
  · exact walk_enum.goes i H (by change i < (enumL xs).length at hi; rw [hl, ← l] at hi; exact hi) h
  · have := (walk_enum (K := K) (a := a) (xs := vs)).stops H h
    rw [l] at this
    show (Ite K a).stop (enumL xs).length H
    rw [hl]; exact this
  · have hi' : i < xs.length := by rw [← hl]; exact hi
    exact walk_enum.yields i H x H' (by omega) h y
  · obtain ⟨b, vs, e1, h, rs⟩ := lstV_rep hs (r.ext ex) st
    cases e1
    refine ⟨⟨vs, h, rs.length⟩, fun i x H2 hi y => ?_⟩
    obtain ⟨T, p, q, rfl, hT, rfl, e2, e3⟩ := y vs h rs.length
    cases e2
    obtain ⟨d', hd, rd⟩ := rs.get' e3
    obtain ⟨g1, g2, g3⟩ := pair_rep hs hT (.int (i : Int)) rd
    exact ⟨g1, g2, _, by show (pairs 0 xs)[i]? = _; rw [pairs_get, hd]; simp, g3⟩
end
/-! ### range with steps up -/
theorem rngN_size {i j c : Int} (hc : 1 ≤ c) : Builtin.Range.rangeSize i j c = (rngN i j c : Nat) := by
  unfold Builtin.Range.rangeSize rngN
  rw [if_pos (show c > 0 by omega)]
  by_cases h : i < j
  · have e : (j - i + c - 1) = (j - i - 1) + 1 * c := by omega
    have := Int.ediv_nonneg (show 0 ≤ j - i - 1 by omega) (show 0 ≤ c by omega)
    rw [if_pos h, if_pos (show 0 < c by omega), e, Int.add_mul_ediv_right _ _ (by omega)]
    omega
  · have : (j - i + c - 1) / c < 1 := Int.ediv_lt_of_lt_mul (by omega) (by omega)
    rw [if_neg h, if_pos (show 0 < c by omega)]
    omega
theorem rngN_le {i j c : Int} (hc : 1 ≤ c) : (rngN i j c : Int) ≤ (j - i).toNat := by
  rw [← rngN_size hc]
  unfold Builtin.Range.rangeSize
  rw [if_pos (show c > 0 by omega)]
  by_cases h : i < j
  · rw [if_pos h]
    have := Int.ediv_le_self c (show 0 ≤ j - i - 1 by omega)
    omega
  · rw [if_neg h]; omega
theorem small_pos {a b c : Int} (ha : -(2 ^ 61) ≤ a) (ha' : a < 2 ^ 61) (hb : -(2 ^ 61) ≤ b) (hb' : b < 2 ^ 61) (hc : 1 ≤ c) (hc' : c ≤ 1000) : Builtin.Range.small a b c = true := by
  have h1 := rngN_le (i := a) (j := b) hc
  unfold Builtin.Range.small
  rw [rngN_size hc]
  simp only [Builtin.Range.rangeFitsLong, Bool.and_eq_true, Bool.or_eq_true, decide_eq_true_eq, beq_iff_eq, show c > 0 from by omega, if_true]
  omega
theorem RgC_pos {i j c : Int} (ha : -(2 ^ 61) ≤ i) (ha' : i < 2 ^ 61) (hb : -(2 ^ 61) ≤ j) (hb' : j < 2 ^ 61) (hc : 1 ≤ c) (hc' : c ≤ 1000) : RgC i j c (rngN i j c) :=
  ⟨by omega, by omega, small_pos ha ha' hb hb' hc hc', rngN_size hc⟩
end DV

end
section
set_option Elab.async false
set_option linter.all false
set_option maxRecDepth 100000
set_option autoImplicit false
/-! Statements' ends; loops; comprehensions. -/
namespace DV
open PySem PySem.Spec PyProof.Rows L2
def Fin (K : PySem.W.Frag) (as : Pl) (σ : St) (H : Hp) (D : Ends) : Fl → Prop
  | .next => D.nx σ H
  | .brk => D.bk σ H
  | .cont => D.ct σ H
  | .ret d => ∀ v, Rep K as H v d → D.rt v H
/-- what follows a statement: W takes what it raises -/
def PostF (K : PySem.W.Frag) (Wx : WX) (as : Pl) (H : Hp) (R : RS) (D : Ends) : Prop := match R with
  | .ok (fl, r, m) => ∀ as' σ' H', Ext as H as' H' → HS K as' m H' → SR K as' H' σ' r → Fin K as' σ' H' D fl
  | .exc c fs r m => ∀ as' σ' H' cls d, Ext as H as' H' → HS K as' m H' → SR K as' H' σ' r → XR K as' H' cls d c fs → Wx cls d σ' H'
  | .err => False
def RSs (K : PySem.W.Frag) (Wx : WX) (ev : Fr → Store → RS) : TS := fun D σ H => ∃ as r m, HS K as m H ∧ SR K as H σ r ∧ PostF K Wx as H (ev r m) D
section
variable {K : PySem.W.Frag} {Wx : WX} {as as1 : Pl} {H H1 : Hp} {m : Store} {En : Ends}
theorem PostF.later {R : RS} (e : Ext as H as1 H1) (h : PostF K Wx as H R En) : PostF K Wx as1 H1 R En := by
  cases R with
  | ok p => exact fun as' σ' H' e2 => h as' σ' H' (e.trans e2)
  | exc c fs r m => exact fun as' σ' H' cls d e2 => h as' σ' H' cls d (e.trans e2)
  | err => exact h
theorem PostF.needs {c : Prop} [Decidable c] {R : RS} (h : PostF K Wx as H (need c R) En) : c ∧ PostF K Wx as H R En := by
  unfold need at h
  by_cases q : c
  · rw [if_pos q] at h; exact ⟨q, h⟩
  · rw [if_neg q] at h; exact h.elim
theorem PostF.ofO {α : Type} {o : Option α} {f : α → RS} (h : PostF K Wx as H ((ofO o).bind f) En) : ∃ a, o = some a ∧ PostF K Wx as H (f a) En := by
  cases o with
  | none => exact h.elim
  | some a => exact ⟨a, rfl, h⟩
theorem Post.ofO {α γ δ : Type} {rel : Pl → Hp → δ → γ → Prop} {o : Option α} {f : α → Res (γ × Store)} {Q : δ → Hp → Prop} (h : Post K rel as H ((ofO o).bind f) Q) : ∃ a, o = some a ∧ Post K rel as H (f a) Q := by
  cases o with
  | none => exact h.elim
  | some a => exact ⟨a, rfl, h⟩
/-- an expression's result, out of which nothing is raised, then a statement's -/
theorem PostF.bind {α β : Type} {rel : Pl → Hp → β → α → Prop} {r : Res (α × Store)} {f : α × Store → RS} (h : PostF K Wx as H ((noX r).bind f) En) :
    Post K rel as H r fun v H1 => ∃ as1 m1 a, Ext as H as1 H1 ∧ HS K as1 m1 H1 ∧ rel as1 H1 v a ∧ PostF K Wx as1 H1 (f (a, m1)) En := by
  cases r with
  | ok p =>
    obtain ⟨a, m⟩ := p
    intro as' v H' e hs rl
    exact ⟨as', m, a, e, hs, rl, h.later e⟩
  | exc _ _ _ => exact h.elim
  | err => exact h.elim
/-- a statement, then another's -/
theorem PostF.seq {R : RS} {f : Fl × Fr × Store → RS} {En' : Ends} (h : PostF K Wx as H (R.bind f) En)
    (k : ∀ fl r m as' σ' H', Ext as H as' H' → HS K as' m H' → SR K as' H' σ' r → PostF K Wx as' H' (f (fl, r, m)) En → Fin K as' σ' H' En' fl) : PostF K Wx as H R En' := by
  cases R with
  | ok p =>
    obtain ⟨fl, r, m⟩ := p
    exact fun as' σ' H' e hs sr => k fl r m as' σ' H' e hs sr (h.later e)
  | exc _ _ _ => exact h
  | err => exact h.elim
theorem drop_cons {α : Type} {xs : List α} {i : Nat} {d : α} (e : xs[i]? = some d) : xs.drop i = d :: xs.drop (i + 1) := by
  obtain ⟨h, e⟩ := List.getElem?_eq_some_iff.mp e
  rw [← e]; exact List.drop_eq_getElem_cons h
open Classical in
/-- a for loop -/
theorem for_D {t : T} {body : Fr → Store → RS} {σ : St} {r : Fr} {J : It} {src : Src} (hs : HS K as m H) (sr : SR K as H σ r) (w : Walked K as H J src)
    (h : PostF K Wx as H (loopF src.still (fun x r m => (ofO (asgT m t x r)).bind fun r' => body r' m) src.items r m) En) :
    ∃ W : Nat → Nat → St → Hp → Prop, (∃ m, W 0 m σ H) ∧ ∀ i m σ H, W i m σ H →
      (J.stop i H ∧ En.nx σ H) ∨ (J.go i H ∧ ∃ N : St → Hp → Prop, (∀ σ' H', N σ' H' → ∃ m', m' < m ∧ W (i + 1) m' σ' H') ∧ ∀ x H', J.yld i H x H' → RG K t x σ H' fun σ2 H2 => RSs K Wx body { En with nx := N, ct := N, bk := En.nx } σ2 H2) := by
  obtain ⟨G, Y, wk, cl⟩ := w
  have hn : ∀ {xs : List D} {r : Fr} {m : Store} {as1 : Pl} {H1 : Hp}, PostF K Wx as1 H1 (loopF src.still (fun x r m => (ofO (asgT m t x r)).bind fun r' => body r' m) xs r m) En → src.still m := fun {xs r m as1 H1} h => by
    cases xs with
    | nil => exact h.needs.1
    | cons x xs => exact h.needs.1
  refine for_it wk (fun i σ1 H1 => ∃ as1 r1 m1, Ext as H as1 H1 ∧ HS K as1 m1 H1 ∧ SR K as1 H1 σ1 r1 ∧ PostF K Wx as1 H1 (loopF src.still (fun x r m => (ofO (asgT m t x r)).bind fun r' => body r' m) (src.items.drop i) r1 m1) En)
    ⟨as, r, m, Ext.refl _ _, hs, sr, h⟩ ?_ ?_ ?_
  · rintro i σ1 H1 hi ⟨as1, r1, m1, e, hs1, sr1, q⟩
    exact (cl as1 m1 H1 e hs1 (hn q)).1
  · rintro i x σ1 H1 H2 hi ⟨as1, r1, m1, e, hs1, sr1, q⟩ y
    obtain ⟨e2, hs2, d, hd, rd⟩ := (cl as1 m1 H1 e hs1 (hn q)).2 i x H2 hi y
    rw [drop_cons hd] at q
    have q := (q.needs.2).later e2
    cases ea : asgT m1 t d r1 with
    | none => dsimp only at q; rw [ea] at q; exact q.elim
    | some r' =>
      dsimp only at q
      rw [ea] at q
      change PostF K Wx as1 H2 ((body r' m1).bind _) En at q
      refine ⟨as1, m1, r1, d, r', hs2, sr1.ext e2, rd, ea, fun σ2 s2 _ => ⟨as1, r', m1, hs2, s2, q.seq fun fl r3 m3 as3 σ3 H3 e3 hs3 sr3 q3 => ?_⟩⟩
      have e4 := (e.trans e2).trans e3
      cases fl with
      | next => exact ⟨as3, r3, m3, e4, hs3, sr3, q3⟩
      | cont => exact ⟨as3, r3, m3, e4, hs3, sr3, q3⟩
      | brk => exact q3 as3 σ3 H3 (Ext.refl _ _) hs3 sr3
      | ret d => exact q3 as3 σ3 H3 (Ext.refl _ _) hs3 sr3
  · rintro σ1 H1 ⟨as1, r1, m1, e, hs1, sr1, q⟩
    rw [List.drop_length] at q
    exact q.needs.2 as1 σ1 H1 (Ext.refl _ _) hs1 sr1
end
/-! ### comprehensions -/
open Classical in
theorem loopL_len {src : Store → Prop} {turn : D → Store → Res (Option D × Store)} : ∀ {xs acc : List D} {m : Store} {acc' : List D} {m' : Store}, loopL src turn xs acc m = .ok (acc', m') → acc.length ≤ acc'.length
  | [], acc, m, acc', m', h => by
    rw [loopL] at h
    obtain ⟨_, h⟩ := need_ok h
    cases h
    exact Nat.le_refl _
  | x :: xs, acc, m, acc', m', h => by
    rw [loopL] at h
    obtain ⟨_, h⟩ := need_ok h
    obtain ⟨⟨o, m1⟩, _, h⟩ := bind_ok_of h
    cases o with
    | none => exact loopL_len h
    | some y =>
      have := loopL_len h
      simp at this
      omega
theorem wipe_get (r : Fr) : ∀ (vs : List Nat) (i : Nat), (DV.wipe r vs)[i]? = if i ∈ vs then (r[i]?).map (fun _ => none) else r[i]?
  | [], i => by simp [DV.wipe]
  | v :: vs, i => by
    rw [DV.wipe]
    by_cases h : v = i
    · subst h
      by_cases hl : v < (DV.wipe r vs).length
      · rw [List.getElem?_set_self hl]
        have hl' : v < r.length := by
          have : ∀ vs : List Nat, (DV.wipe r vs).length = r.length := fun vs => by induction vs with | nil => rfl | cons a b ih => rw [DV.wipe, List.length_set, ih]
          rwa [this] at hl
        simp [hl']
      · have hl' : ¬ v < r.length := by
          have : ∀ vs : List Nat, (DV.wipe r vs).length = r.length := fun vs => by induction vs with | nil => rfl | cons a b ih => rw [DV.wipe, List.length_set, ih]
          rwa [this] at hl
        rw [List.getElem?_eq_none (by rw [List.length_set]; omega), List.getElem?_eq_none (by omega)]
        simp
    · rw [List.getElem?_set_ne h, wipe_get r vs i]
      by_cases hi : i ∈ vs
      · simp [hi]
      · simp [hi, Ne.symm h]
theorem wipe_getV (r : St) : ∀ (vs : List Nat) (i : Nat), (L2.wipe r vs)[i]? = if i ∈ vs then (r[i]?).map (fun _ => none) else r[i]?
  | [], i => by simp [L2.wipe]
  | v :: vs, i => by
    rw [L2.wipe]
    by_cases h : v = i
    · subst h
      by_cases hl : v < (L2.wipe r vs).length
      · rw [List.getElem?_set_self hl]
        have hl' : v < r.length := by rwa [wipe_length] at hl
        simp [hl']
      · have hl' : ¬ v < r.length := by rwa [wipe_length] at hl
        rw [List.getElem?_eq_none (by rw [List.length_set]; omega), List.getElem?_eq_none (by omega)]
        simp
    · rw [List.getElem?_set_ne h, wipe_getV r vs i]
      by_cases hi : i ∈ vs
      · simp [hi]
      · simp [hi, Ne.symm h]
theorem dwipe_length (r : Fr) : ∀ vs : List Nat, (DV.wipe r vs).length = r.length
  | [] => rfl
  | v :: vs => by rw [DV.wipe, List.length_set, dwipe_length r vs]
section
variable {K : PySem.W.Frag} {as : Pl} {H : Hp} {m : Store}
theorem SR.wipe {σ : St} {r : Fr} (h : SR K as H σ r) (vs : List Nat) : SR K as H (L2.wipe σ vs) (DV.wipe r vs) := by
  refine ⟨by rw [wipe_length, dwipe_length]; exact h.len, fun i d e => ?_⟩
  rw [wipe_get] at e
  rw [wipe_getV]
  by_cases hi : i ∈ vs
  · rw [if_pos hi] at e
    cases q : r[i]? with
    | none => rw [q] at e; cases e
    | some o => rw [q] at e; cases e
  · rw [if_neg hi] at e
    rw [if_neg hi]
    exact h.at_ i d e
theorem wipe_same {σ σ2 : St} {vs ks : List Nat} (h : SlotP ks (L2.wipe σ vs) σ2) (hk : ∀ i ∈ ks, i ∈ vs) : L2.wipe σ2 vs = L2.wipe σ vs := by
  apply List.ext_getElem?
  intro i
  rw [wipe_getV, wipe_getV]
  by_cases hi : i ∈ vs
  · rw [if_pos hi, if_pos hi]
    have hl : σ2.length = σ.length := by rw [h.1, wipe_length]
    by_cases hb : i < σ.length
    · rw [List.getElem?_eq_getElem hb, List.getElem?_eq_getElem (by omega)]; rfl
    · rw [List.getElem?_eq_none (by omega), List.getElem?_eq_none (by omega)]
  · rw [if_neg hi, if_neg hi, h.2 i fun q => hi (hk i q), wipe_getV, if_neg hi]
/-- D hidden -/
theorem hide (hs : HS K as m H) {p : Addr} (hp : H p = none) {o : HO} : Ext as H ⟨as.l, p :: as.hid⟩ (upd H p o) ∧ HS K ⟨as.l, p :: as.hid⟩ m (upd H p o) := by
  have n := hs.fresh hp
  have e : Ext as H ⟨as.l, p :: as.hid⟩ (upd H p o) := ⟨⟨[], [p], by simp, by simp, fun a ha => by rw [List.mem_singleton] at ha; subst ha; exact ⟨n, hp⟩⟩, fun a u h _ => by rw [upd_ne (ne_of_none h hp)]; exact h⟩
  refine ⟨e, hs.len, hs.nd, fun l a u h1 h2 => (hs.ob l a u h1 h2).ext e (upd_ne fun q => n (q ▸ List.mem_of_getElem? h1)), fun a ha => ?_⟩
  rcases List.mem_cons.mp ha with rfl | ha
  · exact ⟨n, o, upd_same⟩
  · obtain ⟨h1, u, h2⟩ := hs.hid a ha
    exact ⟨h1, u, by rw [upd_ne (ne_of_none h2 hp)]; exact h2⟩
theorem ObR.move {as1 : Pl} {H1 : Hp} {a : Addr} {o : SO} (hl : ∀ (l : Nat) (a : Addr), as.l[l]? = some a → as1.l[l]? = some a) (fr : ∀ (a : Addr) (o : HO), H a = some o → a ∉ as.all → H1 a = some o ∧ a ∉ as1.all) (h : ObR K as H a o) (k : H1 a = H a) : ObR K as1 H1 a o := by
  cases o with
  | lst xs => obtain ⟨vs, h1, h2⟩ := h; exact ⟨vs, k.trans h1, h2.move hl fr⟩
  | dct xs => obtain ⟨vs, h1, h2⟩ := h; exact ⟨vs, k.trans h1, h2.move hl fr⟩
  | ins _ _ => obtain ⟨C, dx, vs, h1, h2, h3⟩ := h; exact ⟨C, dx, vs, k.trans h1, h2, h3.move hl fr⟩
  | exn _ _ => obtain ⟨C, d, h1, h2, h3⟩ := h; exact ⟨C, d, k.trans h1, h2, h3.move hl fr⟩
theorem hid_put (hs : HS K as m H) {p : Addr} (hp : p ∈ as.hid) (o : HO) :
    (∀ (a : Addr) (u : HO), H a = some u → a ∉ as.all → upd H p o a = some u ∧ a ∉ as.all) ∧ HS K as m (upd H p o) := by
  have fr : ∀ (a : Addr) (u : HO), H a = some u → a ∉ as.all → upd H p o a = some u ∧ a ∉ as.all := fun a u h n => ⟨by rw [upd_ne (by rintro rfl; exact n (List.mem_append_right _ hp))]; exact h, n⟩
  refine ⟨fr, hs.len, hs.nd, fun l a u h1 h2 => (hs.ob l a u h1 h2).move (fun _ _ h => h) fr (upd_ne ?_), fun a ha => ?_⟩
  · rintro rfl
    exact (hs.hid _ hp).1 (List.mem_of_getElem? h1)
  · obtain ⟨h1, u, h2⟩ := hs.hid a ha
    by_cases q : a = p
    · subst q; exact ⟨h1, o, upd_same⟩
    · exact ⟨h1, u, by rw [upd_ne q]; exact h2⟩
theorem hid_keep {as2 as3 : Pl} {H2 H3 : Hp} (e : Ext as2 H2 as3 H3) {p : Addr} {o : HO} (hp : H2 p = some o) {l : List Addr} (h : ∃ ks, as2.hid = ks ++ p :: l ∧ p ∉ ks) : ∃ ks, as3.hid = ks ++ p :: l ∧ p ∉ ks := by
  obtain ⟨ns, hs, rfl, _, f⟩ := e.pre
  obtain ⟨ks, e1, n⟩ := h
  refine ⟨hs ++ ks, by show hs ++ as2.hid = _; rw [e1]; simp, fun z => ?_⟩
  rcases List.mem_append.mp z with z | z
  · have := (f p z).2
    rw [hp] at this; cases this
  · exact n z
/-- the new list comes to light -/
theorem unhide {as2 : Pl} {m2 : Store} {H1 H2 : Hp} {f : Bool} {p : Addr} {vs : List V} {acc : List D} {Q : VK} {as1 : Pl} (hD : H1 p = none) (n1 : p ∉ as1.l)
    (e : Ext as1 H1 as2 H2) (hk : ∃ ks, as2.hid = ks ++ p :: as1.hid ∧ p ∉ ks) (hs2 : HS K as2 m2 H2) (hp : H2 p = some (.lst vs)) (r : Reps K as2 H2 vs acc)
    (q : PostV K as1 H1 (newL f acc m2) Q) (h1 : ∀ a ∈ as1.hid, ∃ o, H1 a = some o) : Q (.ref p) H2 := by
  obtain ⟨ns, ks', e0, f1', f2⟩ := e.pre
  obtain ⟨ks, e1, pk⟩ := hk
  have f2' : ∀ a ∈ ks, a ∉ as1.l ∧ H1 a = none := fun a ha => by
    refine f2 a ?_
    rw [e0] at e1
    have e2 : ks' ++ as1.hid = (ks ++ [p]) ++ as1.hid := by simpa using e1
    rw [List.append_cancel_right e2]
    exact List.mem_append_left _ ha
  obtain ⟨l2, hid2⟩ := as2
  simp only [Pl.mk.injEq] at e0
  obtain ⟨rfl, _⟩ := e0
  change hid2 = _ at e1
  subst e1
  obtain ⟨_, q⟩ := q.needs
  have ph : p ∉ as1.hid := fun h => by obtain ⟨o, ho⟩ := h1 p h; rw [hD] at ho; cases ho
  have pl : p ∉ as1.l ++ ns := fun h => (hs2.hid p (by simp)).1 h
  have fr : ∀ a o, H1 a = some o → a ∉ as1.l → H2 a = some o := fun a o h n => e.fr a o h n
  cases f with
  | true =>
    have mv : ∀ (a : Addr) (o : HO), H2 a = some o → a ∉ (⟨as1.l ++ ns, ks ++ p :: as1.hid⟩ : Pl).all → H2 a = some o ∧ a ∉ (⟨as1.l ++ (ns ++ [p]), ks ++ as1.hid⟩ : Pl).all := fun a o h n => ⟨h, fun z => n (by simp only [Pl.all, List.mem_append, List.mem_cons, List.not_mem_nil, or_false] at z ⊢; grind)⟩
    have hl : ∀ (l : Nat) (a : Addr), (as1.l ++ ns)[l]? = some a → (as1.l ++ (ns ++ [p]))[l]? = some a := fun l a h => by
      rw [← List.append_assoc, List.getElem?_append_left (List.getElem?_eq_some_iff.mp h).1]; exact h
    have len2 : (as1.l ++ ns).length = m2.length := hs2.len
    refine q ⟨as1.l ++ (ns ++ [p]), ks ++ as1.hid⟩ _ _ ⟨⟨ns ++ [p], ks, rfl, fun a ha => ?_, f2'⟩, fr⟩ ⟨?_, ?_, fun l a o g1 g2 => ?_, fun a ha => ?_⟩ ?_
    · rcases List.mem_append.mp ha with ha | ha
      · exact f1' a ha
      · rw [List.mem_singleton] at ha; subst ha; exact ⟨n1, hD⟩
    · simp at len2 ⊢; omega
    · show (as1.l ++ (ns ++ [p])).Nodup
      rw [← List.append_assoc, List.nodup_append]
      exact ⟨hs2.nd, by simp, fun a ha b hb => by rw [List.mem_singleton] at hb; subst hb; rintro rfl; exact pl ha⟩
    · change (as1.l ++ (ns ++ [p]))[l]? = some a at g1
      by_cases hlt : l < (as1.l ++ ns).length
      · rw [← List.append_assoc, List.getElem?_append_left hlt] at g1
        rw [List.getElem?_append_left (by omega)] at g2
        exact (hs2.ob l a o g1 g2).move hl mv rfl
      · have : l = (as1.l ++ ns).length := by
          have := (List.getElem?_eq_some_iff.mp g1).1
          simp at this hlt ⊢; omega
        subst this
        rw [← List.append_assoc, List.getElem?_append_right (Nat.le_refl _)] at g1
        rw [len2, List.getElem?_append_right (Nat.le_refl _)] at g2
        simp at g1 g2
        subst g1 g2
        exact ⟨vs, hp, r.move hl mv⟩
    · have : a ∈ ks ++ p :: as1.hid := by simp only [List.mem_append, List.mem_cons] at ha ⊢; grind
      obtain ⟨z1, z2⟩ := hs2.hid a this
      refine ⟨fun z => ?_, z2⟩
      change a ∈ as1.l ++ (ns ++ [p]) at z
      rw [← List.append_assoc] at z
      rcases List.mem_append.mp z with z | z
      · exact z1 z
      · rw [List.mem_singleton] at z; subst z
        rcases List.mem_append.mp ha with z | z
        · exact pk z
        · exact ph z
    · refine .loc ?_
      show (as1.l ++ (ns ++ [p]))[m2.length]? = some p
      rw [← List.append_assoc, ← len2, List.getElem?_append_right (Nat.le_refl _)]
      simp
  | false =>
    have mv : ∀ (a : Addr) (o : HO), H2 a = some o → a ∉ (⟨as1.l ++ ns, ks ++ p :: as1.hid⟩ : Pl).all → H2 a = some o ∧ a ∉ (⟨as1.l ++ ns, ks ++ as1.hid⟩ : Pl).all := fun a o h n => ⟨h, fun z => n (by simp only [Pl.all, List.mem_append, List.mem_cons, List.not_mem_nil, or_false] at z ⊢; grind)⟩
    refine q ⟨as1.l ++ ns, ks ++ as1.hid⟩ _ _ ⟨⟨ns, ks, rfl, f1', f2'⟩, fr⟩ ⟨hs2.len, hs2.nd, fun l a o g1 g2 => ObR.move (as := ⟨as1.l ++ ns, ks ++ p :: as1.hid⟩) (as1 := ⟨as1.l ++ ns, ks ++ as1.hid⟩) (fun _ _ h => h) mv (hs2.ob l a o g1 g2) rfl, fun a ha => hs2.hid a (by simp only [List.mem_append, List.mem_cons] at ha ⊢; grind)⟩ ?_
    refine .lst hp (fun z => ?_) (Reps.move (as := ⟨as1.l ++ ns, ks ++ p :: as1.hid⟩) (as1 := ⟨as1.l ++ ns, ks ++ as1.hid⟩) (fun _ _ h => h) mv r)
    rcases List.mem_append.mp z with z | z
    · exact pl z
    · rcases List.mem_append.mp z with z | z
      · exact pk z
      · exact ph z
open Classical in
/-- a comprehension's loop -/
theorem lc_D {t : T} {own : List Nat} (hown : ∀ i ∈ t.slots, i ∈ own) {f : Bool} {cond : Fr → Store → Res (Bool × Store)} {elt : Fr → Store → RD} {σ : St} {r : Fr} {J : It} {src : Src} {Q : VK} (hs : HS K as m H) (sr : SR K as H σ r) (w : Walked K as H J src)
    (h : PostV K as H ((loopL src.still (fun x m2 => (ofO (asgT m2 t x (DV.wipe r own))).bind fun r2 => (cond r2 m2).bind fun (b, m3) => if b then (elt r2 m3).bind fun (y, m4) => .ok (some y, m4) else .ok (none, m3)) src.items [] m).bind fun (acc, m5) => newL f acc m5) Q) (p : Addr) (hp : H p = none) :
    ∃ W : Nat → Nat → Hp → Prop, (∃ m, W 0 m (upd H p (.lst []))) ∧ ∀ i m H, W i m H →
      (J.stop i H ∧ Q (.ref p) H) ∨ (J.go i H ∧ ∃ Nx : Hp → Prop, (∀ H', Nx H' → ∃ m', m' < m ∧ W (i + 1) m' H') ∧ ∀ x H', J.yld i H x H' → RG K t x (L2.wipe σ own) H' fun σ2 H2 => L2.wipe σ2 own = L2.wipe σ own ∧ RT K cond σ2 H2 fun b H3 =>
        if b = true then RE K elt σ2 H3 fun y H4 => ∃ acc, H4 p = some (.lst acc) ∧ acc.length < sizeLine ∧ Nx (upd H4 p (.lst (acc ++ [y]))) else Nx H3) := by
  obtain ⟨G, Y, wk, cl⟩ := w
  generalize hturn : (fun (x : D) (m2 : Store) => (ofO (asgT m2 t x (DV.wipe r own))).bind fun r2 => (cond r2 m2).bind fun (b, m3) => if b then (elt r2 m3).bind fun (y, m4) => (.ok (some y, m4) : Res (Option D × Store)) else .ok (none, m3)) = turn at h
  have hn : ∀ {xs acc : List D} {m : Store}, PostV K as H ((loopL src.still turn xs acc m).bind fun (acc, m5) => newL f acc m5) Q → src.still m := fun {xs acc m} h => by
    by_cases z : src.still m
    · exact z
    · cases xs <;> (rw [loopL] at h; unfold need at h; rw [if_neg z] at h; exact h.elim)
  obtain ⟨e0, hs0⟩ := hide hs hp (o := .lst [])
  have n1 := hs.fresh hp
  refine lc_it wk (fun i Hh => ∃ as2 m2 vs acc, Ext as H as2 Hh ∧ (∃ ks, as2.hid = ks ++ p :: as.hid ∧ p ∉ ks) ∧ HS K as2 m2 Hh ∧ Hh p = some (.lst vs) ∧ Reps K as2 Hh vs acc ∧
    PostV K as H ((loopL src.still turn (src.items.drop i) acc m2).bind fun (acc, m5) => newL f acc m5) Q) ⟨_, m, [], [], e0, ⟨[], rfl, by simp⟩, hs0, upd_same, .nil, h⟩ ?_ ?_ ?_
  · rintro i Hh hi ⟨as2, m2, vs, acc, e, hk, hs2, hv, rv, q⟩
    exact (cl as2 m2 Hh e hs2 (hn q)).1
  · rintro i x Hh H2 hi ⟨as2, m2, vs, acc, e, hk, hs2, hv, rv, q⟩ y
    have ph : p ∈ as2.hid := by obtain ⟨ks, z, _⟩ := hk; rw [z]; simp
    have pl : ∀ {as3 : Pl} {m3 : Store} {H3 : Hp}, HS K as3 m3 H3 → p ∈ as3.hid → p ∉ as3.l := fun h k => (h.hid p k).1
    have hh : ∀ {as3 as4 : Pl} {H3 H4 : Hp}, Ext as3 H3 as4 H4 → p ∈ as3.hid → p ∈ as4.hid := fun e k => by obtain ⟨ns, ks, rfl, _⟩ := e.pre; simp [k]
    obtain ⟨e2, hs3, d, hd, rd⟩ := (cl as2 m2 Hh e hs2 (hn q)).2 i x H2 hi y
    have hv2 : H2 p = some (.lst vs) := e2.fr _ _ hv (pl hs2 ph)
    have rv2 := rv.ext e2
    have eB := e.trans e2
    have st := hn q
    rw [drop_cons hd, loopL] at q
    unfold need at q
    rw [if_pos st] at q
    replace q := Post.noX2 q
    rw [← hturn] at q
    have sr2 : SR K as2 H2 (L2.wipe σ own) (DV.wipe r own) := (sr.ext eB).wipe own
    cases ea : asgT m2 t d (DV.wipe r own) with
    | none => dsimp only at q; rw [ea] at q; exact q.elim
    | some r2 =>
      dsimp only at q
      rw [ea] at q
      refine ⟨as2, m2, _, d, r2, hs3, sr2, rd, ea, fun σ2 s2 pp => ⟨wipe_same pp hown, as2, r2, m2, hs3, s2, ?_⟩⟩
      change PostV K as H ((((cond r2 m2).bind _).bind _).bind _) Q at q
      cases ec : cond r2 m2 with
      | exc _ _ _ => rw [ec] at q; exact q.elim
      | err => rw [ec] at q; exact q.elim
      | ok bm =>
        obtain ⟨b, m3⟩ := bm
        rw [ec] at q
        intro as3 b' H3 e3 hs4 eb
        subst eb
        have hv3 : H3 p = some (.lst vs) := e3.fr _ _ hv2 (pl hs3 ph)
        have rv3 := rv2.ext e3
        have ph3 := hh e3 ph
        cases b' with
        | false =>
          rw [hturn] at q
          exact ⟨as3, m3, vs, acc, eB.trans e3, hid_keep e3 hv2 (hid_keep e2 hv hk), hs4, hv3, rv3, q⟩
        | true =>
          refine ⟨as3, r2, m3, hs4, s2.ext e3, ?_⟩
          change PostV K as H ((((elt r2 m3).bind _).bind _).bind _) Q at q
          cases ee : elt r2 m3 with
          | exc _ _ _ => rw [ee] at q; exact q.elim
          | err => rw [ee] at q; exact q.elim
          | ok ym =>
            obtain ⟨yd, m4⟩ := ym
            rw [ee] at q
            rw [hturn] at q
            intro as4 yv H4 e4 hs5 ry
            have hv4 : H4 p = some (.lst vs) := e4.fr _ _ hv3 (pl hs4 ph3)
            have rv4 := rv3.ext e4
            have ph4 := hh e4 ph3
            change PostV K as H ((loopL src.still turn (src.items.drop (i + 1)) (acc ++ [yd]) m4).bind fun (acc, m5) => newL f acc m5) Q at q
            obtain ⟨fr, hs6⟩ := hid_put hs5 ph4 (.lst (vs ++ [yv]))
            refine ⟨vs, hv4, ?_, as4, m4, vs ++ [yv], acc ++ [yd], ?_, hid_keep e4 hv3 (hid_keep e3 hv2 (hid_keep e2 hv hk)), hs6, upd_same, (rv4.append (.cons ry .nil)).move (fun _ _ h => h) fr, q⟩
            · cases el : loopL src.still turn (src.items.drop (i + 1)) (acc ++ [yd]) m4 with
              | exc _ _ _ => rw [el] at q; exact q.elim
              | err => rw [el] at q; exact q.elim
              | ok am =>
                obtain ⟨acc', m5⟩ := am
                rw [el] at q
                have l1 := loopL_len el
                have l2 := (Post.needs q).1
                simp at l1
                have : sizeMax ≤ sizeLine := by decide
                rw [rv.length]
                omega
            · have eC := (eB.trans e3).trans e4
              exact ⟨eC.pre, fun a o h n => by rw [upd_ne (ne_of_none h hp)]; exact eC.fr a o h n⟩
  · rintro Hh ⟨as2, m2, vs, acc, e, hk, hs2, hv, rv, q⟩
    have st := hn q
    rw [List.drop_length, loopL] at q
    unfold need at q
    rw [if_pos st] at q
    exact unhide hp n1 e hk hs2 hv rv q fun a ha => (hs.hid a ha).2
end
end DV

end
section
set_option Elab.async false
set_option linter.all false
set_option maxRecDepth 100000
set_option autoImplicit false
set_option maxHeartbeats 2000000
/-! enumerate over a tuple. -/
namespace DV
open PySem PySem.Spec PyProof.Rows L2
/-- the object of a fresh enumerate whose inner iterator stands at i -/
def enumNew (i : Addr) : Obj := { cls := .type "enumerate", data := .fields #[.none, .bool false, .ref i, rawInt 0, .none, .none] }
theorem meets_enum1 {v : Value} {o : Obj} {G : Heap → Prop} (B : Begins v o G) :
    Meets (Builtin.«enumerate.__new__» ⟨[.type "enumerate", v], []⟩) (fun _ R s => G s.heap ∧ R (.ok (.ret (.ref (s.heap.push o).objs.size))) { s with heap := (s.heap.push o).push (enumNew s.heap.objs.size) }) :=
  .of_wp fun prog w A R s h => by
    obtain ⟨hp, g, d, tk, os⟩ := s; obtain ⟨h1, h⟩ := h
    have hsub := sub_enumerate
    have q1 : ∀ {A' : Around} {E : Value → Shared → Prop} {Q : Value → Shared → Prop}, Q (.ref hp.objs.size) ⟨hp.push o, g, d, tk, os⟩ → wpAny (model prog w) A' (pyIter v) Q E ⟨hp, g, d, tk, os⟩ := fun q => B.iter prog w _ _ ⟨hp, g, d, tk, os⟩ _ h1 q
    wp_walk using q1
    refine wpAny_stack_any fun st => ?_; refine wpAny_pure ?_
    split
    · rename_i c _ _ _ _ _
      by_cases hc : (c == Value.type "enumerate") = true
      · rw [hc]; wp_walk using q1; exact ⟨_, rfl, h⟩
      · rw [Bool.not_eq_true] at hc; rw [hc]; wp_walk using q1; exact ⟨_, rfl, h⟩
    · wp_walk using q1; exact ⟨_, rfl, h⟩
section
variable {prog : Program} {w : World} {A : Around} {E : Value → Shared → Prop} {s : Shared}
theorem enum_begins1 {v : Value} {o : Obj} {G : Heap → Prop} {Q : Value → Shared → Prop} (B : Begins v o G) (h1 : G s.heap)
    (h : ∀ h', IsEnum h' (s.heap.objs.size + 1) s.heap.objs.size 0 .none → h'.get? s.heap.objs.size = some o → h'.objs.size = s.heap.objs.size + 2 → (∀ b u, s.heap.get? b = some u → h'.get? b = some u) → Q (.ref (s.heap.objs.size + 1)) { s with heap := h' }) :
    wpAny (model prog w) A (call (.type "enumerate") [v]) Q E s := by
  have size : (s.heap.push o).objs.size = s.heap.objs.size + 1 := Heap.size_push ..
  have en : IsEnum ((s.heap.push o).push (enumNew s.heap.objs.size)) (s.heap.objs.size + 1) s.heap.objs.size 0 .none := by
    have q := Heap.get?_push_size (s.heap.push o) (o := enumNew s.heap.objs.size) rfl
    rw [size] at q; exact q
  have fin : Q (.ref (s.heap.objs.size + 1)) { s with heap := (s.heap.push o).push (enumNew s.heap.objs.size) } :=
    h _ en (Heap.get?_push_of_some _ (Heap.get?_push_size _ B.free)) (by rw [Heap.size_push, size]) fun b u x => Heap.get?_push_of_some _ (Heap.get?_push_of_some _ x)
  rw [← size] at fin
  exact callType_new F.called_enumerate (by decide) (F.typeCall_enumerate_1 _) (F.newCall_enumerate_1 _) (fun obj => F.args_object_init_2 obj _) F.entry_enumerate_new (meets_enum1 B) ⟨h1, ⟨_, by rw [size]; exact en, rfl⟩, fin⟩
end
/-- the tuple at a, each item in a new pair -/
def ItET (K : PySem.W.Frag) (a : Addr) : It where
  go := fun i H => ∃ (xs : List V) (x : V), SqT K H a xs ∧ xs[i]? = some x
  yld := fun i H v H' => ∃ T x, v = .ref T ∧ H T = none ∧ H' = upd H T (.tup [.int (i : Nat), x]) ∧ ∀ xs, SqT K H a xs → xs[i]? = some x
  stop := fun i H => ∃ xs : List V, SqT K H a xs ∧ xs.length = i
theorem turn_enumT {P : Program} {w : World} {K : PySem.W.Frag} {elts : List Expr} {kk : Nat} {tpos : Pos} (a e it : Addr) (n1 : e ≠ it) (n2 : a ≠ it) (n3 : e ≠ a) :
    Turn P w K (.Tuple elts kk tpos) (ItET K a) [e, it] e (fun i h => (∃ old, IsEnum h e it ((i : Nat) : Int) old) ∧ h.IsTupleIter it a i) where
  mem := List.mem_cons_self
  obj := fun i h st b hb => by
    obtain ⟨⟨old, he⟩, o, ho, hc, hd⟩ := st
    rcases List.mem_cons.mp hb with z | z
    · subst z; exact ⟨_, he, fun v q => nomatch q⟩
    · rw [List.mem_singleton] at z; subst z; exact ⟨o, ho, fun v q => by rw [hd] at q; exact nomatch q⟩
  keep := fun i h h' st k => ⟨st.1.elim fun old he => ⟨old, k e List.mem_cons_self _ he⟩, st.2.at fun o q => k it (List.mem_cons_of_mem _ List.mem_cons_self) o q⟩
  item := by
    intro X hP hw hK hc i pins s σ H E I hf st hg
    subst hP; subst hw; subst hK
    obtain ⟨⟨old, he⟩, hit⟩ := st
    obtain ⟨xs, x, hq, hx⟩ := hg
    obtain ⟨its, rv, p, hz⟩ := I.tuple hq
    obtain ⟨u, hu, ru⟩ := rv.get hx
    have hel : e < s.heap.objs.size := Heap.lt_size he
    have hil : it < s.heap.objs.size := by obtain ⟨_, q, _⟩ := hit; exact Heap.lt_size q
    have hlt : i < its.toArray.size := by simpa using (List.getElem?_eq_some_iff.mp hu).1
    refine wpAny_pyNext_enum_itemC (Draws.tuple (A := X.A.in1) (I.ok.hd hc) it a n2 its.toArray) he ⟨hit, p⟩ hlt n1 (by simp [n1, n3]) fun x' h' tk hP ho hst hT hsz hk => ?_
    have ex : x' = u := by
      have q : its[i]? = some x' := by simpa using hP
      rw [hu] at q; exact (Option.some.inj q).symm
    subst ex
    refine ⟨_, rfl, wpAny_letOwnedTupleGo_enum (s := { s with heap := h', toks := tk + 1 }) ho fun h2 he2 sb => ?_⟩
    have two : h2.get? s.heap.objs.size = some { cls := .type "tuple", data := .seq #[.int i tk, x'] } := (sb.2 _ (Nat.ne_of_gt hel)).trans hT
    have new : ObjOk X.prog X.w (upd H s.heap.objs.size (.tup [.int (i : Nat), x])) h2 s.heap.objs.size (.tup [.int (i : Nat), x]) := by
      refine ⟨by show 2 ≤ sizeLine; decide, [.int i tk, x'], .cons ⟨tk, rfl⟩ (.cons ru .nil), ⟨_, two, rfl, _, rfl⟩⟩
    have I1 : Inv X pins σ (upd H s.heap.objs.size (.tup [.int (i : Nat), x])) { s with heap := h2, toks := tk + 1 } := by
      refine I.turnedNew (ch := [e, it]) (fun b ob hb q => ?_) hf (Nat.le_refl _) new
      have z1 : b ≠ e := fun z => hb (by simp [z])
      have z2 : b ≠ it := fun z => hb (by simp [z])
      exact (sb.2 b z1).trans (hk b ob z1 z2 q)
    have q1 : ((i + 1 : Nat) : Int) = (i : Int) + 1 := by omega
    refine ⟨.ref s.heap.objs.size, _, I1, rfl, ⟨_, x, rfl, I.hok.fresh (Nat.le_refl _), rfl, fun ys hy => by rw [I.tuple_inj hy hq]; exact hx⟩, ⟨⟨x', by rw [q1]; exact he2⟩, hst.1.at fun o q => (sb.2 it (Ne.symm n1)).trans q⟩, fun b hb => ?_⟩
    have z : b < s.heap.objs.size := by
      rcases List.mem_cons.mp hb with z | z
      · rw [z]; exact hel
      · rw [List.mem_singleton.mp z]; exact hil
    rw [upd_ne (Nat.ne_of_lt z)]
    exact (hf b hb).1
  done := by
    intro X hP hw hK hc i pins s σ H E I hf st hg
    subst hP; subst hw; subst hK
    obtain ⟨⟨old, he⟩, hit⟩ := st
    obtain ⟨xs, hq, hx⟩ := hg
    obtain ⟨its, rv, p, hz⟩ := I.tuple hq
    obtain ⟨f0, f1, f2, f3, f4, f5⟩ := hf it (List.mem_cons_of_mem _ List.mem_cons_self)
    have hl := rv.length
    exact wpAny_pyNext_enum_endD (Draws.tuple (A := X.A.in1) (I.ok.hd hc) it a n2 its.toArray) he ⟨by
      have : i = its.toArray.size := by simp; omega
      rw [← this]; exact hit, p⟩ fun h' eb => ⟨rfl, I.turned (t' := s.toks) (fun b o hb q => eb b o hb q) f0 f1 f3 f4 f5⟩
  self := fun A i s Q E st h => st.1.elim fun _ he => wpAny_pyIter_enum he h
def iEnumT (K : PySem.W.Frag) (ta : TA) : TI := fun σ H R => ta σ H fun vs H1 => ∃ a xs, vs = [.ref a] ∧ SqT K H1 a xs ∧ R (ItET K a) H1
theorem pi_enumT {X : Cx} {e : Expr} {ta : TA} {p pos tpos : Pos} {elts : List Expr} {kk : Nat} (hg : Gl X "enumerate") (hm : X.mg "enumerate" = none) (ha : PA X [e] ta) (hs : starEach [e] X.env = [(false, eval e X.env)]) :
    PI X (.Tuple elts kk tpos) (.Call (.Name "enumerate" p) [e] [] pos) (iEnumT X.K ta) := by
  refine ⟨fun pins s σ H R I h => Call_ (ld_blt I hg hm boot_enumerate (PyProof.Rows.callWith_type1 (thn (ha.run pos pins s σ H _ I h) fun us s1 ⟨vs, H1, I1, r1, q1⟩ => ?_) hs rfl))⟩
  obtain ⟨a, xs, ex, hq, q⟩ := q1
  subst ex
  obtain ⟨u, rfl, ru⟩ := vals1 r1
  cases ru
  obtain ⟨its, rv, p', hz⟩ := I1.tuple hq
  have al : a < s1.heap.objs.size := by obtain ⟨_, q, _⟩ := p'; exact Heap.lt_size q
  refine enum_begins1 (begins_tuple a its.toArray) p' fun h' he hit hsz hk => wpAny_pyIter_enum he ?_
  have I2 : Inv X pins σ H1 { s1 with heap := h' } := I1.kept (t' := s1.toks) hk
  refine ⟨s1.heap.objs.size + 1, [s1.heap.objs.size + 1, s1.heap.objs.size], _, _, H1, rfl, I2, turn_enumT a (s1.heap.objs.size + 1) s1.heap.objs.size (Nat.succ_ne_self _) (Nat.ne_of_lt al) (fun z => absurd al (by rw [← z]; exact Nat.not_lt.mpr (Nat.le_succ _))), ⟨⟨.none, he⟩, ⟨_, hit, rfl, rfl⟩⟩, fun b hb => ?_, q⟩
  have hle : s1.heap.objs.size ≤ b := by
    rcases List.mem_cons.mp hb with z | z
    · rw [z]; exact Nat.le_succ _
    · rw [List.mem_singleton.mp z]; exact Nat.le_refl _
  exact I1.fpOk hle (I1.hok.fresh hle)
theorem walk_enumT {K : PySem.W.Frag} {a : Addr} {xs : List V} : Walk (ItET K a) xs.length (fun H => SqT K H a xs) (YPair (fun i => some (.int (i : Nat))) (fun i => xs[i]?)) where
  goes := fun i _ hi q => ⟨xs, xs[i], q, by simp [hi]⟩
  stops := fun _ q => ⟨xs, q, rfl⟩
  yields := fun i H v H' _ q ⟨T, x, h1, h2, h3, h4⟩ => ⟨T, .int (i : Nat), x, h1, h2, h3, rfl, h4 xs q⟩
theorem seqV_lst {d : D} (h : tupV d = none) (m : Store) : seqV m d = lstV m d := by cases d <;> first | rfl | (simp [tupV] at h)
theorem walked_enumS {K : PySem.W.Frag} {as : Pl} {H : Hp} {a : Addr} {d : D} {xs : List D} (r : Rep K as H (.ref a) d) (nt : tupV d = none) : Walked K as H (Ite K a) ⟨enumL xs, fun m' => seqV m' d = some xs⟩ := by
  have e : (fun m' : Store => seqV m' d = some xs) = fun m' => lstV m' d = some xs := by funext m'; rw [seqV_lst nt]
  rw [e]; exact walked_enum r
/-- enumerate over a tuple walked -/
theorem walked_enumT {K : PySem.W.Frag} {as : Pl} {H : Hp} {a : Addr} {xs : List D} (r : Rep K as H (.ref a) (.tup xs)) : Walked K as H (ItET K a) ⟨enumL xs, fun m' => seqV m' (.tup xs) = some xs⟩ := by
  have hl : (enumL xs).length = xs.length := pairs_len xs 0
  refine ⟨fun H => ∃ vs, SqT K H a vs ∧ vs.length = xs.length, fun i H x H' => ∀ vs, SqT K H a vs → vs.length = xs.length → YPair (fun i => some (.int (i : Nat))) (fun i => vs[i]?) i H x H', ⟨fun i H hi ⟨vs, h, l⟩ => ?_, fun H ⟨vs, h, l⟩ => ?_, fun i H x H' hi ⟨vs0, h0, l0⟩ y vs h l => ?_⟩, fun as1 m1 H1 ex hs st => ?_⟩
  · change i < (enumL xs).length at hi
    exact walk_enumT.goes i H (by rw [hl, ← l] at hi; exact hi) h
  · have q := (walk_enumT (K := K) (a := a) (xs := vs)).stops H h
    rw [l] at q
    show (ItET K a).stop (enumL xs).length H
    rw [hl]; exact q
  · have hi' : i < xs.length := by rw [← hl]; exact hi
    exact walk_enumT.yields i H x H' (by omega) h y
  · obtain ⟨b, vs, e1, h, rs⟩ := tup_rep (r.ext ex)
    cases e1
    refine ⟨⟨vs, h, rs.length⟩, fun i x H2 hi y => ?_⟩
    obtain ⟨T, p, q, rfl, hT, rfl, e2, e3⟩ := y vs h rs.length
    cases e2
    obtain ⟨d', hd, rd⟩ := rs.get' e3
    obtain ⟨g1, g2, g3⟩ := pair_rep hs hT (.int (i : Int)) rd
    exact ⟨g1, g2, _, by show (pairs 0 xs)[i]? = _; rw [pairs_get, hd]; simp, g3⟩
end DV

end
section
set_option Elab.async false
set_option linter.all false
set_option maxRecDepth 100000
set_option autoImplicit false
set_option maxHeartbeats 2000000
/-! zip of two, of three, lists and tuples. -/
namespace DV
open PySem PySem.Spec PyProof.Rows L2
def SqZ (k : Bool) (K : PySem.W.Frag) (H : Hp) (a : Addr) (xs : List V) : Prop := match k with
  | true => SqT K H a xs
  | false => SqL K H a xs
def itO (k : Bool) (l : Addr) : Obj := match k with
  | true => { cls := .type "tuple_iterator", data := .fields #[.ref l, .int 0 0] }
  | false => { cls := .type "list_iterator", data := .fields #[.ref l, .int 0 0] }
def IsIt (k : Bool) (h : Heap) (it l : Addr) (i : Nat) : Prop := match k with
  | true => h.IsTupleIter it l i
  | false => h.IsListIter it l i
def IsSq (k : Bool) (h : Heap) (l : Addr) (its : Array Value) : Prop := match k with
  | true => h.IsTuple l its
  | false => h.IsList l its
theorem itO_new {k : Bool} {h : Heap} {it l : Addr} (e : h.get? it = some (itO k l)) : IsIt k h it l 0 := by cases k <;> exact ⟨_, e, rfl, rfl⟩
theorem IsIt.at {k : Bool} {h h' : Heap} {it l : Addr} {i : Nat} (x : IsIt k h it l i) (q : ∀ o, h.get? it = some o → h'.get? it = some o) : IsIt k h' it l i := by
  cases k
  · exact Heap.IsListIter.at x q
  · exact Heap.IsTupleIter.at x q
theorem IsIt.obj {k : Bool} {h : Heap} {it l : Addr} {i : Nat} (x : IsIt k h it l i) : ∃ o, h.get? it = some o ∧ ∃ vs, o.data = .fields vs := by
  cases k
  · obtain ⟨o, e, _, d⟩ := x; exact ⟨o, e, _, d⟩
  · obtain ⟨o, e, _, d⟩ := x; exact ⟨o, e, _, d⟩
theorem IsSq.lt {k : Bool} {h : Heap} {l : Addr} {its : Array Value} (x : IsSq k h l its) : l < h.objs.size := by
  cases k
  · obtain ⟨o, e, _⟩ := x; exact Heap.lt_size e
  · obtain ⟨o, e, _⟩ := x; exact Heap.lt_size e
theorem drawsSq {prog : Program} {w : World} {A : Around} (k : Bool) (hh : A.handled = none) (it l : Addr) (hne : l ≠ it) (items : Array Value) :
    Draws prog w A it [it, l] items.size (fun i v => items[i]? = some v) (fun i h => IsIt k h it l i ∧ IsSq k h l items) := by
  cases k
  · exact Draws.list hh it l hne items
  · exact Draws.tuple hh it l hne items
theorem beginsSq (k : Bool) (l : Addr) (items : Array Value) : Begins (.ref l) (itO k l) (fun h => IsSq k h l items) := by
  cases k
  · exact begins_list l items
  · exact begins_tuple l items
section
variable {X : Cx} {pins : List (Addr × Obj)} {σ : St} {H : Hp} {s : Shared}
theorem inv_sq {k : Bool} (I : Inv X pins σ H s) {a : Addr} {xs : List V} (h : SqZ k X.K H a xs) : ∃ its : List Value, Vals xs its ∧ IsSq k s.heap a its.toArray := by
  cases k
  · obtain ⟨its, rv, p, _⟩ := I.list h; exact ⟨its, rv, p.isList⟩
  · obtain ⟨its, rv, p, _⟩ := I.tuple h; exact ⟨its, rv, p⟩
theorem inv_sq_inj {k : Bool} (I : Inv X pins σ H s) {a : Addr} {xs ys : List V} (h : SqZ k X.K H a xs) (h' : SqZ k X.K H a ys) : xs = ys := by
  cases k
  · exact I.list_inj h h'
  · exact I.tuple_inj h h'
end
theorem ne_of {a b : Nat} (h : a < b ∨ b < a) : a ≠ b := by omega
theorem notin2 {a b c : Nat} (h : (a < b ∨ b < a) ∧ (a < c ∨ c < a)) : a ∉ [b, c] := by simp; omega
theorem sep2 (n a b : Nat) (ha : a < n) (hb : b < n) : ZipSep2 (n + 4) (n + 2) (n + 3) n (n + 1) [n, a] [n + 1, b] :=
  ⟨ne_of (by omega), ne_of (by omega), ne_of (by omega), ne_of (by omega), List.mem_cons_self, notin2 (by omega), notin2 (by omega), ne_of (by omega), List.mem_cons_self, notin2 (by omega), notin2 (by omega), notin2 (by omega), notin2 (by omega)⟩
theorem sep3 (n a b c : Nat) (ha : a < n) (hb : b < n) (hc : c < n) : ZipSep3 (n + 5) (n + 3) (n + 4) n (n + 1) (n + 2) [n, a] [n + 1, b] [n + 2, c] :=
  ⟨ne_of (by omega), ne_of (by omega), ne_of (by omega), ne_of (by omega), List.mem_cons_self, notin2 (by omega), notin2 (by omega), ne_of (by omega), List.mem_cons_self, notin2 (by omega), notin2 (by omega), ne_of (by omega), List.mem_cons_self, notin2 (by omega), notin2 (by omega), notin2 (by omega), notin2 (by omega), notin2 (by omega), notin2 (by omega), notin2 (by omega), notin2 (by omega)⟩
/-! ### 2 -/
def ItZ2 (k1 k2 : Bool) (K : PySem.W.Frag) (a b : Addr) : It where
  go := fun i H => ∃ (xs ys : List V) (x y : V), SqZ k1 K H a xs ∧ SqZ k2 K H b ys ∧ xs[i]? = some x ∧ ys[i]? = some y
  yld := fun i H v H' => ∃ T x y, v = .ref T ∧ H T = none ∧ H' = upd H T (.tup [x, y]) ∧ (∀ xs, SqZ k1 K H a xs → xs[i]? = some x) ∧ (∀ xs, SqZ k2 K H b xs → xs[i]? = some y)
  stop := fun i H => ∃ xs ys : List V, SqZ k1 K H a xs ∧ SqZ k2 K H b ys ∧ i ≤ xs.length ∧ i ≤ ys.length ∧ (i = xs.length ∨ i = ys.length)
theorem turn_z2 {P : Program} {w : World} {K : PySem.W.Frag} {elts : List Expr} {kk : Nat} {tpos : Pos} (k1 k2 : Bool) {a b z TI TO i1 i2 : Addr} (D : ZipSep2 z TI TO i1 i2 [i1, a] [i2, b]) (n1 : a ≠ i1) (n2 : b ≠ i2) :
    Turn P w K (.Tuple elts kk tpos) (ItZ2 k1 k2 K a b) [z, TI, TO, i1, i2] z (fun i h => IsZip h z TI TO .none ∧ IsTupOf2 h TI (.ref i1) (.ref i2) ∧ (∃ x y, IsTupOf2 h TO x y) ∧ IsIt k1 h i1 a i ∧ IsIt k2 h i2 b i) where
  mem := by simp
  obj := fun i h st c hc => by
    obtain ⟨hz, hTI, ⟨x, y, hTO⟩, h1, h2⟩ := st
    obtain ⟨o1, e1, _, d1⟩ := h1.obj
    obtain ⟨o2, e2, _, d2⟩ := h2.obj
    have e' : c = z ∨ c = TI ∨ c = TO ∨ c = i1 ∨ c = i2 := by simpa using hc
    rcases e' with q | q | q | q | q
    · rw [q]; exact ⟨_, hz, fun v q => nomatch q⟩
    · rw [q]; exact ⟨_, hTI, fun v q => nomatch q⟩
    · rw [q]; exact ⟨_, hTO, fun v q => nomatch q⟩
    · rw [q]; exact ⟨o1, e1, fun v q => by rw [d1] at q; cases q⟩
    · rw [q]; exact ⟨o2, e2, fun v q => by rw [d2] at q; cases q⟩
  keep := fun i h h' st k => by
    obtain ⟨hz, hTI, ⟨x, y, hTO⟩, h1, h2⟩ := st
    exact ⟨k z (by simp) _ hz, k TI (by simp) _ hTI, ⟨x, y, k TO (by simp) _ hTO⟩, h1.at fun o q => k i1 (by simp) o q, h2.at fun o q => k i2 (by simp) o q⟩
  item := by
    intro X hP hw hK hc i pins s σ H E I hf st hg
    subst hP hw hK
    obtain ⟨hz, hTI, ⟨v0, v1, hTO⟩, h1, h2⟩ := st
    obtain ⟨xs, ys, x, y, hq1, hq2, hx1, hx2⟩ := hg
    obtain ⟨t1, rv1, p1⟩ := inv_sq I hq1
    obtain ⟨u1, hu1, ru1⟩ := rv1.get hx1
    have l1 : i < t1.toArray.size := by simpa using (List.getElem?_eq_some_iff.mp hu1).1
    obtain ⟨t2, rv2, p2⟩ := inv_sq I hq2
    obtain ⟨u2, hu2, ru2⟩ := rv2.get hx2
    have l2 : i < t2.toArray.size := by simpa using (List.getElem?_eq_some_iff.mp hu2).1
    have hzl : z < s.heap.objs.size := Heap.lt_size hz
    have hh := I.ok.hd hc
    refine wpAny_pyNext_zipD2_item D (drawsSq (A := X.A.in1) k1 hh i1 a n1 t1.toArray) (drawsSq (A := X.A.in1) k2 hh i2 b n2 t2.toArray) hz hTI hTO ⟨h1, p1⟩ ⟨h2, p2⟩ l1 l2 fun w1 w2 h' tk q1 q2 z' TO' s1 s2 hT hsz hk => ?_
    have ew1 : w1 = u1 := by
      have q : t1[i]? = some w1 := by simpa using q1
      rw [hu1] at q; exact (Option.some.inj q).symm
    subst ew1
    have ew2 : w2 = u2 := by
      have q : t2[i]? = some w2 := by simpa using q2
      rw [hu2] at q; exact (Option.some.inj q).symm
    subst ew2
    refine ⟨_, rfl, wpAny_letOwnedTupleGo_zip (s := { s with heap := h', toks := tk }) z' fun h'' z'' sb => ?_⟩
    have hT2 : h''.get? s.heap.objs.size = some { cls := .type "tuple", data := .seq #[w1, w2] } := (sb.2 _ (Nat.ne_of_gt hzl)).trans hT
    have new : ObjOk X.prog X.w (upd H s.heap.objs.size (.tup [x, y])) h'' s.heap.objs.size (.tup [x, y]) :=
      ⟨by show 2 ≤ sizeLine; decide, [w1, w2], .cons ru1 (.cons ru2 (.nil)), ⟨_, hT2, rfl, _, rfl⟩⟩
    have I1 : Inv X pins σ (upd H s.heap.objs.size (.tup [x, y])) { s with heap := h'', toks := tk } :=
      I.turnedNew (ch := [z, TI, TO, i1, i2]) (fun c o hb q => (sb.2 c (fun q' => hb (by simp [q']))).trans (hk c o (fun q' => hb (by simp [q'])) (fun q' => hb (by simp [q'])) (fun q' => hb (by simp [q'])) (fun q' => hb (by simp [q'])) q)) hf (Nat.le_refl _) new
    refine ⟨.ref s.heap.objs.size, _, I1, rfl, ⟨_, x, y, rfl, I.hok.fresh (Nat.le_refl _), rfl, fun l hl => by rw [inv_sq_inj I hl hq1]; exact hx1, fun l hl => by rw [inv_sq_inj I hl hq2]; exact hx2⟩, ⟨z'', ?_, ⟨w1, w2, ?_⟩, s1.1.at fun o q => (sb.2 _ (Ne.symm D.zi1)).trans q, s2.1.at fun o q => (sb.2 _ (Ne.symm D.zi2)).trans q⟩, fun c hcm => ?_⟩
    · exact (sb.2 _ D.TIz).trans (hk _ _ D.TIz D.TITO D.TIi1 D.TIi2 hTI)
    · exact (sb.2 _ D.TOz).trans TO'
    · have hlt : c < s.heap.objs.size := by
        have e' : c = z ∨ c = TI ∨ c = TO ∨ c = i1 ∨ c = i2 := by simpa using hcm
        rcases e' with q | q | q | q | q
        · rw [q]; exact hzl
        · rw [q]; exact Heap.lt_size hTI
        · rw [q]; exact Heap.lt_size hTO
        · rw [q]; obtain ⟨_, e1, _⟩ := h1.obj; exact Heap.lt_size e1
        · rw [q]; obtain ⟨_, e1, _⟩ := h2.obj; exact Heap.lt_size e1
      rw [upd_ne (Nat.ne_of_lt hlt)]
      exact (hf c hcm).1
  done := by
    intro X hP hw hK hc i pins s σ H E I hf st hg
    subst hP hw hK
    obtain ⟨hz, hTI, ⟨v0, v1, hTO⟩, h1, h2⟩ := st
    obtain ⟨xs, ys, hq1, hq2, le1, le2, hend⟩ := hg
    obtain ⟨t1, rv1, p1⟩ := inv_sq I hq1
    have l1 : t1.toArray.size = xs.length := by have := rv1.length; simp; omega
    obtain ⟨t2, rv2, p2⟩ := inv_sq I hq2
    have l2 : t2.toArray.size = ys.length := by have := rv2.length; simp; omega
    have hh := I.ok.hd hc
    exact wpAny_pyNext_zipD2_end D (drawsSq (A := X.A.in1) k1 hh i1 a n1 t1.toArray) (drawsSq (A := X.A.in1) k2 hh i2 b n2 t2.toArray) hz hTI hTO ⟨h1, p1⟩ ⟨h2, p2⟩ (by omega) (by omega) (by omega) fun h' tk hk => ⟨rfl, I.turnedL (t' := tk) (ch := [z, TI, TO, i1, i2]) (fun c o hb q => hk c o (fun q' => hb (by simp [q'])) (fun q' => hb (by simp [q'])) (fun q' => hb (by simp [q'])) (fun q' => hb (by simp [q'])) q) hf⟩
  self := fun A i s Q E st h => wpAny_pyIter_zip st.1 h
def iZ2 (K : PySem.W.Frag) (ta : TA) : TI := fun σ H R => ta σ H fun vs H1 => ∃ k1 k2 a b xs ys, vs = [.ref a, .ref b] ∧ SqZ k1 K H1 a xs ∧ SqZ k2 K H1 b ys ∧ R (ItZ2 k1 k2 K a b) H1
theorem pi_z2 {X : Cx} {e e2 : Expr} {ta : TA} {p pos tpos : Pos} {elts : List Expr} {kk : Nat} (hg : Gl X "zip") (hm : X.mg "zip" = none) (ha : PA X [e, e2] ta)
    (hs : starEach [e, e2] X.env = (false, eval e X.env) :: starEach [e2] X.env := by rfl) (hpl : (backTo pos (starEach [e2] X.env)).any (·.1) = false := by rfl) :
    PI X (.Tuple elts kk tpos) (.Call (.Name "zip" p) [e, e2] [] pos) (iZ2 X.K ta) := by
  refine ⟨fun pins s σ H R I h => ?_⟩
  refine Call_ (ld_blt I hg hm PyProof.Rows.boot_zip (PyProof.Rows.callWith_type1 (thn (ha.run pos pins s σ H _ I h) fun us s1 ⟨vs, H1, I1, r1, q1⟩ => ?_) hs hpl))
  obtain ⟨k1, k2, a, b, xs, ys, ex, hq1, hq2, q⟩ := q1
  subst ex
  cases r1 with
  | cons r r1 =>
    cases r1 with
    | cons r2' r1 =>
      cases r1
      cases r
      cases r2'
      have fresh5 : ∀ c, c ∈ [s1.heap.objs.size + 4, s1.heap.objs.size + 2, s1.heap.objs.size + 3, s1.heap.objs.size, s1.heap.objs.size + 1] → FpOk X pins H1 c := fun c hcm => by
        have hle : s1.heap.objs.size ≤ c := by
          simp only [List.mem_cons, List.not_mem_nil, or_false] at hcm
          omega
        exact I1.fpOk hle (I1.hok.fresh hle)
      obtain ⟨t1, rv1, p1⟩ := inv_sq I1 hq1
      have lt1 := p1.lt
      obtain ⟨t2, rv2, p2⟩ := inv_sq I1 hq2
      have lt2 := p2.lt
      refine zip_begins2 (beginsSq k1 a t1.toArray) (beginsSq k2 b t2.toArray) p1 p2 fun h' hz hTI hTO g1 g2 hsz hk => wpAny_pyIter_zip hz ?_
      have I2 : Inv X pins σ H1 { s1 with heap := h' } := I1.kept (t' := s1.toks) hk
      exact ⟨s1.heap.objs.size + 4, [s1.heap.objs.size + 4, s1.heap.objs.size + 2, s1.heap.objs.size + 3, s1.heap.objs.size, s1.heap.objs.size + 1], _, _, H1, rfl, I2, turn_z2 k1 k2 (sep2 _ _ _ lt1 lt2) (ne_of (.inl lt1)) (ne_of (.inl (Nat.lt_succ_of_lt lt2))), ⟨hz, hTI, ⟨_, _, hTO⟩, itO_new g1, itO_new g2⟩, fresh5, q⟩
/-! ### 3 -/
def ItZ3 (k1 k2 k3 : Bool) (K : PySem.W.Frag) (a b c0 : Addr) : It where
  go := fun i H => ∃ (xs ys zs : List V) (x y z0 : V), SqZ k1 K H a xs ∧ SqZ k2 K H b ys ∧ SqZ k3 K H c0 zs ∧ xs[i]? = some x ∧ ys[i]? = some y ∧ zs[i]? = some z0
  yld := fun i H v H' => ∃ T x y z0, v = .ref T ∧ H T = none ∧ H' = upd H T (.tup [x, y, z0]) ∧ (∀ xs, SqZ k1 K H a xs → xs[i]? = some x) ∧ (∀ xs, SqZ k2 K H b xs → xs[i]? = some y) ∧ (∀ xs, SqZ k3 K H c0 xs → xs[i]? = some z0)
  stop := fun i H => ∃ xs ys zs : List V, SqZ k1 K H a xs ∧ SqZ k2 K H b ys ∧ SqZ k3 K H c0 zs ∧ i ≤ xs.length ∧ i ≤ ys.length ∧ i ≤ zs.length ∧ (i = xs.length ∨ i = ys.length ∨ i = zs.length)
theorem turn_z3 {P : Program} {w : World} {K : PySem.W.Frag} {elts : List Expr} {kk : Nat} {tpos : Pos} (k1 k2 k3 : Bool) {a b c0 z TI TO i1 i2 i3 : Addr} (D : ZipSep3 z TI TO i1 i2 i3 [i1, a] [i2, b] [i3, c0]) (n1 : a ≠ i1) (n2 : b ≠ i2) (n3 : c0 ≠ i3) :
    Turn P w K (.Tuple elts kk tpos) (ItZ3 k1 k2 k3 K a b c0) [z, TI, TO, i1, i2, i3] z (fun i h => IsZip h z TI TO .none ∧ IsTupOf3 h TI (.ref i1) (.ref i2) (.ref i3) ∧ (∃ x y z0, IsTupOf3 h TO x y z0) ∧ IsIt k1 h i1 a i ∧ IsIt k2 h i2 b i ∧ IsIt k3 h i3 c0 i) where
  mem := by simp
  obj := fun i h st c hc => by
    obtain ⟨hz, hTI, ⟨x, y, z0, hTO⟩, h1, h2, h3⟩ := st
    obtain ⟨o1, e1, _, d1⟩ := h1.obj
    obtain ⟨o2, e2, _, d2⟩ := h2.obj
    obtain ⟨o3, e3, _, d3⟩ := h3.obj
    have e' : c = z ∨ c = TI ∨ c = TO ∨ c = i1 ∨ c = i2 ∨ c = i3 := by simpa using hc
    rcases e' with q | q | q | q | q | q
    · rw [q]; exact ⟨_, hz, fun v q => nomatch q⟩
    · rw [q]; exact ⟨_, hTI, fun v q => nomatch q⟩
    · rw [q]; exact ⟨_, hTO, fun v q => nomatch q⟩
    · rw [q]; exact ⟨o1, e1, fun v q => by rw [d1] at q; cases q⟩
    · rw [q]; exact ⟨o2, e2, fun v q => by rw [d2] at q; cases q⟩
    · rw [q]; exact ⟨o3, e3, fun v q => by rw [d3] at q; cases q⟩
  keep := fun i h h' st k => by
    obtain ⟨hz, hTI, ⟨x, y, z0, hTO⟩, h1, h2, h3⟩ := st
    exact ⟨k z (by simp) _ hz, k TI (by simp) _ hTI, ⟨x, y, z0, k TO (by simp) _ hTO⟩, h1.at fun o q => k i1 (by simp) o q, h2.at fun o q => k i2 (by simp) o q, h3.at fun o q => k i3 (by simp) o q⟩
  item := by
    intro X hP hw hK hc i pins s σ H E I hf st hg
    subst hP hw hK
    obtain ⟨hz, hTI, ⟨v0, v1, v2, hTO⟩, h1, h2, h3⟩ := st
    obtain ⟨xs, ys, zs, x, y, z0, hq1, hq2, hq3, hx1, hx2, hx3⟩ := hg
    obtain ⟨t1, rv1, p1⟩ := inv_sq I hq1
    obtain ⟨u1, hu1, ru1⟩ := rv1.get hx1
    have l1 : i < t1.toArray.size := by simpa using (List.getElem?_eq_some_iff.mp hu1).1
    obtain ⟨t2, rv2, p2⟩ := inv_sq I hq2
    obtain ⟨u2, hu2, ru2⟩ := rv2.get hx2
    have l2 : i < t2.toArray.size := by simpa using (List.getElem?_eq_some_iff.mp hu2).1
    obtain ⟨t3, rv3, p3⟩ := inv_sq I hq3
    obtain ⟨u3, hu3, ru3⟩ := rv3.get hx3
    have l3 : i < t3.toArray.size := by simpa using (List.getElem?_eq_some_iff.mp hu3).1
    have hzl : z < s.heap.objs.size := Heap.lt_size hz
    have hh := I.ok.hd hc
    refine wpAny_pyNext_zipD3_item D (drawsSq (A := X.A.in1) k1 hh i1 a n1 t1.toArray) (drawsSq (A := X.A.in1) k2 hh i2 b n2 t2.toArray) (drawsSq (A := X.A.in1) k3 hh i3 c0 n3 t3.toArray) hz hTI hTO ⟨h1, p1⟩ ⟨h2, p2⟩ ⟨h3, p3⟩ l1 l2 l3 fun w1 w2 w3 h' tk q1 q2 q3 z' TO' s1 s2 s3 hT hsz hk => ?_
    have ew1 : w1 = u1 := by
      have q : t1[i]? = some w1 := by simpa using q1
      rw [hu1] at q; exact (Option.some.inj q).symm
    subst ew1
    have ew2 : w2 = u2 := by
      have q : t2[i]? = some w2 := by simpa using q2
      rw [hu2] at q; exact (Option.some.inj q).symm
    subst ew2
    have ew3 : w3 = u3 := by
      have q : t3[i]? = some w3 := by simpa using q3
      rw [hu3] at q; exact (Option.some.inj q).symm
    subst ew3
    refine ⟨_, rfl, wpAny_letOwnedTupleGo_zip (s := { s with heap := h', toks := tk }) z' fun h'' z'' sb => ?_⟩
    have hT2 : h''.get? s.heap.objs.size = some { cls := .type "tuple", data := .seq #[w1, w2, w3] } := (sb.2 _ (Nat.ne_of_gt hzl)).trans hT
    have new : ObjOk X.prog X.w (upd H s.heap.objs.size (.tup [x, y, z0])) h'' s.heap.objs.size (.tup [x, y, z0]) :=
      ⟨by show 3 ≤ sizeLine; decide, [w1, w2, w3], .cons ru1 (.cons ru2 (.cons ru3 (.nil))), ⟨_, hT2, rfl, _, rfl⟩⟩
    have I1 : Inv X pins σ (upd H s.heap.objs.size (.tup [x, y, z0])) { s with heap := h'', toks := tk } :=
      I.turnedNew (ch := [z, TI, TO, i1, i2, i3]) (fun c o hb q => (sb.2 c (fun q' => hb (by simp [q']))).trans (hk c o (fun q' => hb (by simp [q'])) (fun q' => hb (by simp [q'])) (fun q' => hb (by simp [q'])) (fun q' => hb (by simp [q'])) (fun q' => hb (by simp [q'])) q)) hf (Nat.le_refl _) new
    refine ⟨.ref s.heap.objs.size, _, I1, rfl, ⟨_, x, y, z0, rfl, I.hok.fresh (Nat.le_refl _), rfl, fun l hl => by rw [inv_sq_inj I hl hq1]; exact hx1, fun l hl => by rw [inv_sq_inj I hl hq2]; exact hx2, fun l hl => by rw [inv_sq_inj I hl hq3]; exact hx3⟩, ⟨z'', ?_, ⟨w1, w2, w3, ?_⟩, s1.1.at fun o q => (sb.2 _ (Ne.symm D.zi1)).trans q, s2.1.at fun o q => (sb.2 _ (Ne.symm D.zi2)).trans q, s3.1.at fun o q => (sb.2 _ (Ne.symm D.zi3)).trans q⟩, fun c hcm => ?_⟩
    · exact (sb.2 _ D.TIz).trans (hk _ _ D.TIz D.TITO D.TIi1 D.TIi2 D.TIi3 hTI)
    · exact (sb.2 _ D.TOz).trans TO'
    · have hlt : c < s.heap.objs.size := by
        have e' : c = z ∨ c = TI ∨ c = TO ∨ c = i1 ∨ c = i2 ∨ c = i3 := by simpa using hcm
        rcases e' with q | q | q | q | q | q
        · rw [q]; exact hzl
        · rw [q]; exact Heap.lt_size hTI
        · rw [q]; exact Heap.lt_size hTO
        · rw [q]; obtain ⟨_, e1, _⟩ := h1.obj; exact Heap.lt_size e1
        · rw [q]; obtain ⟨_, e1, _⟩ := h2.obj; exact Heap.lt_size e1
        · rw [q]; obtain ⟨_, e1, _⟩ := h3.obj; exact Heap.lt_size e1
      rw [upd_ne (Nat.ne_of_lt hlt)]
      exact (hf c hcm).1
  done := by
    intro X hP hw hK hc i pins s σ H E I hf st hg
    subst hP hw hK
    obtain ⟨hz, hTI, ⟨v0, v1, v2, hTO⟩, h1, h2, h3⟩ := st
    obtain ⟨xs, ys, zs, hq1, hq2, hq3, le1, le2, le3, hend⟩ := hg
    obtain ⟨t1, rv1, p1⟩ := inv_sq I hq1
    have l1 : t1.toArray.size = xs.length := by have := rv1.length; simp; omega
    obtain ⟨t2, rv2, p2⟩ := inv_sq I hq2
    have l2 : t2.toArray.size = ys.length := by have := rv2.length; simp; omega
    obtain ⟨t3, rv3, p3⟩ := inv_sq I hq3
    have l3 : t3.toArray.size = zs.length := by have := rv3.length; simp; omega
    have hh := I.ok.hd hc
    exact wpAny_pyNext_zipD3_end D (drawsSq (A := X.A.in1) k1 hh i1 a n1 t1.toArray) (drawsSq (A := X.A.in1) k2 hh i2 b n2 t2.toArray) (drawsSq (A := X.A.in1) k3 hh i3 c0 n3 t3.toArray) hz hTI hTO ⟨h1, p1⟩ ⟨h2, p2⟩ ⟨h3, p3⟩ (by omega) (by omega) (by omega) (by omega) fun h' tk hk => ⟨rfl, I.turnedL (t' := tk) (ch := [z, TI, TO, i1, i2, i3]) (fun c o hb q => hk c o (fun q' => hb (by simp [q'])) (fun q' => hb (by simp [q'])) (fun q' => hb (by simp [q'])) (fun q' => hb (by simp [q'])) (fun q' => hb (by simp [q'])) q) hf⟩
  self := fun A i s Q E st h => wpAny_pyIter_zip st.1 h
def iZ3 (K : PySem.W.Frag) (ta : TA) : TI := fun σ H R => ta σ H fun vs H1 => ∃ k1 k2 k3 a b c0 xs ys zs, vs = [.ref a, .ref b, .ref c0] ∧ SqZ k1 K H1 a xs ∧ SqZ k2 K H1 b ys ∧ SqZ k3 K H1 c0 zs ∧ R (ItZ3 k1 k2 k3 K a b c0) H1
theorem pi_z3 {X : Cx} {e e2 e3 : Expr} {ta : TA} {p pos tpos : Pos} {elts : List Expr} {kk : Nat} (hg : Gl X "zip") (hm : X.mg "zip" = none) (ha : PA X [e, e2, e3] ta)
    (hs : starEach [e, e2, e3] X.env = (false, eval e X.env) :: starEach [e2, e3] X.env := by rfl) (hpl : (backTo pos (starEach [e2, e3] X.env)).any (·.1) = false := by rfl) :
    PI X (.Tuple elts kk tpos) (.Call (.Name "zip" p) [e, e2, e3] [] pos) (iZ3 X.K ta) := by
  refine ⟨fun pins s σ H R I h => ?_⟩
  refine Call_ (ld_blt I hg hm PyProof.Rows.boot_zip (PyProof.Rows.callWith_type1 (thn (ha.run pos pins s σ H _ I h) fun us s1 ⟨vs, H1, I1, r1, q1⟩ => ?_) hs hpl))
  obtain ⟨k1, k2, k3, a, b, c0, xs, ys, zs, ex, hq1, hq2, hq3, q⟩ := q1
  subst ex
  cases r1 with
  | cons r r1 =>
    cases r1 with
    | cons r2' r1 =>
      cases r1 with
      | cons r3' r1 =>
        cases r1
        cases r
        cases r2'
        cases r3'
        have fresh5 : ∀ c, c ∈ [s1.heap.objs.size + 5, s1.heap.objs.size + 3, s1.heap.objs.size + 4, s1.heap.objs.size, s1.heap.objs.size + 1, s1.heap.objs.size + 2] → FpOk X pins H1 c := fun c hcm => by
          have hle : s1.heap.objs.size ≤ c := by
            simp only [List.mem_cons, List.not_mem_nil, or_false] at hcm
            omega
          exact I1.fpOk hle (I1.hok.fresh hle)
        obtain ⟨t1, rv1, p1⟩ := inv_sq I1 hq1
        have lt1 := p1.lt
        obtain ⟨t2, rv2, p2⟩ := inv_sq I1 hq2
        have lt2 := p2.lt
        obtain ⟨t3, rv3, p3⟩ := inv_sq I1 hq3
        have lt3 := p3.lt
        refine zip_begins3 (beginsSq k1 a t1.toArray) (beginsSq k2 b t2.toArray) (beginsSq k3 c0 t3.toArray) p1 p2 p3 fun h' hz hTI hTO g1 g2 g3 hsz hk => wpAny_pyIter_zip hz ?_
        have I2 : Inv X pins σ H1 { s1 with heap := h' } := I1.kept (t' := s1.toks) hk
        exact ⟨s1.heap.objs.size + 5, [s1.heap.objs.size + 5, s1.heap.objs.size + 3, s1.heap.objs.size + 4, s1.heap.objs.size, s1.heap.objs.size + 1, s1.heap.objs.size + 2], _, _, H1, rfl, I2, turn_z3 k1 k2 k3 (sep3 _ _ _ _ lt1 lt2 lt3) (ne_of (.inl lt1)) (ne_of (.inl (Nat.lt_succ_of_lt lt2))) (ne_of (.inl (Nat.lt_succ_of_lt (Nat.lt_succ_of_lt lt3)))), ⟨hz, hTI, ⟨_, _, _, hTO⟩, itO_new g1, itO_new g2, itO_new g3⟩, fresh5, q⟩
def kindOf (d : D) : Bool := match d with
  | .tup _ => true
  | _ => false
section
variable {K : PySem.W.Frag} {as : Pl} {H : Hp} {m : Store}
theorem seqZ_rep (hs : HS K as m H) {v : V} {d : D} (h : Rep K as H v d) {ds : List D} (e : seqV m d = some ds) : ∃ a vs, v = .ref a ∧ SqZ (kindOf d) K H a vs ∧ Reps K as H vs ds := by
  cases d with
  | tup xs =>
    simp [seqV] at e; subst e
    exact tup_rep h
  | lst xs => exact lstV_rep hs h (ds := ds) e
  | scr xs => exact lstV_rep hs h (ds := ds) e
  | loc l => exact lstV_rep hs h (ds := ds) e
  | _ => simp [seqV, lstV] at e
theorem walked_z2 {a b : Addr} {c d : D} {xs ys : List D} (r : Rep K as H (.ref a) c) (r2 : Rep K as H (.ref b) d) : Walked K as H (ItZ2 (kindOf c) (kindOf d) K a b) ⟨zipL xs ys, fun m' => seqV m' c = some xs ∧ seqV m' d = some ys⟩ := by
  have hl : (zipL xs ys).length = min xs.length ys.length := by simp [zipL]
  refine ⟨fun H => ∃ vs ws, SqZ (kindOf c) K H a vs ∧ SqZ (kindOf d) K H b ws ∧ vs.length = xs.length ∧ ws.length = ys.length, fun i H v H' => ∃ T x y, v = .ref T ∧ H T = none ∧ H' = upd H T (.tup [x, y]) ∧ (∀ xs, SqZ (kindOf c) K H a xs → xs[i]? = some x) ∧ ∀ ys, SqZ (kindOf d) K H b ys → ys[i]? = some y, ⟨fun i H hi ⟨vs, ws, h, h2, l, l2⟩ => ?_, fun H ⟨vs, ws, h, h2, l, l2⟩ => ?_, fun i H x H' hi _ y => y⟩, fun as1 m1 H1 ex hs st => ?_⟩
  · change i < (zipL xs ys).length at hi
    rw [hl] at hi
    exact ⟨vs, ws, vs[i]'(by omega), ws[i]'(by omega), h, h2, by simp, by simp⟩
  · show ∃ xs' ys' : List V, _ ∧ _ ∧ (zipL xs ys).length ≤ _ ∧ (zipL xs ys).length ≤ _ ∧ (_ ∨ _)
    rw [hl]
    exact ⟨vs, ws, h, h2, by omega, by omega, by omega⟩
  · obtain ⟨p, vs, e1, h, rs⟩ := seqZ_rep hs (r.ext ex) st.1
    obtain ⟨q, ws, e2, h2, rs2⟩ := seqZ_rep hs (r2.ext ex) st.2
    cases e1
    cases e2
    refine ⟨⟨vs, ws, h, h2, rs.length, rs2.length⟩, fun i x H2 hi y => ?_⟩
    obtain ⟨T, p, q, rfl, hT, rfl, e2, e3⟩ := y
    obtain ⟨d1, hd1, rd1⟩ := rs.get' (e2 vs h)
    obtain ⟨d2, hd2, rd2⟩ := rs2.get' (e3 ws h2)
    obtain ⟨g1, g2, g3⟩ := pair_rep hs hT rd1 rd2
    refine ⟨g1, g2, _, ?_, g3⟩
    show (zipL xs ys)[i]? = _
    simp [zipL, List.getElem?_map, List.getElem?_zip_eq_some, hd1, hd2]

theorem walked_z3 {a b b3 : Addr} {c d d3 : D} {xs ys zs : List D} (r : Rep K as H (.ref a) c) (r2 : Rep K as H (.ref b) d) (r3 : Rep K as H (.ref b3) d3) : Walked K as H (ItZ3 (kindOf c) (kindOf d) (kindOf d3) K a b b3) ⟨zipL3 xs ys zs, fun m' => seqV m' c = some xs ∧ seqV m' d = some ys ∧ seqV m' d3 = some zs⟩ := by
  have hl : (zipL3 xs ys zs).length = min xs.length (min ys.length zs.length) := by simp [zipL3]
  refine ⟨fun H => ∃ vs ws us, SqZ (kindOf c) K H a vs ∧ SqZ (kindOf d) K H b ws ∧ SqZ (kindOf d3) K H b3 us ∧ vs.length = xs.length ∧ ws.length = ys.length ∧ us.length = zs.length, fun i H v H' => ∃ T x y z, v = .ref T ∧ H T = none ∧ H' = upd H T (.tup [x, y, z]) ∧ (∀ xs, SqZ (kindOf c) K H a xs → xs[i]? = some x) ∧ (∀ ys, SqZ (kindOf d) K H b ys → ys[i]? = some y) ∧ ∀ zs, SqZ (kindOf d3) K H b3 zs → zs[i]? = some z, ⟨fun i H hi ⟨vs, ws, us, h, h2, h3, l, l2, l3⟩ => ?_, fun H ⟨vs, ws, us, h, h2, h3, l, l2, l3⟩ => ?_, fun i H x H' hi _ y => y⟩, fun as1 m1 H1 ex hs st => ?_⟩
  · change i < (zipL3 xs ys zs).length at hi
    rw [hl] at hi
    exact ⟨vs, ws, us, vs[i]'(by omega), ws[i]'(by omega), us[i]'(by omega), h, h2, h3, by simp, by simp, by simp⟩
  · show ∃ xs' ys' zs' : List V, _ ∧ _ ∧ _ ∧ (zipL3 xs ys zs).length ≤ _ ∧ (zipL3 xs ys zs).length ≤ _ ∧ (zipL3 xs ys zs).length ≤ _ ∧ (_ ∨ _)
    rw [hl]
    exact ⟨vs, ws, us, h, h2, h3, by omega, by omega, by omega, by omega⟩
  · obtain ⟨p, vs, e1, h, rs⟩ := seqZ_rep hs (r.ext ex) st.1
    obtain ⟨q, ws, e2, h2, rs2⟩ := seqZ_rep hs (r2.ext ex) st.2.1
    obtain ⟨q3, us, e3, h3, rs3⟩ := seqZ_rep hs (r3.ext ex) st.2.2
    cases e1
    cases e2
    cases e3
    refine ⟨⟨vs, ws, us, h, h2, h3, rs.length, rs2.length, rs3.length⟩, fun i x H2 hi y => ?_⟩
    obtain ⟨T, p, q, z, rfl, hT, rfl, e2, e3, e4⟩ := y
    obtain ⟨d1, hd1, rd1⟩ := rs.get' (e2 vs h)
    obtain ⟨d2, hd2, rd2⟩ := rs2.get' (e3 ws h2)
    obtain ⟨d4, hd4, rd4⟩ := rs3.get' (e4 us h3)
    have ex2 : Ext as1 H1 as1 (upd H1 T (.tup [p, q, z])) := Ext.new hT
    refine ⟨ex2, hs.new hT, .tup [d1, d2, d4], ?_, .tup upd_same (hs.freshA hT) (.cons (rd1.ext ex2) (.cons (rd2.ext ex2) (.cons (rd4.ext ex2) .nil)))⟩
    show (zipL3 xs ys zs)[i]? = _
    simp [zipL3, List.getElem?_map, List.getElem?_zip_eq_some, hd1, hd2, hd4]
    exact ⟨_, _, _, ⟨rfl, rfl, rfl⟩, rfl, rfl, rfl⟩
end
end DV

end
section
set_option Elab.async false
set_option linter.all false
set_option maxRecDepth 100000
set_option autoImplicit false
set_option maxHeartbeats 1000000
/-! A dict locked while it is walked. -/
namespace DV
open PySem PySem.Spec PyProof.Rows L2
section
variable {K : PySem.W.Frag} {as : Pl} {H H' : Hp} {m : Store} {d : Addr} {ks : List (Key × V)}
theorem rd_inj {ks' : List (Key × V)} (h : Rd H d (.dK ks)) (h' : Rd H d (.dK ks')) : ks = ks' := by
  rcases h with h | ⟨o, h⟩ <;> rcases h' with h' | ⟨o', h'⟩ <;> (rw [h] at h'; cases h') <;> rfl
theorem rd_ne {a : Addr} {o : HO} (h : Rd H d (.dK ks)) (e : H a = some o) (n1 : ∀ k, o ≠ .dK k) (n2 : ∀ b k, o ≠ .frz b (.dK k)) : a ≠ d := by
  rintro rfl
  rcases h with h | ⟨b, h⟩
  · rw [e] at h; cases h; exact n1 _ rfl
  · rw [e] at h; cases h; exact n2 _ _ rfl
mutual
theorem Rep.swap (h : Rd H d (.dK ks)) (h' : Rd H' d (.dK ks)) (sm : ∀ b, b ≠ d → H' b = H b) : ∀ {v : V} {x : D}, Rep K as H v x → Rep K as H' v x
  | _, _, .non => .non
  | _, _, .bl b => .bl b
  | _, _, .int i => .int i
  | _, _, .str x => .str x
  | _, _, .tup e n r => .tup (by rw [sm _ (rd_ne h e (fun _ z => by cases z) fun _ _ z => by cases z)]; exact e) n (Reps.swap h h' sm r)
  | _, _, .tupK e r => .tupK e (Reps.swap h h' sm r)
  | _, _, .lst e n r => .lst (by rw [sm _ (rd_ne h e (fun _ z => by cases z) fun _ _ z => by cases z)]; exact e) n (Reps.swap h h' sm r)
  | _, _, .scr e n r => .scr (by rw [sm _ (rd_ne h e (fun _ z => by cases z) fun _ _ z => by cases z)]; exact e) n (Reps.swap h h' sm r)
  | _, _, .scrK e r => .scrK e (Reps.swap h h' sm r)
  | _, _, @Rep.dct _ _ _ a kvs ds e n r => .dct (kvs := kvs) (by
      by_cases q : a = d
      · subst q
        rw [rd_inj e h]; exact h'
      · rcases e with e | ⟨o, e⟩
        · exact .inl (by rw [sm _ q]; exact e)
        · exact .inr ⟨o, by rw [sm _ q]; exact e⟩) n (RepK.swap h h' sm r)
  | _, _, .loc e => .loc e
theorem Reps.swap (h : Rd H d (.dK ks)) (h' : Rd H' d (.dK ks)) (sm : ∀ b, b ≠ d → H' b = H b) : ∀ {vs : List V} {xs : List D}, Reps K as H vs xs → Reps K as H' vs xs
  | _, _, .nil => .nil
  | _, _, .cons r t => .cons (Rep.swap h h' sm r) (Reps.swap h h' sm t)
theorem RepK.swap (h : Rd H d (.dK ks)) (h' : Rd H' d (.dK ks)) (sm : ∀ b, b ≠ d → H' b = H b) : ∀ {vs : List (Key × V)} {xs : List (Key × D)}, RepK K as H vs xs → RepK K as H' vs xs
  | _, _, .nil => .nil
  | _, _, .cons r t => .cons (Rep.swap h h' sm r) (RepK.swap h h' sm t)
end
theorem HS.swap (h : Rd H d (.dK ks)) (h' : Rd H' d (.dK ks)) (sm : ∀ b, b ≠ d → H' b = H b) (n : d ∉ as.all) (hs : HS K as m H) : HS K as m H' := by
  refine ⟨hs.len, hs.nd, fun l a o h1 h2 => ?_, fun a ha => ⟨(hs.hid a ha).1, ?_⟩⟩
  · have q := hs.ob l a o h1 h2
    have e : H' a = H a := sm a fun z => n (List.mem_append_left _ (z ▸ List.mem_of_getElem? h1))
    cases o with
    | lst xs => obtain ⟨vs, g1, g2⟩ := q; exact ⟨vs, e.trans g1, g2.swap h h' sm⟩
    | dct xs => obtain ⟨vs, g1, g2⟩ := q; exact ⟨vs, e.trans g1, g2.swap h h' sm⟩
    | ins _ _ => obtain ⟨C, dx, vs, g1, g2, g3⟩ := q; exact ⟨C, dx, vs, e.trans g1, g2, g3.1, g3.2.swap h h' sm⟩
    | exn _ _ =>
      obtain ⟨C, dd, g1, g2, g3⟩ := q
      refine ⟨C, dd, e.trans g1, g2, ?_⟩
      rcases g3 with g3 | ⟨dd, vs, q1, q2, q3, q4, q5⟩
      · exact .inl g3
      · exact .inr ⟨dd, vs, q1, by rw [sm dd fun z => by subst z; rcases h with h | ⟨o, h⟩ <;> rw [h] at q2 <;> cases q2]; exact q2, q3, q4, q5.swap h h' sm⟩
  · obtain ⟨_, o, e⟩ := hs.hid a ha
    exact ⟨o, by rw [sm a fun z => n (List.mem_append_right _ (z ▸ ha))]; exact e⟩
theorem SR.swap {s : St} {r : Fr} (h : Rd H d (.dK ks)) (h' : Rd H' d (.dK ks)) (sm : ∀ b, b ≠ d → H' b = H b) (sr : SR K as H s r) : SR K as H' s r := ⟨sr.len, fun i x e => let ⟨v, a, b⟩ := sr.at_ i x e; ⟨v, a, b.swap h h' sm⟩⟩
/-- what was locked is laid open -/
theorem opened {as' : Pl} {od : Obj} (hd : H d = some (.dK ks)) (nd : d ∉ as.all) (e : Ext as (upd H d (.frz od (.dK ks))) as' H') :
    H' d = some (.frz od (.dK ks)) ∧ d ∉ as'.all ∧ Ext as H as' (upd H' d (.dK ks)) := by
  have e1 : (upd H d (.frz od (.dK ks))) d = some (.frz od (.dK ks)) := upd_same
  have e2 := e.fr d _ e1 (Pl.notl nd)
  refine ⟨e2, e.notin e1 nd, ?_, fun a o ha na => ?_⟩
  · obtain ⟨ns, hs, rfl, f1, f2⟩ := e.pre
    have back : ∀ a, upd H d (.frz od (.dK ks)) a = none → H a = none := fun a q => by
      by_cases z : a = d
      · subst z; rw [e1] at q; cases q
      · rwa [upd_ne z] at q
    exact ⟨ns, hs, rfl, fun a ha => ⟨(f1 a ha).1, back a (f1 a ha).2⟩, fun a ha => ⟨(f2 a ha).1, back a (f2 a ha).2⟩⟩
  · by_cases z : a = d
    · subst z
      rw [hd] at ha; cases ha
      exact upd_same
    · rw [upd_ne z]
      exact e.fr a o (by rw [upd_ne z]; exact ha) na
def lockE (d : Addr) (od : Obj) (u : HO) (En : Ends) : Ends :=
  ⟨fun σ' H' => H' d = some (.frz od u) ∧ En.nx σ' (upd H' d u), fun v H' => H' d = some (.frz od u) ∧ En.rt v (upd H' d u), fun σ' H' => H' d = some (.frz od u) ∧ En.bk σ' (upd H' d u), fun σ' H' => H' d = some (.frz od u) ∧ En.ct σ' (upd H' d u)⟩
theorem lock_F {R : RS} {En : Ends} {od : Obj} {Wx : WX} (hR : ∀ c fs r m, R ≠ .exc c fs r m) (hd : H d = some (.dK ks)) (nd : d ∉ as.all) (h : PostF K Wx as H R En) : PostF K Wx as (upd H d (.frz od (.dK ks))) R (lockE d od (.dK ks) En) := by
  cases R with
  | ok p =>
    obtain ⟨fl, r, m'⟩ := p
    intro as' σ' H' e hs sr
    obtain ⟨e2, nd', ex⟩ := opened hd nd e
    have sm : ∀ b, b ≠ d → (upd H' d (.dK ks)) b = H' b := fun b q => upd_ne q
    have g1 : Rd H' d (.dK ks) := .inr ⟨od, e2⟩
    have g2 : Rd (upd H' d (.dK ks)) d (.dK ks) := .inl upd_same
    have q := h as' σ' _ ex (hs.swap g1 g2 sm nd') (sr.swap g1 g2 sm)
    cases fl with
    | next => exact ⟨e2, q⟩
    | brk => exact ⟨e2, q⟩
    | cont => exact ⟨e2, q⟩
    | ret x => exact fun v rv => ⟨e2, q v (rv.swap g1 g2 sm)⟩
  | exc c fs r m => exact absurd rfl (hR c fs r m)
  | err => exact h.elim
theorem lock_V {R : RD} {Q : VK} {od : Obj} (hd : H d = some (.dK ks)) (nd : d ∉ as.all) (h : PostV K as H R Q) : PostV K as (upd H d (.frz od (.dK ks))) R (fun v H' => H' d = some (.frz od (.dK ks)) ∧ Q v (upd H' d (.dK ks))) := by
  cases R with
  | ok p =>
    obtain ⟨x, m'⟩ := p
    intro as' v H' e hs rv
    obtain ⟨e2, nd', ex⟩ := opened hd nd e
    have sm : ∀ b, b ≠ d → (upd H' d (.dK ks)) b = H' b := fun b q => upd_ne q
    have g1 : Rd H' d (.dK ks) := .inr ⟨od, e2⟩
    have g2 : Rd (upd H' d (.dK ks)) d (.dK ks) := .inl upd_same
    exact ⟨e2, h as' v _ ex (hs.swap g1 g2 sm nd') (rv.swap g1 g2 sm)⟩
  | exc _ _ _ => exact h.elim
  | err => exact h.elim
/-! ### what is walked -/
theorem key_key {as : Pl} {H : Hp} (k : Key) : Rep K as H (kV k) (keyD k) := by
  cases k
  · exact .int _
  · exact .str _
theorem repk_at {as : Pl} {H : Hp} : ∀ {kvs : List (Key × V)} {ds : List (Key × D)}, RepK K as H kvs ds → ∀ {i : Nat} {k : Key} {v : V}, kvs[i]? = some (k, v) → ∃ x, ds[i]? = some (k, x) ∧ Rep K as H v x
  | _, _, .nil, i, k, v, e => by simp at e
  | _, _, .cons r t, 0, k, v, e => by simp at e; obtain ⟨rfl, rfl⟩ := e; exact ⟨_, rfl, r⟩
  | _, _, .cons r t, i + 1, k, v, e => by
    simp only [List.getElem?_cons_succ] at e ⊢
    exact repk_at t e
theorem repk_length {as : Pl} {H : Hp} : ∀ {kvs : List (Key × V)} {ds : List (Key × D)}, RepK K as H kvs ds → kvs.length = ds.length
  | _, _, .nil => rfl
  | _, _, .cons _ t => by simp [repk_length t]
def ItDct (v : Option Bool) (d : Addr) (od : Obj) (ks : List (Key × V)) : It := match v with
  | some true => Itd d od ks
  | some false => Iti d od ks
  | none => Itk d od ks
theorem walked_dct {v : Option Bool} {od : Obj} {kvs : List (Key × D)} (hd : H d = some (.frz od (.dK ks))) (nd : d ∉ as.all) (rk : RepK K as H ks kvs) : Walked K as H (ItDct v d od ks) ⟨dItems v kvs, fun _ => True⟩ := by
  have hl : (dItems v kvs).length = ks.length := by rw [repk_length rk]; unfold dItems; split <;> simp
  rcases v with _ | _ | _
  · refine ⟨fun H => H d = some (.frz od (.dK ks)), fun i H x H' => H' = H ∧ ∃ k v, ks[i]? = some (k, v) ∧ x = kV k, by show Walk (Itk d od ks) (dItems none kvs).length _ _; rw [hl]; exact walk_keys, fun as1 m1 H1 ex hs _ => ⟨ex.fr d _ hd (Pl.notl nd), fun i x H2 hi ⟨e2, k, w, e3, e4⟩ => ?_⟩⟩
    subst e2 e4
    obtain ⟨y, g1, g2⟩ := repk_at (rk.ext ex) e3
    exact ⟨Ext.refl _ _, hs, _, by simp [dItems, g1], key_key k⟩
  rotate_left
  · refine ⟨fun H => H d = some (.frz od (.dK ks)), fun i H x H' => H' = H ∧ ∃ k, ks[i]? = some (k, x), by show Walk (Itd d od ks) (dItems (some true) kvs).length _ _; rw [hl]; exact walk_values, fun as1 m1 H1 ex hs _ => ⟨ex.fr d _ hd (Pl.notl nd), fun i x H2 hi ⟨e2, k, e3⟩ => ?_⟩⟩
    subst e2
    obtain ⟨y, g1, g2⟩ := repk_at (rk.ext ex) e3
    exact ⟨Ext.refl _ _, hs, y, by simp [dItems, g1], g2⟩
  · refine ⟨fun H => H d = some (.frz od (.dK ks)), YPair (fun i => ks[i]?.map fun kv => kV kv.1) (fun i => ks[i]?.map Prod.snd), by show Walk (Iti d od ks) (dItems (some false) kvs).length _ _; rw [hl]; exact walk_items, fun as1 m1 H1 ex hs _ => ⟨ex.fr d _ hd (Pl.notl nd), fun i x H2 hi y => ?_⟩⟩
    obtain ⟨T, p, q, rfl, hT, rfl, e2, e3⟩ := y
    obtain ⟨⟨k, w⟩, f1, rfl⟩ := Option.map_eq_some_iff.mp e2
    have e3 : ks[i]?.map Prod.snd = some q := e3
    rw [f1] at e3
    cases e3
    obtain ⟨y, g1, g2⟩ := repk_at (rk.ext ex) f1
    obtain ⟨z1, z2, z3⟩ := pair_rep hs hT (key_key (K := K) k) g2
    exact ⟨z1, z2, _, by simp [dItems, g1], z3⟩
/-- the dict in the slot, locked -/
def RDct (K : PySem.W.Frag) (i : Nat) (v : Option Bool) : TI := fun s H R => ∃ as r m kvs d od ks, HS K as m H ∧ SR K as H s r ∧ s[i]? = some (some (.ref d)) ∧ H d = some (.frz od (.dK ks)) ∧ d ∉ as.all ∧ RepK K as H ks kvs ∧ PostI K as H (.ok (⟨dItems v kvs, fun _ => True⟩, m)) R
/-- a slot's dict: locked already, or to be locked -/
theorem slot_dct {s : St} {r : Fr} {i : Nat} {kvs : List (Key × D)} (sr : SR K as H s r) (e : r[i]? = some (some (.dct kvs))) :
    ∃ d ks, s[i]? = some (some (.ref d)) ∧ d ∉ as.all ∧ RepK K as H ks kvs ∧ (H d = some (.dK ks) ∨ ∃ od, H d = some (.frz od (.dK ks))) := by
  obtain ⟨v, h1, rv⟩ := sr.at_ i _ e
  cases rv with
  | dct h n rk => exact ⟨_, _, h1, n, rk, h⟩
end
end DV

end
section
set_option Elab.async false
set_option linter.all false
set_option maxRecDepth 100000
set_option autoImplicit false
set_option maxHeartbeats 1000000
/-! Exceptions: held ones asked, made, raised, caught. -/
namespace DV
open PySem PySem.Spec PyProof.Rows L2
/-- what a held exception's dict is -/
def XDs (H : Hp) (d : Option Addr) : Prop := d = none ∨ ∃ dd vs, d = some dd ∧ H dd = some (.xd vs)
theorem XD.s {K : PySem.W.Frag} {as : Pl} {H : Hp} {d : Option Addr} {fs : List (Str × D)} (h : XD K as H d fs) : XDs H d := by
  rcases h with h | ⟨dd, vs, h1, h2, _⟩
  · exact .inl h.1
  · exact .inr ⟨dd, vs, h1, h2⟩
section
variable {X : Cx} {pins : List (Addr × Obj)} {σ : St} {H : Hp} {s : Shared} {a C : Addr} {d : Option Addr}
theorem held_at (I : Inv X pins σ H s) (h : H a = some (exT a C d)) (hd : XDs H d) : ∃ (oe : Obj) (od : Option Obj), PySem.W.InstAt s.heap a oe C od ∧ (∀ dd, d = some dd → ∃ o, od = some o ∧ s.heap.get? dd = some o) := by
  have x : ObjOk X.prog X.w H s.heap a (.ext fun h => ∃ (oe : Obj) (fv : Array Value), h.get? a = some oe ∧ oe.cls = .ref C ∧ oe.dict = d ∧ oe.data = .fields fv) := I.hok a _ h
  obtain ⟨⟨oe, fv, h1, h2, h3, h4⟩, _⟩ := x
  rcases hd with rfl | ⟨dd, vs, rfl, hx⟩
  · exact ⟨oe, none, ⟨h1, h2, by unfold PySem.W.notCls; rw [h4] <;> rfl, by rw [h3]; trivial⟩, fun _ z => nomatch z⟩
  · have hx : ObjOk X.prog X.w H s.heap dd (.xd vs) := I.hok dd _ hx
    obtain ⟨mA, ⟨od, es, ep, ho, _⟩, _⟩ := hx
    exact ⟨oe, some od, ⟨h1, h2, by unfold PySem.W.notCls; rw [h4] <;> rfl, by rw [h3]; exact ho⟩, fun d' z => by cases z; exact ⟨od, rfl, ho⟩⟩
theorem excC_some {K : PySem.W.Frag} {C : Addr} (h : L2.ExcC K C) : (PySem.W.clsIn K C).isSome = true := by
  obtain ⟨cd, hc, _⟩ := PySem.W.any_some h.hd
  rw [hc]; rfl
/-- isinstance(e, c) of a held exception -/
def rIsX (K : PySem.W.Frag) : List V → Hp → VK → Prop := fun xs H Q => ∃ (a C : Addr) (d : Option Addr) (c : V) (cv : Value) (b : Bool), xs = [.ref a, c] ∧ H a = some (exT a C d) ∧ XDs H d ∧ L2.ExcC K C ∧ ClsV c cv ∧ PySem.W.kitOne K (.ref C) cv = some b ∧ Q (.bl b) H
theorem call_isX {X : Cx} : CallR X (.builtin "isinstance") (rIsX X.K) := by
  intro pins s σ H xs us Q I r h
  obtain ⟨a, C, d, c, cv, b, rfl, ha, hd, T, k, e, q⟩ := h
  obtain ⟨u1, u2, rfl, r1, r2⟩ := vals2 r
  have e2 := k.eq r2
  subst e2
  cases (show u1 = Value.ref a from r1)
  obtain ⟨oe, od, J, _⟩ := held_at I ha hd
  exact PySem.W.kia_one (PySem.W.kitx_exc (od := od) (ox := oe) (excC_some T) T.hg T.hk T.hs T.ha T.hn T.ht T.hm) I.kIn J e (fun z => nomatch z) fun tk => ⟨.bl b, H, I.tok tk, rfl, q⟩
def rIsXT (K : PySem.W.Frag) : List V → Hp → VK → Prop := fun xs H Q => ∃ (a C tp : Addr) (d : Option Addr) (cs : List V) (us : List Value) (b : Bool), xs = [.ref a, .ref tp] ∧ H tp = some (.tup cs) ∧ H a = some (exT a C d) ∧ XDs H d ∧ L2.ExcC K C ∧ Paired ClsV cs us ∧ PySem.W.kitAny K (.ref C) us = some b ∧ Q (.bl b) H
theorem call_isXT {X : Cx} : CallR X (.builtin "isinstance") (rIsXT X.K) := by
  intro pins s σ H xs us Q I r h
  obtain ⟨a, C, tp, d, cs, ws, b, rfl, hT, ha, hd, T, k, e, q⟩ := h
  obtain ⟨u1, u2, rfl, r1, r2⟩ := vals2 r
  cases (show u2 = Value.ref tp from r2)
  cases (show u1 = Value.ref a from r1)
  obtain ⟨oe, od, J, _⟩ := held_at I ha hd
  obtain ⟨_, its, rv, o, h1, h2, n, h3⟩ := (show ObjOk X.prog X.w H s.heap tp (.tup cs) from I.hok tp _ hT)
  have e3 := ClsV.all k rv
  subst e3
  obtain ⟨oc, od', dt, sl⟩ := o
  simp only at h2 h3
  subst h2 h3
  exact PySem.W.kia_tup (PySem.W.kitx_exc (od := od) (ox := oe) (excC_some T) T.hg T.hk T.hs T.ha T.hn T.ht T.hm) I.kIn J h1 e (fun z => nomatch z) fun tk => ⟨.bl b, H, I.tok tk, rfl, q⟩
/-- e.f of a held exception -/
def tXfd (K : PySem.W.Frag) (n : Str) (te : TE) : TE := fun σ H Q => te σ H fun x H1 => ∃ (a C dd : Addr) (vs : List (Str × V)) (v : V), x = .ref a ∧ H1 a = some (exT a C (some dd)) ∧ H1 dd = some (.xd vs) ∧ vs.lookup n = some v ∧ XfC K C ∧ PySem.W.findIn K (.ref C) n = some none ∧ Q v H1
theorem pe_fX {X : Cx} {e : Expr} {te : TE} {pos : Pos} {n : Str} (he : PE X e te) (hb : attributeBase e n X.env (eval e X.env) = eval e X.env) : PE X (.Attribute e n pos) (tXfd X.K n te) := by
  refine ⟨fun pins s σ H Q I h => ?_⟩
  refine attr_of hb (thn (he.run pins s σ H _ I h) fun u s1 hh => ?_)
  obtain ⟨x, H1, I1, rx, a, C, dd, vs, v, ex, ha, hdd, l, T, hno, q⟩ := hh
  subst ex
  obtain rfl : u = Value.ref a := rx
  obtain ⟨oe, od, J, hd⟩ := held_at I1 ha (.inr ⟨dd, vs, rfl, hdd⟩)
  obtain ⟨o, rfl, ho⟩ := hd dd rfl
  have hx : ObjOk X.prog X.w H1 s1.heap dd (.xd vs) := I1.hok dd _ hdd
  obtain ⟨mA, hns, hr⟩ := hx
  obtain ⟨o2, ho2, hl⟩ := lookIn_ns hns
  rw [ho] at ho2
  cases ho2
  obtain ⟨u, hu, ru⟩ := RelO.some_of (v := v) (o := mA n) (by rw [← l]; exact hr n)
  exact HandSPX.exc_get I1.kIn J T.ga T.gg T.exC (PySem.W.findObj_own T.hdC hno rfl (by rw [hl, hu])) (handed_of ru) ⟨v, H1, I1.tok _, ru, q⟩
end
abbrev noCX : CXT := fun _ _ _ _ _ _ => False
/-! ### making -/
section
variable {X : Cx} {e : Expr} {es : List Expr} {ta : TA} {x : Str} {p1 p2 pos : Pos}
end
/-- what an own __init__ does: the field is set -/
def spI (K : PySem.W.Frag) (f : Str) : Sp := fun vs H Q _ => ∃ (a C : Addr) (v : V), vs = [.ref a, v] ∧ OexC K C ∧ PySem.W.findIn K (.ref C) f = some none ∧ H a = some (exo a C none) ∧ ∀ d, H d = none → d ≠ a → Q .non (upd (upd H d (exd d [(f, v)])) a (exo a C (some d)))
/-- a name of a class: an own one, or ValueError -/
def ClsN (mg : Str → Option Value) (d : String) (cv : Value) : Prop := (∃ A : Addr, mg (Str.ofString d) = some (.ref A) ∧ cv = .ref A) ∨ (mg (Str.ofString d) = none ∧ d = "ValueError" ∧ cv = .type "ValueError")
/-- what the module says of its exceptions -/
structure XX (P : Program) (w : World) (K : PySem.W.Frag) (mg : Str → Option Value) (base : Heap) (g : G) : Prop where
  sub : ∀ c d b, g.sub c d = some b → ∃ C D, clsK K c C ∧ L2.ExcC K C ∧ ClsN mg d D ∧ PySem.W.kitOne K (.ref C) D = some b ∧ PySem.W.exmOne K (.ref C) D = some b
  fld : ∀ c f, g.init c = some (some f) → ∃ C fI fd ps, mg (Str.ofString c) = some (.ref C) ∧ clsK K c C ∧ OexC K C ∧ PySem.W.findIn K (.ref C) "__init__" = some (some (.ref fI)) ∧ PySem.W.typeIn K (.ref fI) = some (.type "function") ∧
    FnOk P w K mg base noCX 1 fI fd ps (spI K f) ∧ Binds K fd ps [] ∧ PySem.W.findIn K (.ref C) f = some none ∧ XfC K C
  txt : ∀ c, g.init c = some none → ∃ C, mg (Str.ofString c) = some (.ref C) ∧ clsK K c C ∧ PySem.W.excIn K C [.type "ValueError", .type "Exception", .type "BaseException", .type "object"] "ValueError.__new__" = true ∧ PySem.W.keepIn K (.ref C) = true ∧ PySem.W.subIn K (.ref C) (.type "BaseException") = some true ∧ PySem.W.typeIn K (.ref C) = some (.type "type")
theorem REmono {K : PySem.W.Frag} {ev : Fr → Store → RD} {s : St} {H : Hp} {P Q : VK} (h : RE K ev s H P) (k : ∀ v H', P v H' → Q v H') : RE K ev s H Q := let ⟨as, r, m, hs, sr, h⟩ := h; ⟨as, r, m, hs, sr, h.mono k⟩
theorem made_eq {H1 : Hp} {a C d : Addr} {f : Str} {v : V} (h1 : H1 a = none) (hd : d ≠ a) : upd (del (upd (upd (upd H1 a (exo a C none)) d (exd d [(f, v)])) a (exo a C (some d))) a) d (.xd [(f, v)]) = upd H1 d (.xd [(f, v)]) := by
  funext b
  by_cases e : b = d
  · subst e; rw [upd_same, upd_same]
  · rw [upd_ne e, upd_ne e]
    by_cases e2 : b = a
    · subst e2; rw [del_same, h1]
    · rw [del_ne e2, upd_ne e2, upd_ne e, upd_ne e2]
section
variable {X : Cx} {g : G} {e : Expr} {c : String} {f : Str} {p pos : Pos} {ev : Fr → Store → RD}
/-- C(e), C's own __init__ setting the field f -/
theorem pmk1 (T : XX X.prog X.w X.K X.mg X.base g) (hr : Room 2 X.A) (hi : g.init c = some (some f)) (hg : Gl X (Str.ofString c)) (hdb : (Str.ofString c == ("__debug__" : Str)) = false) (ha : PE X e (RE X.K ev)) (he : starEach [e] X.env = (false, eval e X.env) :: starEach [] X.env) :
    PMk X (.Call (.Name (Str.ofString c) p) [e] [] pos) (fun σ H Q => RE X.K ev σ H fun v H1 => ∀ C d, clsK X.K c C → H1 d = none → Q (.ref C) (some d) (upd H1 d (.xd [(f, v)]))) := by
  obtain ⟨C, fI, fd, ps, hm, hk, TC, iC, tI, F1, hb, hno, _⟩ := T.fld c f hi
  have base := pmk_oex (CX := noCX) (dvs := []) (ds := []) (p := p) (pos := pos) TC iC tI F1 hr hb .nil (fun _ _ _ _ _ _ _ z => z.elim) hg hm (pa_cons ha pa_nil he) hdb he (by rfl)
  intro pins s σ H Q I h
  refine base pins s σ H Q I (REmono h fun v H1 q => ⟨Nat.le_of_ble_eq_true rfl, fun a na => ⟨a, C, v, rfl, TC, hno, upd_same, fun d nd hda => ⟨rfl, d, [(f, v)], upd_same, ?_, ?_, ?_⟩⟩⟩)
  · rw [upd_ne hda, upd_same]
  · rw [upd_ne hda] at nd; exact nd
  · rw [upd_ne hda] at nd
    rw [made_eq na hda]
    exact q C d hk nd
/-- C('..'), C without an __init__ of its own -/
theorem pmk0 (T : XX X.prog X.w X.K X.mg X.base g) (hi : g.init c = some none) (hg : Gl X (Str.ofString c)) (hdb : (Str.ofString c == ("__debug__" : Str)) = false) {m : Str} {j : Nat} {p2 : Pos} :
    PMk X (.Call (.Name (Str.ofString c) p) [.Constant (.str m) j p2] [] pos) (fun _ H Q => ∀ C, clsK X.K c C → Q (.ref C) none H) := by
  obtain ⟨C, hm, hk, hx, kC, h1, h2⟩ := T.txt c hi
  have base := pmk_own (m := m) (j := j) (p := p) (p2 := p2) (pos := pos) PySem.F.excBase_ValueError hx hm kC (raises_own h1 h2) hg hdb
  intro pins s σ H Q I h
  exact base pins s σ H Q I (h C hk)
end
/-! ### catching: the exception is held from then on -/
section
variable {X : Cx} {pins : List (Addr × Obj)} {σ : St} {H : Hp}
theorem _root_.L2.Inv.inSuite {s : Shared} (I : Inv X pins σ H s) (a : Addr) : Inv (X.suite a (X.pn ++ pins)) [] σ H s :=
  ⟨I.ok.suite _ _, I.os, I.bare, I.base, I.loc, I.cell, I.free, I.freeC, fun p hp => by rw [List.append_nil] at hp; exact I.pin p hp, I.hok, I.len⟩
theorem _root_.L2.Inv.outSuite {s : Shared} {a : Addr} {qs : List (Addr × Obj)} (I : Inv (X.suite a (X.pn ++ pins)) qs σ H s) (ok : X.Ok) : Inv X pins σ H s :=
  ⟨ok, I.os, I.bare, I.base, I.loc, I.cell, I.free, I.freeC, fun p hp => I.pin p (List.mem_append_left qs hp), I.hok, I.len⟩
/-- what stands in the heap is held from now on -/
theorem _root_.L2.Inv.hold {s0 s1 : Shared} {a C : Addr} {d : Option Addr} (I0 : Inv X pins σ H s0) (I : Inv X pins σ H s1) (hex : X.ex = []) (ha0 : s0.heap.get? a = none) (hHa : H a = none) (hl : a ≠ X.env.locals)
    (ho : ∃ (oe : Obj) (fv : Array Value), s1.heap.get? a = some oe ∧ oe.cls = .ref C ∧ oe.dict = d ∧ oe.data = .fields fv) : Inv X pins σ (upd H a (exT a C d)) s1 := by
  have noex : ∀ b : Addr, b ∉ X.ex := fun b z => by rw [hex] at z; cases z
  have base0 : ∀ b o, X.s_0.heap.get? b = some o → b ≠ a := fun b o e z => by
    subst z
    obtain ⟨o', e'⟩ := I0.base.there b o e (noex b)
    rw [ha0] at e'; cases e'
  refine ⟨I.ok, I.os, I.bare, ⟨I.base.keep, I.base.slot, fun b o e n x => ?_, I.base.there, fun b xs e => ?_, fun b o u e => ?_, fun b ps e => ?_⟩, I.loc, I.cell, ?_, fun y c e => ?_, fun p hp => ?_, fun b u e => ?_, I.len⟩
  · rw [upd_ne (base0 b o e)]; exact I.base.free b o e n x
  · have z := I.base.tups b xs e
    rw [upd_ne (ne_of_none z hHa)]; exact z
  · have z := I.base.frzs b o u e
    rw [upd_ne (ne_of_none z hHa)]; exact z
  · obtain ⟨more, z⟩ := I.base.tbls b ps e
    exact ⟨more, by rw [upd_ne (ne_of_none z hHa)]; exact z⟩
  · rw [upd_ne (Ne.symm hl)]; exact I.free
  · have nc : c ≠ a := fun z => by
      obtain ⟨v, hv⟩ := I0.cell y c e
      obtain ⟨oc, hoc, _⟩ := hv
      rw [z, ha0] at hoc; cases hoc
    rw [upd_ne nc]; exact I.freeC y c e
  · obtain ⟨g1, g2, g3⟩ := I.pin p hp
    have np : p.1 ≠ a := fun z => by
      have := (I0.pin p hp).1
      rw [z, ha0] at this; cases this
    exact ⟨g1, by rw [upd_ne np]; exact g2, g3⟩
  · by_cases hb : b = a
    · subst hb
      rw [upd_same] at e
      cases e
      obtain ⟨oe, fv, z1, z2, z3, z4⟩ := ho
      exact ⟨⟨oe, fv, z1, z2, z3, z4⟩, ⟨oe, z1⟩, fun h1 h2 ⟨oe, fv, y1, y2⟩ k => ⟨oe, fv, k _ y1, y2⟩⟩
    · rw [upd_ne hb] at e
      exact (I.hok b u e).stay (fun _ _ _ z => z) (fun c z => by rw [upd_ne (ne_of_none z hHa)]; exact z) fun c xs z => by rw [upd_ne (ne_of_none z hHa)]; exact z
end
/-- the name of the clause goes at its end -/
def goneE (i : Nat) (D : Ends) : Ends := { nx := fun σ' H' => D.nx (σ'.set i none) H', rt := D.rt, bk := fun σ' H' => D.bk (σ'.set i none) H', ct := fun σ' H' => D.ct (σ'.set i none) H' }
/-- what 'except x as n' wishes of an exception of the body -/
def wAsD (K : PySem.W.Frag) (cv : Value) (i : Nat) (ts : TS) (Wout : WX) (D : Ends) : WX := fun cls d σ H =>
  ∃ b, PySem.W.exmOne K cls cv = some b ∧ (b = true → ∃ C, cls = .ref C ∧ ∀ a, H a = none → ts (goneE i D) (σ.set i (some (.ref a))) (upd H a (exT a C d))) ∧ (b = false → Wout cls d σ H)
section
variable {X : Cx} {x n : Str} {cv : Value} {i : Nat} {body suite : List Stmt} {st : Stmt} {np pos pos2 : Pos} {tb : WX → TS} {ts : TS} {Wout : WX}
theorem ps_try_D (hs : X.stack = X.env :: X.outer) (hf : X.env.frame = some X.env.locals) (hex : X.ex = []) (hN : X.N.Nodup) (hi : X.N[i]? = some n) (hln : X.env.kindOf n = some .local) (hc : Names X x cv) (tk : Takes X Wout)
    (hb : ∀ (W : WX) (pn : List (Addr × Obj)) (xe : Value → Shared → Prop), Takes (X.tr pn xe) W → PassesOwn (model X.prog X.w) X.A X.env xe → PSs (X.tr pn xe) body (tb W))
    (hsu : ∀ (a : Addr) (pn : List (Addr × Obj)), PSs (X.suite a pn) (st :: suite) ts) :
    PS X (.Try body [.ExceptHandler (some (.Name x np)) (some n) (st :: suite) pos2] [] [] pos) (fun D σ H => tb (wAsD X.K cv i ts Wout D) D σ H) := by
  refine ⟨fun pins sh σ H D I h => ?_⟩
  have okX := I.ok
  have frames : X.A.frames = some (X.env :: X.outer) := by rw [okX.frames, hs]
  refine wpAny_Try_except ?_
  let xe1 : Value → Shared → Prop := fun ev sa => wpAny (model X.prog X.w) X.A (noteFrame ev X.env) (fun _ sb => wpAny (model X.prog X.w) X.A (setFlight ev none) (fun _ sc =>
    wpAny (model X.prog X.w) X.A (handleBy ev X.env [.ExceptHandler (some (.Name x np)) (some n) (st :: suite) pos2]) (SP X pins D) X.xe sc) X.xe sb) X.xe sa
  have tk1 : Takes (X.tr (X.pn ++ pins) xe1) (wAsD X.K cv i ts Wout D) := by
    intro u sx xx
    obtain ⟨a, B, sI, pins', σ1, H1, cls, d, rfl, J1, nb, up, sky, na, hos, ag, b, hb1, hyes, hno⟩ := xx
    have J : Inv X pins σ1 H1 sI := J1.ofTry okX
    have sky1 : Sky B (X.env :: X.outer) a (Zc cls d) X.env.locals sx.heap := by rw [← hs]; exact sky
    show wpAny (model X.prog X.w) X.A (noteFrame (.ref a) X.env) _ _ _
    refine Sky.land Zc.steady frames hf sky1 fun ha fla upa => ?_
    have Ja : Inv X pins σ1 H1 { sx with heap := ha } := J.landed nb fla.1 (up.trans upa) hos ag
    obtain ⟨oa, va, hea, hza, hda⟩ := fla.there
    have apart : ∀ {hh : Heap} {o : Obj} {vs : Array Value}, hh.FunFrames B (X.env :: X.outer) → hh.get? a = some o → o.data = .fields vs → a ∉ frs (X.env :: X.outer) := fun {hh o vs} ff ee dd hm => by
      obtain ⟨_, o', ee', hnf⟩ := ff.mem hm
      rw [ee] at ee'; cases ee'
      exact hnf _ dd
    have nfr := apart fla.2.2.1 hea hda
    have nL : a ≠ X.env.locals := fun z => nfr (List.mem_filterMap.mpr ⟨X.env, List.mem_cons_self, by rw [hf, z]⟩)
    have haI : sI.heap.get? a = none := by
      cases q : sI.heap.get? a with
      | none => rfl
      | some o =>
        have := nb a o q (by rw [hs]; exact nfr)
        rw [fla.2.1] at this; cases this
    have Sa := Ja.inSuite a
    refine wpAny_handleBy_cons (codeAny_handlers_test ?_) (by intro q; cases q)
    have LT : PySem.W.Looks (model X.prog X.w) ha (typeOf (.ref a)) cls := fun A Q E s k q => wpAny_typeOf_ref (k _ _ hea) (by rw [hza.1]; exact q)
    have LM := PySem.W.exm_one (M := model X.prog X.w) Ja.kIn LT hb1
    have named : ∀ {Q : Value → Shared → Prop} {E : Value → Shared → Prop}, Q cv { sx with heap := ha } → wpAny (model X.prog X.w) (X.A.mark (some (.ref a))) (eval (.Name x np) X.env) Q E { sx with heap := ha } := fun {Q E} q => by
      obtain ⟨hg, hdbg, hm | ⟨hm, hv, hnn⟩⟩ := hc
      · exact ld_glob (X := X.suite a (X.pn ++ pins)) Sa hg hm q hdbg
      · exact ld_blt (X := X.suite a (X.pn ++ pins)) Sa hg hm hv q hnn hdbg
    refine named (LM.here ?_)
    cases b with
    | true =>
      obtain ⟨C, rfl, hgo⟩ := hyes rfl
      refine codeAny_handlers_suite_as ?_
      refine HandSPX.lands_againZ fla fun hb4 flb upb => ?_
      have Jb : Inv X pins σ1 H1 { sx with heap := hb4 } := J.landed nb flb.1 ((up.trans upa).trans upb) hos ag
      obtain ⟨ob, vb, heb, hzb, hdb⟩ := flb.there
      have held := (J.hold Jb hex haI na nL ⟨ob, vb, heb, hzb.1, hzb.2, hdb⟩).inSuite a
      refine store_ok (X := X.suite a (X.pn ++ pins)) (v := .ref a) held hN hi (.inl hln) rfl (fun s5 S5 => ?_) (.inr hln)
      refine wpAny_mono ((hsu a (X.pn ++ pins)).run [] s5 _ _ _ S5 (hgo a na)) (fun f s6 fin => ?_) (fun _ _ z => False.elim z)
      have finish : ∀ {σ6 : St} {H6 : Hp} {Q : Shared → Prop}, Inv (X.suite a (X.pn ++ pins)) [] σ6 H6 s6 → (∀ s7, Inv X pins (σ6.set i none) H6 s7 → Q s7) →
          wpAny (model X.prog X.w) X.A (do bindName X.env n .none; unbindBehindTheSuite X.env n pos2) (fun _ s7 => Q s7) X.xe s6 := fun {σ6 H6 Q} S6 hq => gone_ok (S6.outSuite okX) hN hi hln hq
      cases f with
      | next =>
        obtain ⟨σ6, H6, S6, q6⟩ := fin
        exact finish S6 fun s7 J7 => ⟨_, _, J7, q6⟩
      | brk =>
        obtain ⟨σ6, H6, S6, q6⟩ := fin
        exact finish S6 fun s7 J7 => ⟨_, _, J7, q6⟩
      | cont =>
        obtain ⟨σ6, H6, S6, q6⟩ := fin
        exact finish S6 fun s7 J7 => ⟨_, _, J7, q6⟩
      | ret u =>
        obtain ⟨v6, σ6, H6, S6, r6, q6⟩ := fin
        exact finish S6 fun s7 J7 => ⟨_, _, _, J7, r6, q6⟩
    | false =>
      show wpAny _ X.A (handleBy (.ref a) X.env []) _ _ _
      refine wpAny_handleBy_nil ?_
      obtain ⟨k1, k2, k3, oe, vs, T, oT, tls, he, hz, hd, h1, hr⟩ := id fla
      unfold PySem.passOn
      refine wpAny_bind (wpAny_field he hd h1 ?_)
      rw [if_neg (show ¬ ((Value.ref T == Value.none) = true) from by simp)]
      have away : wpAny (model X.prog X.w) X.A (setFlight (.ref a) X.env.frame) (fun _ s4 => wpAny (model X.prog X.w) X.A (throw (.ref a) : Sem Flow) (SP X pins D) X.xe s4) X.xe { sx with heap := ha } := by
        rw [hf]
        refine HandSPX.setFlight_upZ fla fun hc4 hh4 upc => wpAny_throw (tk _ _ ?_)
        exact ⟨a, B, sI, pins, σ1, H1, cls, d, rfl, J, nb, (up.trans upa).trans upc, .inr (.inr (by rw [hs]; exact hh4)), na, hos, ag, hno rfl⟩
      first
        | exact wpAny_bind (wpAny_pure (wpAny_bind away))
        | exact wpAny_bind away
  refine wpAny_mono ((hb (wAsD X.K cv i ts Wout D) (X.pn ++ pins) xe1 tk1 PassesOwn.looking).run [] sh σ H D (I.toTry xe1) h) (fun f s1 fin => ?_) (fun ev s1 he => he)
  cases f with
  | next =>
    obtain ⟨σ2, H2, J2, q⟩ := fin
    exact wpAny_execs_nil ⟨σ2, H2, J2.ofTry okX, q⟩
  | brk =>
    obtain ⟨σ2, H2, J2, q⟩ := fin
    exact ⟨σ2, H2, J2.ofTry okX, q⟩
  | cont =>
    obtain ⟨σ2, H2, J2, q⟩ := fin
    exact ⟨σ2, H2, J2.ofTry okX, q⟩
  | ret u =>
    obtain ⟨v, σ2, H2, J2, r, q⟩ := fin
    exact ⟨v, σ2, H2, J2.ofTry okX, r, q⟩
end
end DV

end
section
set_option Elab.async false
set_option linter.all false
set_option maxRecDepth 100000
set_option autoImplicit false
set_option maxHeartbeats 4000000
/-! x[::-1] of a tuple, of a list -/
namespace DV
open PySem PySem.Spec PyProof.Rows L2 HT
section
variable {prog : Program} {w : World} {A : Around} {E : Value → Shared → Prop} {s : Shared}
theorem rv_adjust (n : Nat) : Builtin.Slice.sliceAdjust none none (-1) (n : Int) = ((n : Int) - 1, -1) := by
  unfold Builtin.Slice.sliceAdjust
  have h1 : ((-1 : Int) < 0) := by decide
  simp only [h1, if_true]
theorem rv_places (n : Nat) : Builtin.Slice.slicePlaces ((n : Int) - 1) (-1) (-1) = n := by
  unfold Builtin.Slice.slicePlaces
  have h1 : ¬ ((-1 : Int) > 0) := by decide
  simp only [h1, if_false]
  by_cases h : n = 0
  · subst h; rfl
  · have h2 : (n : Int) - 1 > -1 := by omega
    simp only [h2, if_true]
    have : ((n : Int) - 1 - -1 - 1) / (- -1) = (n : Int) - 1 := by
      rw [show (- -1 : Int) = 1 by decide, Int.ediv_one]; omega
    rw [this]; omega
theorem rv_applied {sl : Addr} {vs : Value} {n : Nat} {Q : Int × Int × Nat → Shared → Prop} (hs : s.heap.IsSliceOf sl .none .none vs) (ps : IsPart vs (some (-1)))
    (h : Q ((n : Int) - 1, -1, n) s) : wpAny (model prog w) A (Builtin.Slice.sliceApplied (.ref sl) (pure (n : Int))) Q E s := by
  obtain ⟨os, hos, hcs, hds⟩ := id hs
  unfold Builtin.Slice.sliceApplied Builtin.Slice.sliceFields
  refine wpAny_bind (wpAny_bind (wpAny_field hos hds (x := .none) rfl (wpAny_bind (wpAny_field hos hds (x := .none) rfl (wpAny_bind (wpAny_field hos hds (x := vs) rfl (wpAny_pure ?_)))))))
  refine wpAny_bind (slicePart_ ps ?_)
  show wpAny _ _ (if ((-1 : Int) == 0) = true then _ else _) _ _ s
  rw [if_neg (by decide)]
  refine wpAny_bind (slicePart_none (wpAny_bind (slicePart_none (wpAny_bind (wpAny_pure ?_)))))
  show wpAny _ _ (match Builtin.Slice.sliceAdjust none none (-1) (n : Int) with | (lo, hi) => pure (lo, (-1 : Int), Builtin.Slice.slicePlaces lo hi (-1))) _ _ s
  rw [rv_adjust]
  show wpAny _ _ (pure ((n : Int) - 1, (-1 : Int), Builtin.Slice.slicePlaces ((n : Int) - 1) (-1) (-1))) _ _ s
  rw [rv_places]
  exact wpAny_pure h
theorem rv_pick (xs : Array Value) : ((List.range xs.size).filterMap fun (m : Nat) => xs[((xs.size : Int) - 1 + (m : Int) * -1).toNat]?).toArray = xs.toList.reverse.toArray := by
  congr 1
  have e : ∀ k, k ≤ xs.size → (List.range k).filterMap (fun (m : Nat) => xs[((xs.size : Int) - 1 + (m : Int) * -1).toNat]?) = (xs.toList.reverse).take k := by
    intro k
    induction k with
    | zero => intro _; simp
    | succ k ih =>
      intro hk
      rw [List.range_succ, List.filterMap_append, ih (by omega), List.take_add_one]
      congr 1
      have : ((xs.size : Int) - 1 + (k : Int) * -1).toNat = xs.size - 1 - k := by omega
      have h2 : xs.toList.reverse[k]? = xs[xs.size - 1 - k]? := by
        rw [List.getElem?_reverse (by rw [Array.length_toList]; omega)]; simp
      rw [h2]
      simp only [List.filterMap_cons, List.filterMap_nil, this]
      cases xs[xs.size - 1 - k]? <;> rfl
  rw [e _ (Nat.le_refl _)]
  exact List.take_of_length_le (by simp)
theorem getItem_tuple_rev {t sl : Addr} {items : Array Value} {vs : Value} {Q : Value → Shared → Prop} (ht : IsTup s.heap t items) (hs : s.heap.IsSliceOf sl .none .none vs) (ps : IsPart vs (some (-1)))
    (h : Q (.ref s.heap.objs.size) { s with heap := s.heap.push { cls := .type "tuple", data := .seq items.toList.reverse.toArray } })
    (hsz : items.size ≤ sizeLine) : wpAny (model prog w) A (getItem (.ref t) (.ref sl)) Q E s := by
  have htake : sizeOk (.seq items.toList.reverse.toArray) := by
    show items.toList.reverse.toArray.size ≤ sizeLine
    simpa using hsz
  obtain ⟨os, hos, hcs, hds⟩ := id hs
  have hTs : s.TypeIs (.ref sl) "slice" := ⟨os, hos, hcs⟩
  unfold getItem
  try with_reducible refine wpAny_holding ?_
  first | refine wpAny_bind (wpAny_pure ?_) | skip
  refine wpAny_bind (wpAny_sequenceKey ht.typeIs (by decide) ?_)
  refine wpAny_bind (wpAny_callSpecial?_slot (name := Str.ofString "__getitem__") ht.typeIs PyProof.Rows.slot_tuple_getitem
    (wpAny_call_entry PyProof.Rows.slot_tuple_getitem ht.typeIs entry_tuple_getitem ?_ (args_tuple_getitem _ _)))
  show wpAny _ _ (Builtin.Tuple.tupleItemsOf (.ref t) >>= _) _ _ s
  refine wpAny_bind (tupleItemsOf_ ht ?_)
  refine wpAny_bind (wpAny_typeOf hTs ?_)
  rw [if_pos (by decide)]
  refine wpAny_bind (rv_applied hs ps ?_)
  have hno : ¬ ((((items.size : Int) - 1) == 0 && (-1 : Int) == 1 && items.size == items.size) = true) := by
    intro q
    rw [Bool.and_eq_true, Bool.and_eq_true] at q
    exact absurd (eq_of_beq q.1.2) (by decide)
  show wpAny _ _ (if (((items.size : Int) - 1) == 0 && (-1 : Int) == 1 && items.size == items.size) = true then _ else _) _ _ s
  rw [if_neg hno, rv_pick]
  first
    | exact wpAny_bind (m := Builtin.Tuple.tupleExact _) (wpAny_newObj_type (wpAny_pure ⟨_, rfl, wpAny_pure h⟩) htake)
    | exact wpAny_bind (m := Builtin.Tuple.tupleExact _) (wpAny_newObj_type (wpAny_bind (wpAny_pure (wpAny_pure ⟨_, rfl, wpAny_pure h⟩))) htake)
    | exact wpAny_bind (wpAny_bind (m := Builtin.Tuple.tupleExact _) (wpAny_newObj_type (wpAny_pure (wpAny_pure ⟨_, rfl, wpAny_pure h⟩)) htake))
    | exact wpAny_bind (wpAny_bind (m := Builtin.Tuple.tupleExact _) (wpAny_newObj_type (wpAny_pure ⟨_, rfl, wpAny_pure h⟩) htake))
end
section
variable {X : Cx}
def tRevA (K : PySem.W.Frag) (te : TE) : TE := fun σ H Q => te σ H fun x H1 => (∃ a xs, x = .ref a ∧ SqL K H1 a xs ∧ ∀ p, H1 p = none → Q (.ref p) (upd H1 p (.lst xs.reverse))) ∨ (∃ a xs, x = .ref a ∧ SqT K H1 a xs ∧ ∀ p, H1 p = none → Q (.ref p) (upd H1 p (.tup xs.reverse)))
theorem pe_revA {e : Expr} {te : TE} {k : Nat} {p1 p2 p3 pos : Pos} (he : PE X e te) : PE X (.Subscript e (.Slice none none (some (.UnaryOp .USub (.Constant (.int 1) k p1) p2)) p3) pos) (tRevA X.K te) := by
  refine ⟨fun pins s σ H Q I h => ?_⟩
  refine Subscript_ (thn (he.run pins s σ H _ I h) fun v s1 ⟨x, H1, I1, r1, q1⟩ => ?_)
  rcases q1 with q1 | q1
  · obtain ⟨a, xs, ex, hx, q⟩ := q1
    subst ex
    cases r1
    have hst : PO X (some (.UnaryOp .USub (.Constant (.int 1) k p1) p2)) (tPart (tUn (rU fun i => .int (-i)) (tC (.int 1)))) := po_some (pe_un un_neg pe_int)
    refine wpAny_Slice (thn (po_none.run pins s1 σ H1 (fun o H2 => o = none ∧ H2 = H1) I1 ⟨rfl, rfl⟩) fun vl s2 ⟨l, H2, I2, pl, el, e2⟩ => ?_)
    subst el e2
    refine thn (po_none.run pins s2 σ H2 (fun o H3 => o = none ∧ H3 = H2) I2 ⟨rfl, rfl⟩) fun vu s3 ⟨u, H3, I3, pu, eu, e3⟩ => ?_
    subst eu e3
    refine thn (hst.run pins s3 σ H3 (fun o H4 => o = some (-1) ∧ H4 = H3) I3 ⟨1, rfl, -1, rfl, rfl, rfl⟩) fun vs s4 ⟨o, H4, I4, ps, eo, e4⟩ => ?_
    subst eo e4
    have I5 : Inv X pins σ H4 { s4 with heap := s4.heap.push { cls := .type "slice", data := .fields #[vl, vu, vs] } } := I4.kept (t' := s4.toks) fun b ob q => Heap.get?_push_of_some _ q
    obtain ⟨its, r, ht, hz⟩ := I5.list hx
    have hlen := r.length
    show wpAny (model X.prog X.w) X.A (subscriptTail e (.Slice none none (some (.UnaryOp .USub (.Constant (.int 1) k p1) p2)) p3) (.ref a) (.ref s4.heap.objs.size)) (EP X pins σ Q) X.xe { s4 with heap := s4.heap.push { cls := .type "slice", data := .fields #[vl, vu, vs] } }
    refine tail_any (ops := [.ref a, .ref s4.heap.objs.size]) ht.isList.typeIs (PySem.slot_list_getitem.lookup) ?_ (by with_unfolding_all rfl)
    refine wpAny_getItem_list_slice ht.isList (Heap.IsSliceOf.new _ vl vu vs) pl pu ps (by decide) ?_ (by rw [List.size_toArray]; omega)
    rw [PySem.W.krv_pick]
    refine ⟨.ref _, _, I5.laid (t' := s4.toks) (o := .lst xs.reverse) (fun b ob q => Heap.get?_push_of_some _ q) (Nat.le_refl _) ?_, rfl, q _ (I5.hok.fresh (Nat.le_refl _))⟩
    exact ⟨by rw [List.length_reverse]; exact hz, _, 0, r.reverse, Heap.get?_push_size _ rfl⟩
  · obtain ⟨a, xs, ex, hx, q⟩ := q1
    subst ex
    cases r1
    have hst : PO X (some (.UnaryOp .USub (.Constant (.int 1) k p1) p2)) (tPart (tUn (rU fun i => .int (-i)) (tC (.int 1)))) := po_some (pe_un un_neg pe_int)
    refine wpAny_Slice (thn (po_none.run pins s1 σ H1 (fun o H2 => o = none ∧ H2 = H1) I1 ⟨rfl, rfl⟩) fun vl s2 ⟨l, H2, I2, pl, el, e2⟩ => ?_)
    subst el e2
    refine thn (po_none.run pins s2 σ H2 (fun o H3 => o = none ∧ H3 = H2) I2 ⟨rfl, rfl⟩) fun vu s3 ⟨u, H3, I3, pu, eu, e3⟩ => ?_
    subst eu e3
    refine thn (hst.run pins s3 σ H3 (fun o H4 => o = some (-1) ∧ H4 = H3) I3 ⟨1, rfl, -1, rfl, rfl, rfl⟩) fun vs s4 ⟨o, H4, I4, ps, eo, e4⟩ => ?_
    subst eo e4
    cases pl
    cases pu
    have I5 : Inv X pins σ H4 { s4 with heap := s4.heap.push { cls := .type "slice", data := .fields #[.none, .none, vs] } } := I4.kept (t' := s4.toks) fun b ob q => Heap.get?_push_of_some _ q
    obtain ⟨its, r, ht, hz⟩ := I5.tuple hx
    have hlen := r.length
    show wpAny (model X.prog X.w) X.A (subscriptTail e (.Slice none none (some (.UnaryOp .USub (.Constant (.int 1) k p1) p2)) p3) (.ref a) (.ref s4.heap.objs.size)) (EP X pins σ Q) X.xe { s4 with heap := s4.heap.push { cls := .type "slice", data := .fields #[.none, .none, vs] } }
    refine tail_any (ops := [.ref a, .ref s4.heap.objs.size]) ht.typeIs (PyProof.Rows.slot_tuple_getitem.lookup) ?_ (by with_unfolding_all rfl)
    refine getItem_tuple_rev ht (Heap.IsSliceOf.new _ .none .none vs) ps ?_ (by rw [List.size_toArray]; omega)
    refine ⟨.ref _, _, I5.laid (t' := s4.toks) (o := .tup xs.reverse) (fun b ob q => Heap.get?_push_of_some _ q) (Nat.le_refl _) ?_, rfl, q _ (I5.hok.fresh (Nat.le_refl _))⟩
    exact ⟨by rw [List.length_reverse]; exact hz, _, r.reverse, IsTup.new _ _⟩
end
end DV

end
section
set_option Elab.async false
set_option linter.all false
set_option maxRecDepth 100000
set_option autoImplicit false
/-! Expressions. -/
namespace DV
open PySem PySem.Spec PyProof.Rows L2
/-! ### the check -/
def gl (c : Cc) (x : Str) : Bool := decide (c.sc.names.lookup x = some .globalImplicit)
def okNm (x : Str) : Bool := !(x == ("__debug__" : Str)) && !(x == ("__classdict__" : Str)) && !(x == ("__name__" : Str))
def opB : BOp → Operator
  | .add => .Add | .sub => .Sub | .mul => .Mult | .fdiv => .FloorDiv | .mod => .Mod | .pow => .Pow
def opC : COp → CmpOp
  | .eq => .Eq | .ne => .NotEq | .lt => .Lt | .le => .LtE | .gt => .Gt | .ge => .GtE | .in_ => .In | .notin => .NotIn
def nmB : Bi → Str
  | .len => "len" | .abs => "abs" | .int => "int" | .str => "str" | .repr => "repr" | .sum => "sum" | .min => "min" | .max => "max" | .min2 => "min" | .max2 => "max"
  | .sorted => "sorted" | .list => "list" | .tuple => "tuple" | .dict => "dict" | .all => "all" | .any => "any" | .bool => "bool"
  | .lenset => "" | .sortset => "" | .isi _ => ""
def nmM : Mt → Str
  | .append => "append" | .extend => "extend" | .pop => "pop" | .popAt => "pop" | .reverse => "reverse" | .clear => "clear" | .insert => "insert" | .index => "index" | _ => ""
def tyS : Ty → String
  | .int => "int" | .str => "str" | .bool => "bool" | .tuple => "tuple" | .list => "list" | .dict => "dict" | .own _ => ""
def nmT : Ty → Str
  | .int => "int" | .str => "str" | .bool => "bool" | .tuple => "tuple" | .list => "list" | .dict => "dict" | .own _ => ""
def plainBase : Expr → Bool
  | .Name .. => true | .Subscript .. => true | .ListComp .. => true | .Tuple .. => true | .List .. => true
  | _ => false
def plainB : Expr → Bool
  | .Name .. => true | .Subscript .. => true | .Constant .. => true
  | _ => false
def nmS : Sm → Str
  | .join => "join" | .split => "split" | .partition => "partition" | .upper => "upper"
def is0 : Sm → Bool
  | .upper => true
  | _ => false
def noSet : Expr → Bool
  | .Set .. => false
  | _ => true
def asRg : List Expr → Option (Str × Expr)
  | [x] => match x with
    | .Call (.Name y _) zs [] _ => match zs with
      | [z] => some (y, z)
      | _ => none
    | _ => none
  | _ => none
def as2 : List Expr → Option (Expr × Expr)
  | [x, y] => some (x, y)
  | _ => none
theorem asRg_eq {xs : List Expr} {y : Str} {z : Expr} (h : asRg xs = some (y, z)) : ∃ p q, xs = [.Call (.Name y p) [z] [] q] := by
  unfold asRg at h
  split at h
  · split at h
    · split at h
      · cases h; exact ⟨_, _, rfl⟩
      · cases h
    · cases h
  · cases h
theorem as2_eq {xs : List Expr} {y z : Expr} (h : as2 xs = some (y, z)) : xs = [y, z] := by
  unfold as2 at h
  split at h
  · cases h; rfl
  · cases h
def asMt0 : Expr → Option (Expr × Str × Pos × Pos)
  | .Call f xs ks q => match f with
    | .Attribute v a p => match xs with
      | [] => match ks with
        | [] => some (v, a, p, q)
        | _ => none
      | _ => none
    | _ => none
  | _ => none
theorem asMt0_eq {x v : Expr} {a : Str} {p q : Pos} (h : asMt0 x = some (v, a, p, q)) : x = .Call (.Attribute v a p) [] [] q := by
  unfold asMt0 at h
  split at h
  · split at h
    · split at h
      · split at h
        · cases h; rfl
        · cases h
      · cases h
    · cases h
  · cases h
def asOne : List Expr → Option Expr
  | [x] => some x
  | _ => none
theorem asOne_eq {xs : List Expr} {x : Expr} (h : asOne xs = some x) : xs = [x] := by
  unfold asOne at h
  split at h
  · cases h; rfl
  · cases h
def isTp : Expr → Bool
  | .Tuple .. => true
  | _ => false
def nmD (v : Bool) : Str := if v then "values" else "items"
/-- a walk over the items, the values of the dict in a slot -/
def chkD (c : Cc) (i : Nat) (w : Option Bool) (tg it : Expr) : Bool := match w with
  | none => (match it with
    | .Name x _ => decide (c.N[i]? = some x) && vis c x && okNm x
    | _ => false)
  | some v => match asMt0 it with
  | some (b, m, p, q) => (match b with
    | .Name x _ => decide (c.N[i]? = some x) && vis c x && okNm x
    | _ => false) && decide (m = nmD v) && decide (p.endLine = q.line) && (v || isTp tg)
  | none => false
theorem chkD_none {c : Cc} {i : Nat} {tg it : Expr} (h : chkD c i none tg it = true) : ∃ x px, it = .Name x px ∧ c.N[i]? = some x ∧ vis c x = true ∧ okNm x = true := by
  cases it <;> simp [chkD] at h
  rename_i x px
  exact ⟨x, px, rfl, h.1.1, h.1.2, h.2⟩
theorem chkD_of {c : Cc} {i : Nat} {v : Bool} {tg it : Expr} (h : chkD c i (some v) tg it = true) : ∃ x px p q, it = .Call (.Attribute (.Name x px) (nmD v) p) [] [] q ∧ c.N[i]? = some x ∧ vis c x = true ∧ okNm x = true ∧ p.endLine = q.line ∧ (v || isTp tg) = true := by
  simp only [chkD] at h
  split at h
  · rename_i b m p q e
    have e := asMt0_eq e
    subst e
    simp only [Bool.and_eq_true, decide_eq_true_eq] at h
    obtain ⟨⟨⟨h1, h2⟩, h3⟩, h4⟩ := h
    split at h1
    · rename_i x px
      simp only [Bool.and_eq_true, decide_eq_true_eq] at h1
      subst h2
      exact ⟨x, px, p, q, rfl, h1.1.1, h1.1.2, h1.2, h3, h4⟩
    · cases h1
  · cases h
def isNam : Expr → Bool
  | .Name .. => true
  | _ => false
def asTpl : Expr → Option (List Expr)
  | .Tuple es _ _ => some es
  | _ => none
def asNam : Expr → Option Str
  | .Name y _ => some y
  | _ => none
/-- a class is named -/
def chkN1 (c : Cc) (d : String) (t : Expr) : Bool := match asNam t with
  | some y => decide (y = Str.ofString d) && gl c y && okNm y
  | none => false
def chkNs (c : Cc) : List String → List Expr → Bool
  | [], [] => true
  | d :: ds, t :: ts => chkN1 c d t && chkNs c ds ts
  | _, _ => false
def chkCl (c : Cc) (cs : List String) (t : Expr) : Bool := match asTpl t with
  | some ts => decide (ts.length ≤ 30) && decide (cs ≠ []) && chkNs c cs ts
  | none => match cs with
    | [d] => chkN1 c d t
    | _ => false
theorem asTpl_eq {e : Expr} {es : List Expr} (h : asTpl e = some es) : ∃ k p, e = .Tuple es k p := by
  unfold asTpl at h
  split at h
  · cases h; exact ⟨_, _, rfl⟩
  · cases h
theorem asNam_eq {e : Expr} {y : Str} (h : asNam e = some y) : ∃ p, e = .Name y p := by
  unfold asNam at h
  split at h
  · cases h; exact ⟨_, rfl⟩
  · cases h
theorem isNam_eq {e : Expr} (h : isNam e = true) : ∃ y p, e = .Name y p := by
  unfold isNam at h
  split at h
  · exact ⟨_, _, rfl⟩
  · cases h
def calmB : Bi → Bool
  | .repr => true
  | _ => false
mutual
def chkE (tb : List (Str × String)) (c : Cc) : E → Expr → Bool
  | .var i, .Name x _ => decide (c.N[i]? = some x) && vis c x && okNm x
  | .int n, .Constant (.int k) _ _ => decide (n = k)
  | .bl b, .Constant (.bool k) _ _ => decide (b = k)
  | .non, .Constant .none _ _ => true
  | .str x, .Constant (.str y) _ _ => decide (x = y)
  | .con x, .Name y _ => decide (x = y) && gl c x && okNm x
  | .bin _ o a b, .BinOp l op r _ => decide (opB o = op) && chkE tb c a l && chkE tb c b r
  | .neg a, .UnaryOp .USub x _ => chkE tb c a x
  | .sm0 t o, .Call (.Attribute v a p) [] [] q => decide (a = nmS t) && is0 t && plainB v && decide (p.endLine = q.line) && chkE tb c o v
  | .sm1 _ t o e, .Call (.Attribute v a p) [x] [] q => decide (a = nmS t) && !is0 t && plainB v && decide (p.endLine = q.line) && chkE tb c o v && chkE tb c e x
  | .rev _ a, .Subscript v (.Slice none none (some (.UnaryOp .USub (.Constant (.int 1) _ _) _)) _) _ => chkE tb c a v
  | .lrg _ a, .Call (.Name x _) xs [] _ => match asRg xs with
    | some (y, z) => c.cm && decide (x = "list") && decide (y = "range") && gl c x && gl c y && chkE tb c a z
    | none => false
  | .lset a, .Call (.Name x _) xs [] _ => match asRg xs with
    | some (y, z) => c.cm && decide (x = "len") && decide (y = "set") && gl c x && gl c y && chkE tb c a z
    | none => false
  | .litems _ a, .Call (.Name x _) xs [] _ => match asOne xs with
    | some y => match asMt0 y with
      | some (v, m, p, q) => c.cm && decide (x = "list") && decide (m = "items") && plainBase v && decide (p.endLine = q.line) && gl c x && chkE tb c a v
      | none => false
    | none => false
  | .orv a b, .BoolOp .Or xs _ => match as2 xs with
    | some (x, y) => chkE tb c a x && chkE tb c b y
    | none => false
  | .isi t a, .Call (.Name x _) [y, .Name z _] [] _ => decide (x = "isinstance") && decide (z = nmT t) && decide (nmT t ≠ "") && gl c x && gl c z && chkE tb c a y
  | .isx a cs, .Call (.Name x _) xs [] _ => match as2 xs with
    | some (y, t) => decide (x = "isinstance") && gl c x && chkE tb c a y && chkCl c cs t
    | none => false
  | .fld a n, .Attribute v m _ => decide (m = n) && isNam v && chkE tb c a v
  | .dpop o k e, .Call (.Attribute v m p) xs [] q => match as2 xs with
    | some (y, z) => decide (m = "pop") && plainBase v && decide (p.endLine = q.line) && chkE tb c o v && chkE tb c k y && chkE tb c e z
    | none => false
  | .dget o k e, .Call (.Attribute v m p) xs [] q => match as2 xs with
    | some (y, z) => decide (m = "get") && plainBase v && decide (p.endLine = q.line) && chkE tb c o v && chkE tb c k y && chkE tb c e z
    | none => false
  | .dclr o, .Call (.Attribute v m p) xs [] q => match xs with
    | [] => decide (m = "clear") && plainBase v && decide (p.endLine = q.line) && chkE tb c o v
    | _ :: _ => false
  | .tix es e, .Call (.Attribute v m p) xs [] q => match asTpl v, asOne xs with
    | some ys, some z => decide (m = "index") && decide (p.endLine = q.line) && chkEs tb c es ys && chkE tb c e z
    | _, _ => false
  | .cmp o a b, .Compare l [op] [r] _ => decide (opC o = op) && chkE tb c a l && chkE tb c b r && noSet r
  | .cmp2 o o' a b d, .Compare l [op, op'] [r, r'] _ => decide (opC o = op) && decide (opC o' = op') && chkE tb c a l && chkE tb c b r && chkE tb c d r' && noSet r'
  | .isN a, .Compare l [.Is] [.Constant .none _ _] _ => chkE tb c a l
  | .notN a, .Compare l [.IsNot] [.Constant .none _ _] _ => chkE tb c a l
  | .isB n k a, .Compare l [op] [.Constant (.bool b) _ _] _ => decide (op = if n then CmpOp.IsNot else CmpOp.Is) && decide (b = k) && chkE tb c a l
  | .not a, .UnaryOp .Not x _ => chkE tb c a x
  | .and es, .BoolOp .And xs _ => chkEs tb c es xs
  | .or es, .BoolOp .Or xs _ => chkEs tb c es xs
  | .ife k a b, .IfExp t x y _ => chkE tb c k t && chkE tb c a x && chkE tb c b y
  | .tup es, .Tuple xs _ _ => chkEs tb c es xs
  | .lst _ es, .List xs _ => chkEs tb c es xs
  | .dct _ ps, .Dict ks vs _ => decide (ks.length ≤ 15) && chkPs tb c ps ks vs
  | .idx a i, .Subscript v s _ => chkE tb c a v && chkE tb c i s
  | .slc _ a lo hi, .Subscript v (.Slice l h none _) _ => chkE tb c a v && chkO tb c lo l && chkO tb c hi h
  | .call n es, .Call (.Name x _) xs [] _ => decide ((x, n) ∈ tb) && gl c x && okNm x && chkEs tb c es xs
  | .bi _ b es, .Call (.Name x _) (y :: xs) [] _ => (c.cm || calmB b) && decide (x = nmB b) && decide (x ≠ "") && gl c x && chkEs tb c es (y :: xs)
  | .mt _ t o es, .Call (.Attribute v a p) xs [] q => decide (a = nmM t) && decide (a ≠ "") && plainBase v && decide (xs.length < 30) && decide (p.endLine = q.line) && chkE tb c o v && chkEs tb c es xs
  | .lc _ t own it k e, .ListComp x [⟨tg, i, ifs, 0⟩] sc _ =>
    let c' : Cc := ⟨c.N, relS sc c.sc, sc, c.cm⟩
    let ow : List (Str × Nat) := own.filterMap fun n => (c.N[n]?).map (·, n)
    c.cm && decide (ow.map (·.2) = own) && blkC c.N c.sc sc ow && t.slots.all (fun n => decide (n ∈ own)) && chkT c' t tg && chkI tb c it tg i && chkC tb c' k ifs && chkE tb c' e x && noSet i
  | .lcD _ t own i v k e, .ListComp x [⟨tg, it, ifs, 0⟩] sc _ =>
    let c' : Cc := ⟨c.N, relS sc c.sc, sc, c.cm⟩
    let ow : List (Str × Nat) := own.filterMap fun n => (c.N[n]?).map (·, n)
    c.cm && decide (ow.map (·.2) = own) && blkC c.N c.sc sc ow && t.slots.all (fun n => decide (n ∈ own)) && chkT c' t tg && chkD c i v tg it && chkC tb c' k ifs && chkE tb c' e x
  | _, _ => false
def chkO (tb : List (Str × String)) (c : Cc) : Oe → Option Expr → Bool
  | .none, none => true
  | .some e, some x => chkE tb c e x
  | _, _ => false
def chkC (tb : List (Str × String)) (c : Cc) : Oe → List Expr → Bool
  | .none, [] => true
  | .some e, [x] => chkE tb c e x
  | _, _ => false
def chkEs (tb : List (Str × String)) (c : Cc) : Es → List Expr → Bool
  | .nil, [] => true
  | .cons e es, x :: xs => chkE tb c e x && chkEs tb c es xs
  | _, _ => false
def chkPs (tb : List (Str × String)) (c : Cc) : Ps → List (Option Expr) → List Expr → Bool
  | .nil, [], [] => true
  | .cons k v ps, some x :: xs, y :: ys => chkE tb c k x && chkE tb c v y && chkPs tb c ps xs ys
  | _, _, _ => false
def chkI (tb : List (Str × String)) (c : Cc) : I → Expr → Expr → Bool
  | .seq e, _, x => chkE tb c e x
  | .rng1 a, _, .Call (.Name x _) [y] [] _ => decide (x = "range") && gl c x && chkE tb c a y
  | .rng2 a b, _, .Call (.Name x _) [y, z] [] _ => decide (x = "range") && gl c x && chkE tb c a y && chkE tb c b z
  | .rng3 a b d, _, .Call (.Name x _) [y, z, u] [] _ => decide (x = "range") && gl c x && chkE tb c a y && chkE tb c b z && chkE tb c d u
  | .enum a, .Tuple _ _ _, .Call (.Name x _) [y] [] _ => decide (x = "enumerate") && gl c x && chkE tb c a y
  | .zip a b, .Tuple _ _ _, .Call (.Name x _) [y, z] [] _ => decide (x = "zip") && gl c x && chkE tb c a y && chkE tb c b z
  | .zip3 a b d, .Tuple _ _ _, .Call (.Name x _) [y, z, u] [] _ => decide (x = "zip") && gl c x && chkE tb c a y && chkE tb c b z && chkE tb c d u
  | _, _, _ => false
end
def bNames : List Str := ["len", "abs", "int", "str", "repr", "sum", "min", "max", "sorted", "list", "tuple", "dict", "all", "any", "bool", "range", "enumerate", "zip", "isinstance", "set"]
/-- contexts alike -/
def Like (X X' : Cx) : Prop := X'.prog = X.prog ∧ X'.w = X.w ∧ X'.K = X.K ∧ X'.mg = X.mg ∧ X'.base = X.base ∧ X'.A = X.A
/-- the module, as the evaluator sees it -/
structure XG (X : Cx) (g : G) (tb : List (Str × String)) : Prop where
  bl : ∀ x ∈ bNames, X.mg x = none
  xx : XX X.prog X.w X.K X.mg X.base g
  con : ∀ x d, g.con x = some d → ∃ v u, X.mg x = some u ∧ RelV v u ∧ ∀ as H, Rep X.K as H v d
  calls : ∀ x n, (x, n) ∈ tb → ∃ f, X.mg x = some (.ref f) ∧ PySem.W.keepIn X.K (.ref f) = true ∧ ∀ X', Like X X' → CallR X' (.ref f) (RC X'.K (g.fn n))
theorem XC.blk {X : Cx} {c : Cc} (h : XC X c) (sc : Scope) (s : Shared) (H : Hp) (C : Addr) (cl : List (Str × Addr)) (fp : List Addr) : XC (X.blk s H sc (compEnvC sc cl C X.env) fp) ⟨c.N, relS sc c.sc, sc, c.cm⟩ := by
  refine ⟨h.N, h.nd, ?_, fun x hx => ?_, h.calm, h.room, h.gd⟩
  · show relabel sc X.env = relS sc c.sc
    rw [← h.sc]; rfl
  · show (sc.names.lookup x == some .cell) = true
    rw [hx]; rfl
theorem XG.blk {X : Cx} {g : G} {tb : List (Str × String)} (h : XG X g tb) (sc : Scope) (s : Shared) (H : Hp) (C : Addr) (cl : List (Str × Addr)) (fp : List Addr) : XG (X.blk s H sc (compEnvC sc cl C X.env) fp) g tb :=
  ⟨h.bl, h.xx, h.con, fun x n hn => let ⟨f, h1, h2, h3⟩ := h.calls x n hn; ⟨f, h1, h2, fun X' hX => h3 X' hX⟩⟩
/-! ### readings -/
def RTe (K : PySem.W.Frag) (ev : Fr → Store → RD) : TT := RT K fun r m => (ev r m).bind fun (x, m1) => isB x fun k => .ok (k, m1)
section
variable {K : PySem.W.Frag} {as : Pl} {H : Hp} {m : Store} {γ δ : Type} {rel : Pl → Hp → δ → γ → Prop}
theorem isB_of {x : D} {f : Bool → Res (γ × Store)} {Q : δ → Hp → Prop} (h : Post K rel as H (isB x f) Q) : ∃ b, x = .bl b ∧ Post K rel as H (f b) Q := by
  cases x <;> first | exact h.elim | exact ⟨_, rfl, h⟩
theorem RTe.ofB {ev : Fr → Store → RD} {s : St} {Q : Bool → Hp → Prop} (h : RTe K ev s H Q) : tB (RE K ev) s H Q := by
  obtain ⟨as, r, m, hs, sr, h⟩ := h
  refine RE.first hs sr h fun as1 m1 v x H1 e hs1 sr1 rp q => ?_
  obtain ⟨b, rfl, q⟩ := isB_of q
  exact ⟨b, bl_rep rp, q.here hs1 rfl⟩
/-- two values, then an operator -/
theorem two_of {a b : Fr → Store → RD} {op : D → D → Store → RD} {s : St} {Q : VK} (h : RE K (fun r m => (a r m).bind fun (x, m1) => (b r m1).bind fun (y, m2) => op x y m2) s H Q) : tOp (R2D K op) (RE K a) (RE K b) s H Q := by
  obtain ⟨as, r, m, hs, sr, h⟩ := h
  refine RE.first hs sr h fun as1 m1 v x H1 e hs1 sr1 rp q => RE.first hs1 sr1 q fun as2 m2 w y H2 e2 hs2 sr2 rp2 q2 => ?_
  exact ⟨as2, m2, x, y, hs2, rp.ext e2, rp2, q2⟩
end
/-- an operator whose answer is a bool -/
theorem OpR.bD {X : Cx} {f : Value → Value → Sem Value} {op : D → D → Store → Res Bool} (h : OpR X f (R2B X.K op)) : OpR X f (R2D X.K fun a b m => (op a b m).bind fun c => .ok (.bl c, m)) := by
  refine OpR.imp h fun x y H Q ⟨as, m, a, b, hs, ra, rb, q⟩ => ?_
  dsimp only at q
  cases e : op a b m with
  | ok c => rw [e] at q; exact ⟨as, m, a, b, c, hs, ra, rb, e, q.here hs (.bl _)⟩
  | exc _ _ _ => rw [e] at q; exact q.elim
  | err => rw [e] at q; exact q.elim
section
variable {X : Cx} {c : Cc}
theorem op_binD (f : Bool) (o : BOp) : OpR X (binaryOp (opB o)) (R2D X.K (binD f o)) := by
  cases o
  · exact op_addD f
  · exact op_subD f
  · exact op_mulD f
  · exact op_fdivD f
  · exact op_modD f
  · exact op_powD f
theorem ord_int {op : CmpOp} {p : Int → Int → Bool} {k : D → D → Bool} (hi : OpR X (compareOp op) (rI0 fun i j => .bl (p i j))) (ho : OpR X (compareOp op) (R2B X.K fun a b m => ordM k m a b)) {ev : D → D → Store → Res Bool}
    (h1 : ∀ i j m, ev (.int i) (.int j) m = .ok (p i j)) (h2 : ∀ a b m, ev a b m = ordM k m a b ∨ ∃ i j, a = .int i ∧ b = .int j) : OpR X (compareOp op) (R2B X.K ev) := by
  refine OpR.imp (OpR.or hi ho) fun x y H Q ⟨as, m, a, b, c, hs, ra, rb, e, q⟩ => ?_
  rcases h2 a b m with h | ⟨i, j, rfl, rfl⟩
  · exact .inr ⟨as, m, a, b, c, hs, ra, rb, h.symm.trans e, q⟩
  · rw [h1] at e
    cases e
    exact .inl ⟨i, j, int_rep ra, int_rep rb, q⟩
theorem op_cmpD (hu : X.A.units + 64 < cLine) (o : COp) : OpR X (compareOp (opC o)) (R2B X.K (cmpB o)) := by
  cases o
  · exact op_eqG hu
  · exact op_neG hu
  · refine ord_int (p := fun i j => decide (i < j)) op_lt (op_ltG hu) (fun i j m => rfl) fun a b m => ?_
    cases a <;> first | exact .inl rfl | (cases b <;> first | exact .inl rfl | exact .inr ⟨_, _, rfl, rfl⟩)
  · refine ord_int (p := fun i j => decide (i ≤ j)) op_le (op_leG hu) (fun i j m => rfl) fun a b m => ?_
    cases a <;> first | exact .inl rfl | (cases b <;> first | exact .inl rfl | exact .inr ⟨_, _, rfl, rfl⟩)
  · refine ord_int (p := fun i j => decide (j < i)) op_gt (op_gtG hu) (fun i j m => rfl) fun a b m => ?_
    cases a <;> first | exact .inl rfl | (cases b <;> first | exact .inl rfl | exact .inr ⟨_, _, rfl, rfl⟩)
  · refine ord_int (p := fun i j => decide (j ≤ i)) op_ge (op_geG hu) (fun i j m => rfl) fun a b m => ?_
    cases a <;> first | exact .inl rfl | (cases b <;> first | exact .inl rfl | exact .inr ⟨_, _, rfl, rfl⟩)
  · exact op_inG hu
  · exact op_notinG hu
theorem pt_ifE {k a b : Expr} {p : Pos} {tk ta tb : TT} (hk : PT X k tk) (ha : PT X a ta) (hb : PT X b tb) : PT X (.IfExp k a b p) (fun σ H Q => tk σ H fun c H1 => if c = true then ta σ H1 Q else tb σ H1 Q) := by
  refine ⟨fun pins s σ H Q I h => ?_⟩
  unfold PySem.isTrue
  refine wpAny_bind (thn (hk.run pins s σ H _ I h) fun d s1 ⟨H1, I1, q1⟩ => ?_)
  cases d with
  | true => exact ha.run pins s1 σ H1 Q I1 q1
  | false => exact hb.run pins s1 σ H1 Q I1 q1
theorem starEach_of {tb : List (Str × String)} {env : PySem.Env} : ∀ {es : Es} {xs : List Expr}, chkEs tb c es xs = true → starEach xs env = xs.map fun x => (false, eval x env)
  | .nil, [], _ => by rw [starEach]; rfl
  | .nil, _ :: _, h => by simp [chkEs] at h
  | .cons _ _, [], h => by simp [chkEs] at h
  | .cons e es, x :: xs, h => by
    rw [chkEs, Bool.and_eq_true] at h
    have q := starEach_of (env := env) h.2
    have e1 : starEach (x :: xs) env = (false, eval x env) :: starEach xs env := by
      cases x <;> first | rfl | (cases e <;> simp [chkE] at h)
    rw [e1, q]; rfl
theorem back_plain {p : Pos} {xs : List Expr} {env : PySem.Env} : (backTo p (xs.map fun x => (false, eval x env))).any (·.1) = false := by
  induction xs with
  | nil => rfl
  | cons x xs ih => simp only [List.map_cons, backTo, List.any_cons]; simpa [backTo] using ih
theorem back_few {p : Pos} {xs : List Expr} {env : PySem.Env} : (backTo p (xs.map fun x => (false, eval x env))).all (fun x => !x.1) = true := by
  induction xs with
  | nil => rfl
  | cons x xs ih => simp only [List.map_cons, backTo, List.all_cons]; simpa [backTo] using ih
theorem boot_B (b : Bi) (h : nmB b ≠ "") : bootBuiltins (nmB b) = some (biV b) ∧ nmB b ∈ bNames ∧ nmB b ≠ "__name__" ∧ (nmB b == ("__debug__" : Str)) = false := by
  cases b <;> first | exact absurd rfl h | exact ⟨by decide +kernel, by decide +kernel, by decide +kernel, by decide +kernel⟩
end
end DV

end
section
set_option Elab.async false
set_option linter.all false
set_option maxRecDepth 100000
set_option autoImplicit false
/-! Expressions: each construct. -/
namespace DV
open PySem PySem.Spec PyProof.Rows L2
section
variable {X : Cx} {c : Cc} {g : G} {tb : List (Str × String)} {p : Pos}
abbrev EvE (X : Cx) (g : G) (e : E) (x : Expr) : Prop := PE X x (RE X.K (evE g e))
abbrev EvT (X : Cx) (g : G) (e : E) (x : Expr) : Prop := PT X x (RTe X.K (evE g e))
abbrev EvB (X : Cx) (g : G) (e : E) (x : Expr) : Prop := EvE X g e x ∧ EvT X g e x
abbrev EvA (X : Cx) (g : G) (es : Es) (xs : List Expr) : Prop := PA X xs (RA X.K (evEs g es))
abbrev EvI (X : Cx) (g : G) (i : I) (tg x : Expr) : Prop := PI X tg x (RI X.K (evI g i))
/-- a test by its value -/
theorem ev_test {e : E} {x : Expr} (h : EvE X g e x) (he : ∀ whole, PySem.isTrue x X.env whole = (do let v ← whole; standAt x.pos; holding [v] (truthy v))) : EvB X g e x := ⟨h, PT.imp (pt_val h he) fun _ _ _ h => h.ofB⟩
theorem ev_var (hx : XC X c) {i : Nat} {x : Str} (h1 : c.N[i]? = some x) (h2 : vis c x = true) (h3 : okNm x = true) : EvE X g (.var i) (.Name x p) := by
  simp only [okNm, Bool.and_eq_true, Bool.not_eq_true'] at h3
  refine PE.imp (pe_var (by rw [hx.N]; exact h1) (by rw [hx.sc]; simpa [vis, Vis, or_assoc] using h2) h3.1.1 h3.1.2) fun s H Q ⟨as, r, m, hs, sr, h⟩ => ?_
  rw [evE] at h
  split at h
  · rename_i d e
    obtain ⟨v, e2, rv⟩ := sr.at_ i d e
    exact ⟨v, e2, h.here hs rv⟩
  · exact h.elim
theorem ev_con (hx : XC X c) (hg : XG X g tb) {x : Str} (h1 : gl c x = true) (h3 : okNm x = true) : EvE X g (.con x) (.Name x p) := by
  simp only [okNm, Bool.and_eq_true, Bool.not_eq_true'] at h3
  cases hc : g.con x with
  | none => exact PE.imp (t := fun _ _ _ => False) ⟨fun _ _ _ _ _ _ h => h.elim⟩ fun s H Q ⟨as, r, m, hs, sr, h⟩ => by rw [evE, hc] at h; exact h
  | some d =>
    obtain ⟨v, u, h4, h5, h6⟩ := hg.con x d hc
    refine PE.imp (pe_glob (by show X.env.kindOf x = _; unfold Env.kindOf; rw [hx.sc]; simpa [gl] using h1) h4 h5 h3.1.1) fun s H Q ⟨as, r, m, hs, sr, h⟩ => ?_
    rw [evE, hc] at h
    exact h.here hs (h6 as H)
theorem ev_int {n : Int} {k : Nat} : EvE X g (.int n) (.Constant (.int n) k p) := PE.imp pe_int fun s H Q ⟨as, r, m, hs, sr, h⟩ => by rw [evE] at h; exact h.here hs (.int _)
theorem ev_bl {n : Bool} {k : Nat} : EvE X g (.bl n) (.Constant (.bool n) k p) := PE.imp pe_bl fun s H Q ⟨as, r, m, hs, sr, h⟩ => by rw [evE] at h; exact h.here hs (.bl _)
theorem ev_non {k : Nat} : EvE X g .non (.Constant .none k p) := PE.imp pe_non fun s H Q ⟨as, r, m, hs, sr, h⟩ => by rw [evE] at h; exact h.here hs .non
theorem ev_str {n : Str} {k : Nat} : EvE X g (.str n) (.Constant (.str n) k p) := PE.imp pe_str fun s H Q ⟨as, r, m, hs, sr, h⟩ => by rw [evE] at h; exact h.here hs (.str _)
theorem ev_bin {f : Bool} {o : BOp} {a b : E} {l r : Expr} (ha : EvE X g a l) (hb : EvE X g b r) : EvE X g (.bin f o a b) (.BinOp l (opB o) r p) := PE.imp (pe_op (op_binD f o) ha hb) fun s H Q ⟨as, r, m, hs, sr, h⟩ => by
  rw [evE] at h
  exact two_of ⟨as, r, m, hs, sr, h⟩
theorem ev_neg {a : E} {x : Expr} (ha : EvE X g a x) : EvE X g (.neg a) (.UnaryOp .USub x p) := PE.imp (pe_un un_neg ha) fun s H Q ⟨as, r, m, hs, sr, h⟩ => by
  rw [evE] at h
  refine RE.first hs sr h fun as1 m1 v x H1 e hs1 sr1 rp q => ?_
  cases x <;> first | exact q.elim | skip
  exact ⟨_, int_rep rp, q.here hs1 (.int _)⟩
theorem noSet_behind {op : CmpOp} {r : Expr} (h : noSet r = true) : behindInMarks op r = false := by cases r <;> first | rfl | (simp [noSet] at h)
theorem ev_cmp (hx : XC X c) {o : COp} {a b : E} {l r : Expr} (ha : EvE X g a l) (hb : EvE X g b r) (hn : noSet r = true) : EvB X g (.cmp o a b) (.Compare l [opC o] [r] p) := by
  have two : ∀ s H Q, RE X.K (evE g (.cmp o a b)) s H Q → tOp (R2D X.K fun a b m => (cmpB o a b m).bind fun c => .ok (.bl c, m)) (RE X.K (evE g a)) (RE X.K (evE g b)) s H Q := fun s H Q ⟨as, r, m, hs, sr, h⟩ => by
    rw [evE] at h
    exact two_of ⟨as, r, m, hs, sr, h⟩
  exact ⟨PE.imp (pe_cmpR (OpR.bD (op_cmpD hx.room o)) ha hb (noSet_behind hn)) two, PT.imp (pt_cmpR (OpR.bD (op_cmpD hx.room o)) ha hb (noSet_behind hn)) fun s H Q h => two s H _ h.ofB⟩
theorem ev_cmp2 (hx : XC X c) {o o' : COp} {a b d : E} {l r r' : Expr} (ha : EvE X g a l) (hb : EvE X g b r) (hd : EvE X g d r') (hn : noSet r' = true) : EvB X g (.cmp2 o o' a b d) (.Compare l [opC o, opC o'] [r, r'] p) := by
  have o1 := op_cmpD (X := X) hx.room o
  have o2 := OpR.bD (op_cmpD (X := X) hx.room o')
  have hm : lastMarks [opC o, opC o'] [r, r'] = false := noSet_behind hn
  have two : ∀ s H Q, RE X.K (evE g (.cmp2 o o' a b d)) s H Q → tChain (R2B X.K (cmpB o)) (R2D X.K fun a b m => (cmpB o' a b m).bind fun c => .ok (.bl c, m)) (RE X.K (evE g a)) (RE X.K (evE g b)) (RE X.K (evE g d)) s H Q := fun s H Q ⟨as, r, m, hs, sr, h⟩ => by
    rw [evE] at h
    refine RE.first hs sr h fun as1 m1 v x H1 e hs1 sr1 rp q => RE.first hs1 sr1 q fun as2 m2 w y H2 e2 hs2 sr2 rp2 q2 => ?_
    dsimp only at q2
    cases ec : cmpB o x y m2 with
    | exc _ _ _ => rw [ec] at q2; exact q2.elim
    | err => rw [ec] at q2; exact q2.elim
    | ok k =>
      rw [ec] at q2
      refine ⟨as2, m2, x, y, k, hs2, rp.ext e2, rp2, ec, k, rfl, ?_⟩
      cases k with
      | false => exact q2.here hs2 (.bl _)
      | true =>
        refine RE.first hs2 sr2 q2 fun as3 m3 u z H3 e3 hs3 sr3 rp3 q3 => ?_
        exact ⟨as3, m3, y, z, hs3, rp2.ext e3, rp3, q3⟩
  exact ⟨PE.imp (pe_chain o1 o2 ha hb hd hm) two, PT.imp (pt_chain o1 o2 ha hb hd hm) fun s H Q h => two s H _ h.ofB⟩
theorem isNon_rep {as : Pl} {H : Hp} {v : V} {d : D} (r : Rep X.K as H v d) : decide (v = V.non) = isNon d := by cases r <;> simp [isNon]
theorem ev_isN {a : E} {l : Expr} {k : Nat} {p2 : Pos} (ha : EvE X g a l) : EvB X g (.isN a) (.Compare l [.Is] [.Constant .none k p2] p) := by
  have two : ∀ s H Q, RE X.K (evE g (.isN a)) s H Q → tOp (fun x y H Q => y = .non ∧ Q (.bl (decide (x = .non))) H) (RE X.K (evE g a)) (tC .non) s H Q := fun s H Q ⟨as, r, m, hs, sr, h⟩ => by
    rw [evE] at h
    refine RE.first hs sr h fun as1 m1 v x H1 e hs1 sr1 rp q => ⟨rfl, ?_⟩
    rw [isNon_rep rp]
    exact q.here hs1 (.bl _)
  exact ⟨PE.imp (pe_cmpR op_isN ha pe_non rfl) two, PT.imp (pt_cmpR op_isN ha pe_non rfl) fun s H Q h => two s H _ h.ofB⟩
theorem ev_notN {a : E} {l : Expr} {k : Nat} {p2 : Pos} (ha : EvE X g a l) : EvB X g (.notN a) (.Compare l [.IsNot] [.Constant .none k p2] p) := by
  have two : ∀ s H Q, RE X.K (evE g (.notN a)) s H Q → tOp (fun x y H Q => y = .non ∧ Q (.bl (!decide (x = .non))) H) (RE X.K (evE g a)) (tC .non) s H Q := fun s H Q ⟨as, r, m, hs, sr, h⟩ => by
    rw [evE] at h
    refine RE.first hs sr h fun as1 m1 v x H1 e hs1 sr1 rp q => ⟨rfl, ?_⟩
    rw [isNon_rep rp]
    exact q.here hs1 (.bl _)
  exact ⟨PE.imp (pe_cmpR op_notN ha pe_non rfl) two, PT.imp (pt_cmpR op_notN ha pe_non rfl) fun s H Q h => two s H _ h.ofB⟩
theorem ev_isB {n k : Bool} {a : E} {l : Expr} {j : Nat} {p2 : Pos} (ha : EvE X g a l) : EvB X g (.isB n k a) (.Compare l [if n then CmpOp.IsNot else CmpOp.Is] [.Constant (.bool k) j p2] p) := by
  cases n with
  | false =>
    have two : ∀ s H Q, RE X.K (evE g (.isB false k a)) s H Q → tOp rIsB (RE X.K (evE g a)) (tC (.bl k)) s H Q := fun s H Q ⟨as, r, m, hs, sr, h⟩ => by
      rw [evE] at h
      refine RE.first hs sr h fun as1 m1 v x H1 e hs1 sr1 rp q => ?_
      cases x <;> first | exact q.elim | skip
      rename_i b
      exact ⟨b, k, bl_rep rp, rfl, q.here hs1 (.bl _)⟩
    exact ⟨PE.imp (pe_cmpR op_isBl ha pe_bl rfl) two, PT.imp (pt_cmpR op_isBl ha pe_bl rfl) fun s H Q h => two s H _ h.ofB⟩
  | true =>
    have two : ∀ s H Q, RE X.K (evE g (.isB true k a)) s H Q → tOp rNotB (RE X.K (evE g a)) (tC (.bl k)) s H Q := fun s H Q ⟨as, r, m, hs, sr, h⟩ => by
      rw [evE] at h
      refine RE.first hs sr h fun as1 m1 v x H1 e hs1 sr1 rp q => ?_
      cases x <;> first | exact q.elim | skip
      rename_i b
      exact ⟨b, k, bl_rep rp, rfl, q.here hs1 (.bl _)⟩
    exact ⟨PE.imp (pe_cmpR op_notBl ha pe_bl rfl) two, PT.imp (pt_cmpR op_notBl ha pe_bl rfl) fun s H Q h => two s H _ h.ofB⟩
theorem ev_not {a : E} {x : Expr} (ha : EvB X g a x) : EvB X g (.not a) (.UnaryOp .Not x p) := by
  refine ⟨PE.imp (pe_not ha.1) fun s H Q ⟨as, r, m, hs, sr, h⟩ => ?_, PT.imp (pt_not ha.2) fun s H Q ⟨as, r, m, hs, sr, h⟩ => ?_⟩
  · rw [evE] at h
    refine RE.first hs sr h fun as1 m1 v x H1 e hs1 sr1 rp q => ?_
    obtain ⟨b, rfl, q⟩ := isB_of q
    exact ⟨b, bl_rep rp, q.here hs1 (.bl _)⟩
  · dsimp only at h
    rw [evE] at h
    refine ⟨as, r, m, hs, sr, ?_⟩
    dsimp only
    cases e : evE g a r m with
    | exc _ _ _ => rw [e] at h; exact h.elim
    | err => rw [e] at h; exact h.elim
    | ok xm =>
      obtain ⟨x, m1⟩ := xm
      rw [e] at h
      cases x <;> first | exact h.elim | skip
      intro as1 b H1 e1 hs1 eb
      subst eb
      exact h as1 _ H1 e1 hs1 rfl
/-- a test of an expression, then more -/
theorem test_of {K : PySem.W.Frag} {ev : Fr → Store → RD} {as : Pl} {H : Hp} {r : Fr} {m : Store} {s : St} {γ δ : Type} {rel : Pl → Hp → δ → γ → Prop} {f : Bool → Store → Res (γ × Store)} {Q : δ → Hp → Prop} {P : Bool → Hp → Prop} (hs : HS K as m H) (sr : SR K as H s r)
    (h : Post K rel as H ((ev r m).bind fun (x, m1) => isB x fun b => f b m1) Q) (k : ∀ as1 m1 b H1, Ext as H as1 H1 → HS K as1 m1 H1 → SR K as1 H1 s r → Post K rel as1 H1 (f b m1) Q → P b H1) : RTe K ev s H P := by
  refine ⟨as, r, m, hs, sr, ?_⟩
  dsimp only
  cases e : ev r m with
  | exc _ _ _ => rw [e] at h; exact h.elim
  | err => rw [e] at h; exact h.elim
  | ok xm =>
    obtain ⟨x, m1⟩ := xm
    rw [e] at h
    cases x <;> first | exact h.elim | skip
    rename_i b
    intro as1 b' H1 e1 hs1 eb
    subst eb
    exact k as1 m1 b' H1 e1 hs1 (sr.ext e1) (Post.later e1 h)
theorem ev_ife {k a b : E} {x y z : Expr} (hk : EvB X g k x) (ha : EvB X g a y) (hb : EvB X g b z) : EvB X g (.ife k a b) (.IfExp x y z p) := by
  refine ⟨PE.imp (pe_ifExp hk.2 ha.1 hb.1) fun s H Q ⟨as, r, m, hs, sr, h⟩ => ?_, PT.imp (pt_ifE hk.2 ha.2 hb.2) fun s H Q ⟨as, r, m, hs, sr, h⟩ => ?_⟩
  · rw [evE] at h
    refine test_of (f := fun k m1 => if k = true then evE g a r m1 else evE g b r m1) hs sr h fun as1 m1 b H1 e1 hs1 sr1 q => ?_
    cases b with
    | true => exact ⟨as1, r, m1, hs1, sr1, q⟩
    | false => exact ⟨as1, r, m1, hs1, sr1, q⟩
  · dsimp only at h
    rw [evE] at h
    refine test_of (rel := fun _ _ (x y : Bool) => x = y) (Q := Q) (f := fun t m1 => (if t = true then evE g a r m1 else evE g b r m1).bind fun (x, m1) => isB x fun k => .ok (k, m1)) hs sr ?_ fun as1 m1 b H1 e1 hs1 sr1 q => ?_
    · cases e : evE g k r m with
      | exc _ _ _ => rw [e] at h; exact h
      | err => rw [e] at h; exact h
      | ok xm =>
        obtain ⟨x, m1⟩ := xm
        rw [e] at h
        cases x <;> first | exact h.elim | exact h
    · cases b with
      | true => exact ⟨as1, r, m1, hs1, sr1, q⟩
      | false => exact ⟨as1, r, m1, hs1, sr1, q⟩
theorem ev_tup {es : Es} {xs : List Expr} {k : Nat} (h : EvA X g es xs) : EvE X g (.tup es) (.Tuple xs k p) := PE.imp (pe_tup h) fun s H Q ⟨as, r, m, hs, sr, h⟩ => by
  rw [evE] at h
  exact RA.first hs sr h fun as1 m1 v x H1 e hs1 sr1 rp q => newT_post hs1 rp q
theorem ev_lst {f : Bool} {es : Es} {xs : List Expr} (h : EvA X g es xs) : EvE X g (.lst f es) (.List xs p) := PE.imp (pe_lst h) fun s H Q ⟨as, r, m, hs, sr, h⟩ => by
  rw [evE] at h
  exact RA.first hs sr h fun as1 m1 v x H1 e hs1 sr1 rp q => newL_post hs1 rp q
theorem ev_nil : EvA X g .nil [] := PA.imp pa_nil fun s H Q ⟨as, r, m, hs, sr, h⟩ => by
  rw [evEs] at h
  exact h.here hs .nil
theorem ev_cons {e : E} {es : Es} {x : Expr} {xs : List Expr} (ha : EvE X g e x) (hr : EvA X g es xs) (h : starEach (x :: xs) X.env = (false, eval x X.env) :: starEach xs X.env) : EvA X g (.cons e es) (x :: xs) := PA.imp (pa_cons ha hr h) fun s H Q ⟨as, r, m, hs, sr, h⟩ => by
  rw [evEs] at h
  refine RE.first hs sr h fun as1 m1 v x H1 e hs1 sr1 rp q => RA.first hs1 sr1 q fun as2 m2 w y H2 e2 hs2 sr2 rp2 q2 => ?_
  exact q2.here hs2 (.cons (rp.ext e2) rp2)
theorem ev_idx (hx : XC X c) {a i : E} {x y : Expr} (ha : EvE X g a x) (hi : EvE X g i y) (hs : PlainIx y) : EvE X g (.idx a i) (.Subscript x y p) := PE.imp (pe_ix (ix_D (by have := hx.room; omega)) ha hi hs) fun s H Q ⟨as, r, m, hs, sr, h⟩ => by
  rw [evE] at h
  exact two_of ⟨as, r, m, hs, sr, h⟩
def RO (K : PySem.W.Frag) (ev : Fr → Store → Res (Option Int × Store)) : TO := fun s H Q => ∃ as r m, HS K as m H ∧ SR K as H s r ∧ PostE K as H (ev r m) Q
theorem PO.imp {e : Option Expr} {t t' : TO} (h : PO X e t) (k : ∀ s H Q, t' s H Q → t s H Q) : PO X e t' := ⟨fun pins s σ H Q I hw => h.run pins s σ H Q I (k _ _ _ hw)⟩
abbrev EvO (X : Cx) (g : G) (o : Oe) (x : Option Expr) : Prop := PO X x (RO X.K (evO g o))
theorem ev_no : EvO X g .none none := PO.imp po_none fun s H Q ⟨as, r, m, hs, sr, h⟩ => by rw [evO] at h; exact h.here hs rfl
theorem ev_so {e : E} {x : Expr} (he : EvE X g e x) : EvO X g (.some e) (some x) := PO.imp (po_some he) fun s H Q ⟨as, r, m, hs, sr, h⟩ => by
  rw [evO] at h
  refine RE.first hs sr h fun as1 m1 v x H1 e hs1 sr1 rp q => ?_
  cases x <;> first | exact q.elim | skip
  exact ⟨_, int_rep rp, q.here hs1 rfl⟩
theorem RO.first {K : PySem.W.Frag} {a : Fr → Store → Res (Option Int × Store)} {γ δ : Type} {rel' : Pl → Hp → δ → γ → Prop} {f : Option Int × Store → Res (γ × Store)} {as : Pl} {r : Fr} {m : Store} {s : St} {H : Hp} {Q : δ → Hp → Prop} {P : Option Int → Hp → Prop}
    (hs : HS K as m H) (sr : SR K as H s r) (h : Post K rel' as H ((a r m).bind f) Q)
    (k : ∀ as1 m1 x H1, Ext as H as1 H1 → HS K as1 m1 H1 → SR K as1 H1 s r → Post K rel' as1 H1 (f (x, m1)) Q → P x H1) : RO K a s H P :=
  ⟨as, r, m, hs, sr, (Post.bind h).mono fun v H1 ⟨as1, m1, x, e, hs1, rp, q⟩ => by subst rp; exact k as1 m1 v H1 e hs1 (sr.ext e) q⟩
theorem ev_slc {f : Bool} {a : E} {lo hi : Oe} {x : Expr} {l h : Option Expr} {p2 : Pos} (ha : EvE X g a x) (hl : EvO X g lo l) (hh : EvO X g hi h) : EvE X g (.slc f a lo hi) (.Subscript x (.Slice l h none p2) p) := PE.imp (pe_slice (sl_D f) ha hl hh) fun s H Q ⟨as, r, m, hs, sr, h⟩ => by
  rw [evE] at h
  refine RE.first hs sr h fun as1 m1 v x H1 e hs1 sr1 rp q => RO.first hs1 sr1 q fun as2 m2 y H2 e2 hs2 sr2 q2 => RO.first hs2 sr2 q2 fun as3 m3 z H3 e3 hs3 sr3 q3 => ?_
  exact ⟨as3, m3, x, hs3, (rp.ext e2).ext e3, q3⟩
/-! ### and, or -/
theorem ev_and1 {e : E} {x : Expr} (h : EvB X g e x) : PE X (.BoolOp .And [x] p) (RE X.K (evAnd g (.cons e .nil))) ∧ PW X (.BoolOp .And [x] p) (RTe X.K (evAnd g (.cons e .nil))) := by
  have e1 : evAnd g (.cons e .nil) = evE g e := by funext r m; rw [evAnd]
  rw [e1]
  exact ⟨pe_one h.1, pw_and1 h.2⟩
theorem ev_or1 {e : E} {x : Expr} (h : EvB X g e x) : PE X (.BoolOp .Or [x] p) (RE X.K (evOr g (.cons e .nil))) ∧ PW X (.BoolOp .Or [x] p) (RTe X.K (evOr g (.cons e .nil))) := by
  have e1 : evOr g (.cons e .nil) = evE g e := by funext r m; rw [evOr]
  rw [e1]
  exact ⟨pe_one h.1, pw_or1 h.2⟩
theorem ev_and2 {e e' : E} {es : Es} {x y : Expr} {ys : List Expr} (h : EvB X g e x) (k : PE X (.BoolOp .And (y :: ys) p) (RE X.K (evAnd g (.cons e' es))) ∧ PW X (.BoolOp .And (y :: ys) p) (RTe X.K (evAnd g (.cons e' es)))) :
    PE X (.BoolOp .And (x :: y :: ys) p) (RE X.K (evAnd g (.cons e (.cons e' es)))) ∧ PW X (.BoolOp .And (x :: y :: ys) p) (RTe X.K (evAnd g (.cons e (.cons e' es)))) := by
  refine ⟨PE.imp (pe_and h.1 k.1) fun s H Q ⟨as, r, m, hs, sr, h⟩ => ?_, PW.imp (pw_and h.2 k.2) fun s H Q ⟨as, r, m, hs, sr, h⟩ => ?_⟩
  · rw [evAnd] at h
    refine RE.first hs sr h fun as1 m1 v x H1 e hs1 sr1 rp q => ?_
    obtain ⟨b, rfl, q⟩ := isB_of q
    refine ⟨b, bl_rep rp, ?_⟩
    cases b with
    | true => exact ⟨as1, r, m1, hs1, sr1, q⟩
    | false => exact q.here hs1 (.bl _)
  · dsimp only at h
    rw [evAnd] at h
    refine test_of (rel := fun _ _ (x y : Bool) => x = y) (Q := Q) (f := fun t m1 => (if t = true then evAnd g (.cons e' es) r m1 else .ok (.bl false, m1)).bind fun (x, m1) => isB x fun k => .ok (k, m1)) hs sr ?_ fun as1 m1 b H1 e1 hs1 sr1 q => ?_
    · cases e : evE g e r m with
      | exc _ _ _ => rw [e] at h; exact h
      | err => rw [e] at h; exact h
      | ok xm =>
        obtain ⟨x, m1⟩ := xm
        rw [e] at h
        cases x <;> first | exact h.elim | exact h
    · cases b with
      | true => exact ⟨as1, r, m1, hs1, sr1, q⟩
      | false => exact q.here hs1 rfl
theorem ev_or2 {e e' : E} {es : Es} {x y : Expr} {ys : List Expr} (h : EvB X g e x) (k : PE X (.BoolOp .Or (y :: ys) p) (RE X.K (evOr g (.cons e' es))) ∧ PW X (.BoolOp .Or (y :: ys) p) (RTe X.K (evOr g (.cons e' es)))) :
    PE X (.BoolOp .Or (x :: y :: ys) p) (RE X.K (evOr g (.cons e (.cons e' es)))) ∧ PW X (.BoolOp .Or (x :: y :: ys) p) (RTe X.K (evOr g (.cons e (.cons e' es)))) := by
  refine ⟨PE.imp (pe_or h.1 k.1) fun s H Q ⟨as, r, m, hs, sr, h⟩ => ?_, PW.imp (pw_or h.2 k.2) fun s H Q ⟨as, r, m, hs, sr, h⟩ => ?_⟩
  · rw [evOr] at h
    refine RE.first hs sr h fun as1 m1 v x H1 e hs1 sr1 rp q => ?_
    obtain ⟨b, rfl, q⟩ := isB_of q
    refine ⟨b, bl_rep rp, ?_⟩
    cases b with
    | true => exact q.here hs1 (.bl _)
    | false => exact ⟨as1, r, m1, hs1, sr1, q⟩
  · dsimp only at h
    rw [evOr] at h
    refine test_of (rel := fun _ _ (x y : Bool) => x = y) (Q := Q) (f := fun t m1 => (if t = true then .ok (.bl true, m1) else evOr g (.cons e' es) r m1).bind fun (x, m1) => isB x fun k => .ok (k, m1)) hs sr ?_ fun as1 m1 b H1 e1 hs1 sr1 q => ?_
    · cases e : evE g e r m with
      | exc _ _ _ => rw [e] at h; exact h
      | err => rw [e] at h; exact h
      | ok xm =>
        obtain ⟨x, m1⟩ := xm
        rw [e] at h
        cases x <;> first | exact h.elim | exact h
    · cases b with
      | true => exact q.here hs1 rfl
      | false => exact ⟨as1, r, m1, hs1, sr1, q⟩
/-! ### calls -/
theorem gl_of (hx : XC X c) {x : Str} (h : gl c x = true) : Gl X x := by
  show X.env.kindOf x = _
  unfold Env.kindOf
  rw [hx.sc]
  simpa [gl] using h
/-- a value's type by the evaluator -/
theorem ty_rep {as : Pl} {m : Store} {H : Hp} (hs : HS X.K as m H) {v : V} {d : D} (r : Rep X.K as H v d) {t : Ty} {b : Bool} (e : tyB m d t = some b) : ∃ tn : String, TyX X.K H v (.type tn) ∧ kitB tn (tyS t) = some b := by
  have lst : ∀ {b : Bool}, (match t with | .list => some true | .int => some false | .str => some false | .bool => some false | .tuple => some false | .dict => some false | .own _ => none) = some b → kitB "list" (tyS t) = some b := fun {b} h => by
    cases t <;> simp at h <;> subst h <;> decide +kernel
  have tup : ∀ {b : Bool}, (match t with | .tuple => some true | .int => some false | .str => some false | .bool => some false | .list => some false | .dict => some false | .own _ => none) = some b → kitB "tuple" (tyS t) = some b := fun {b} h => by
    cases t <;> simp at h <;> subst h <;> decide +kernel
  have dct : ∀ {b : Bool}, (match t with | .dict => some true | .int => some false | .str => some false | .bool => some false | .list => some false | .tuple => some false | .own _ => none) = some b → kitB "dict" (tyS t) = some b := fun {b} h => by
    cases t <;> simp at h <;> subst h <;> decide +kernel
  cases r with
  | non => exact ⟨_, .base .non, by cases t <;> simp [tyB] at e <;> subst e <;> decide +kernel⟩
  | bl x => exact ⟨_, .base (.bl x), by cases t <;> simp [tyB] at e <;> subst e <;> decide +kernel⟩
  | int x => exact ⟨_, .base (.int x), by cases t <;> simp [tyB] at e <;> subst e <;> decide +kernel⟩
  | str x => exact ⟨_, .base (.str x), by cases t <;> simp [tyB] at e <;> subst e <;> decide +kernel⟩
  | tup h n r => exact ⟨_, .base (.tup h), tup (by cases t <;> simpa [tyB] using e)⟩
  | tupK h r =>
    obtain ⟨o, its, n, h1, h2, _⟩ := h
    exact ⟨_, .kTuple h1 h2, tup (by cases t <;> simpa [tyB] using e)⟩
  | lst h n r => exact ⟨_, .base (.lst h), lst (by cases t <;> simpa [tyB] using e)⟩
  | scr h n r => exact ⟨_, .base (.frz h), lst (by cases t <;> simpa [tyB] using e)⟩
  | scrK h r =>
    obtain ⟨o, its, n, h1, h2, _⟩ := h
    exact ⟨_, .kList h1 h2, lst (by cases t <;> simpa [tyB] using e)⟩
  | dct h n r =>
    rcases h with h | ⟨o, h⟩
    · exact ⟨_, .base (.dK h), dct (by cases t <;> simpa [tyB] using e)⟩
    · exact ⟨_, .fDict h, dct (by cases t <;> simpa [tyB] using e)⟩
  | @loc l a h =>
    simp only [tyB] at e
    cases q : m[l]? with
    | none => rw [q] at e; cases t <;> simp at e
    | some o =>
      rw [q] at e
      have ob := hs.ob _ _ _ h q
      cases o with
      | lst xs => obtain ⟨vs, h1, _⟩ := ob; exact ⟨_, .base (.lst h1), lst (by cases t <;> simpa using e)⟩
      | dct xs => obtain ⟨vs, h1, _⟩ := ob; exact ⟨_, .base (.dK h1), dct (by cases t <;> simpa using e)⟩
      | ins _ _ => cases t <;> simp at e
      | exn _ _ => cases t <;> simp at e
theorem ev_isi (hx : XC X c) (hg : XG X g tb) {t : Ty} {a : E} {y : Expr} {p2 p3 : Pos} (h1 : nmT t ≠ "") (h2 : gl c "isinstance" = true) (h3 : gl c (nmT t) = true) (hc : chkE tb c a y = true) (ha : EvE X g a y) : EvE X g (.isi t a) (.Call (.Name "isinstance" p2) [y, .Name (nmT t) p3] [] p) := by
  have nt : bootBuiltins (nmT t) = some (.type (tyS t)) ∧ nmT t ∈ bNames ∧ nmT t ≠ "__name__" ∧ (nmT t == ("__debug__" : Str)) = false := by
    cases t <;> first | exact absurd rfl h1 | exact ⟨by decide +kernel, by decide +kernel, by decide +kernel, by decide +kernel⟩
  obtain ⟨n1, n2, n3, n4⟩ := nt
  have pt : PE X (.Name (nmT t) p3) (tC (.ty (tyS t))) := pe_bltn (gl_of hx h3) (hg.bl _ n2) n1 rfl n3 n4
  have s2 : starEach [Expr.Name (nmT t) p3] X.env = [(false, eval (.Name (nmT t) p3) X.env)] := rfl
  have s1 : starEach [y, .Name (nmT t) p3] X.env = (false, eval y X.env) :: starEach [Expr.Name (nmT t) p3] X.env := by
    cases y <;> first | rfl | (cases a <;> simp [chkE] at hc)
  have pa : PA X [y, .Name (nmT t) p3] (tCons (RE X.K (evE g a)) (tCons (tC (.ty (tyS t))) tNil)) := pa_cons ha (pa_cons pt pa_nil rfl) s1
  refine PE.imp (pe_callB call_isi (gl_of hx h2) (hg.bl _ (by decide +kernel)) (by decide +kernel) pa (by decide) (by decide) s1 rfl) fun s H Q ⟨as, r, m, hs, sr, h⟩ => ?_
  rw [evE] at h
  refine RE.first hs sr h fun as1 m1 v x H1 e hs1 sr1 rp q => ?_
  dsimp only [isiD] at q
  split at q
  · rename_i b eb
    obtain ⟨tn, ty, kb⟩ := ty_rep hs1 rp eb
    exact ⟨v, .ty (tyS t), .type tn, .type (tyS t), b, rfl, .ty _, ty, kit_ty kb, q.here hs1 (.bl _)⟩
  · exact q.elim
theorem cr_reprB (hu : X.A.units + 64 < cLine) (hg : X.A.guards = some []) (f : Bool) : CallR X (biV .repr) (RC X.K (biD f .repr)) := by
  refine CallR.imp (cr_repr hu hg) fun vs H Q ⟨as, m, ds, hs, r, h⟩ => ?_
  match ds, r, h with
  | [], _, h => exact h.elim
  | [a], r, h => obtain ⟨v, rfl, r'⟩ := r.one'; exact ⟨as, m, v, a, hs, rfl, r', h⟩
  | [a, c], r, h => exact h.elim
  | _ :: _ :: _ :: _, _, h => exact h.elim
theorem ev_bi (hx : XC X c) (hg : XG X g tb) {f : Bool} {b : Bi} {es : Es} {y : Expr} {ys : List Expr} {p2 : Pos} (hcm : (c.cm || calmB b) = true) (h1 : nmB b ≠ "") (h2 : gl c (nmB b) = true) (h3 : chkEs tb c es (y :: ys) = true) (ha : EvA X g es (y :: ys)) : EvE X g (.bi f b es) (.Call (.Name (nmB b) p2) (y :: ys) [] p) := by
  obtain ⟨b1, b2, b3, b4⟩ := boot_B b h1
  have st := starEach_of (env := X.env) h3
  have h3' := h3
  have stT : starEach ys X.env = ys.map fun x => (false, eval x X.env) := by
    cases es with
    | nil => simp [chkEs] at h3
    | cons e es => rw [chkEs, Bool.and_eq_true] at h3; exact starEach_of h3.2
  have he : starEach (y :: ys) X.env = (false, eval y X.env) :: starEach ys X.env := by rw [st, stT]; rfl
  have hp : (backTo p (starEach ys X.env)).any (·.1) = false := by rw [stT]; exact back_plain
  have cr : CallR X (biV b) (RC X.K (biD f b)) := by
    by_cases hq : c.cm = true
    · exact cr_biD (hx.calm hq) hx.room hx.gd f b
    · have hb : calmB b = true := by simpa [hq] using hcm
      cases b <;> first | (simp [calmB] at hb; done) | exact cr_reprB hx.room hx.gd f
  have go : PE X (.Call (.Name (nmB b) p2) (y :: ys) [] p) (tCB (RC X.K (biD f b)) (RA X.K (evEs g es))) := by
    cases b <;> first
      | exact pe_callB cr (gl_of hx h2) (hg.bl _ b2) b1 ha b3 b4 he hp
      | exact pe_callTy cr (gl_of hx h2) (hg.bl _ b2) b1 ha b3 b4 he hp
      | exact absurd rfl h1
  refine PE.imp go fun s H Q ⟨as, r, m, hs, sr, h⟩ => ?_
  rw [evE] at h
  exact RA.first hs sr h fun as1 m1 v x H1 e hs1 sr1 rp q => ⟨as1, m1, x, hs1, rp, q⟩
theorem ev_call (hx : XC X c) (hg : XG X g tb) {n : String} {x : Str} {es : Es} {ys : List Expr} {p2 : Pos} (h1 : (x, n) ∈ tb) (h2 : gl c x = true) (h4 : okNm x = true) (h3 : chkEs tb c es ys = true) (ha : EvA X g es ys) : EvE X g (.call n es) (.Call (.Name x p2) ys [] p) := by
  obtain ⟨f, f1, f2, f3⟩ := hg.calls x n h1
  have cr := f3 X ⟨rfl, rfl, rfl, rfl, rfl, rfl⟩
  have st := starEach_of (env := X.env) h3
  simp only [okNm, Bool.and_eq_true, Bool.not_eq_true'] at h4
  refine ⟨fun pins s σ H Q I ⟨as, r, m, hs, sr, h⟩ => ?_⟩
  rw [evE] at h
  have w : tCB (RC X.K (g.fn n)) (RA X.K (evEs g es)) σ H Q := RA.first hs sr h fun as1 m1 v x H1 e hs1 sr1 rp q => ⟨as1, m1, x, hs1, rp, q⟩
  refine wpAny_Call_Name_kw (ld_glob I (gl_of hx h2) f1 ?_ h4.1.1)
  cases ys with
  | nil =>
    refine PySem.W.callWith_K0 I.kIn f2 ?_
    have es0 : es = .nil := by cases es with
      | nil => rfl
      | cons e es => simp [chkEs] at h3
    subst es0
    rw [evEs] at h
    exact cr pins s σ H [] [] Q I .nil ⟨as, m, [], hs, .nil, h⟩
  | cons y ys =>
    have stT : starEach ys X.env = ys.map fun x => (false, eval x X.env) := by
      cases es with
      | nil => simp [chkEs] at h3
      | cons e es => rw [chkEs, Bool.and_eq_true] at h3; exact starEach_of h3.2
    refine PySem.W.callWith_K (h₀ := X.base) I.ok.mod.kin f2 (thn (ha.run p pins s σ H _ I w) fun us s1 ⟨vs, H1, I1, r1, q1⟩ => ⟨I1.kIn, ?_⟩) (by rw [st, stT]; rfl) (by rw [stT]; exact back_plain)
    exact cr pins s1 σ H1 vs us Q I1 r1 q1
def idM : Mt → String
  | .append => "list.append" | .extend => "list.extend" | .pop => "list.pop" | .popAt => "list.pop" | .reverse => "list.reverse" | .clear => "list.clear" | .insert => "list.insert" | .index => "list.index" | _ => ""
theorem plainBase_of {o : Expr} (h : plainBase o = true) (n : Str) : attributeBase o n X.env (eval o X.env) = eval o X.env := by cases o <;> first | rfl | (simp [plainBase] at h)
theorem mt_D (f : Bool) (t : Mt) (h : nmM t ≠ "") : MtR X (idM t) (RM X.K f t) := by
  cases t <;> first | exact absurd rfl h | skip
  · exact mt_appendD f
  · exact mt_extendD f
  · exact mt_popD f
  · exact mt_popAtD f
  · exact mt_insertD f
  · exact mt_indexF f
  · exact mt_reverseD f
  · exact mt_clearD f
theorem slot_M (t : Mt) (h : nmM t ≠ "") : Slot "list" (nmM t) (idM t) ∧ typeOf (.builtin (idM t)) = pure (.type "method_descriptor") := by
  cases t <;> first | exact absurd rfl h | skip
  · exact ⟨PySem.F.slot_list_append, PySem.F.type_list_append⟩
  · exact ⟨PySem.F.slot_list_extend, PySem.F.type_list_extend⟩
  · exact ⟨PySem.F.slot_list_pop, PySem.F.type_list_pop⟩
  · exact ⟨PySem.F.slot_list_pop, PySem.F.type_list_pop⟩
  · exact ⟨PySem.F.slot_list_insert, PySem.F.type_list_insert⟩
  · exact ⟨PySem.F.slot_list_index, PySem.F.type_list_index⟩
  · exact ⟨PySem.F.slot_list_reverse, PySem.F.type_list_reverse⟩
  · exact ⟨PySem.F.slot_list_clear, PySem.F.type_list_clear⟩
theorem ev_mt (hx : XC X c) {f : Bool} {t : Mt} {o : E} {es : Es} {v : Expr} {ys : List Expr} {ap : Pos} (h1 : nmM t ≠ "") (h2 : plainBase v = true) (h3 : chkEs tb c es ys = true) (h4 : ys.length < 30) (h5 : ap.endLine = p.line) (ho : EvE X g o v) (ha : EvA X g es ys) :
    EvE X g (.mt f t o es) (.Call (.Attribute v (nmM t) ap) ys [] p) := by
  obtain ⟨sl, ty⟩ := slot_M t h1
  have st := starEach_of (env := X.env) h3
  have hline : (ap.endLine == p.line) = true := by simp [h5]
  have recv : ∀ {as1 : Pl} {m1 : Store} {v : V} {x : D} {H1 : Hp}, HS X.K as1 m1 H1 → Rep X.K as1 H1 v x → recvOk t x m1 = true → tyV X.K "list" v H1 := fun {as1 m1 v x H1} hs1 rp q => by
    obtain ⟨xs, e⟩ := Option.isSome_iff_exists.mp q
    obtain ⟨a, vs, rfl, hH, _⟩ := lstX_rep hs1 rp e
    exact .inl ⟨rfl, vs, SqL.of hH⟩
  cases ys with
  | nil =>
    have es0 : es = .nil := by cases es with
      | nil => rfl
      | cons e es => simp [chkEs] at h3
    subst es0
    refine PE.imp (pe_bm0 PySem.F.plainAttrs_list sl ty (mt_D f t h1) ho (plainBase_of h2 _) hline) fun s H Q ⟨as, r, m, hs, sr, h⟩ => ?_
    rw [evE] at h
    refine RE.first hs sr h fun as1 m1 v x H1 e hs1 sr1 rp q => ?_
    obtain ⟨q0, q⟩ := Post.needs q
    rw [evEs] at q
    exact ⟨recv hs1 rp q0, as1, m1, x, [], hs1, rp, .nil, q⟩
  | cons y ys =>
    have stT : starEach ys X.env = ys.map fun x => (false, eval x X.env) := by
      cases es with
      | nil => simp [chkEs] at h3
      | cons e es => rw [chkEs, Bool.and_eq_true] at h3; exact starEach_of h3.2
    refine PE.imp (pe_bm PySem.F.plainAttrs_list sl ty (mt_D f t h1) ho ha (plainBase_of h2 _) (by rw [st, back_few]; simpa [keywordEach, backToKw] using h4) hline (by rw [st, stT]; rfl) (by rw [stT]; exact back_plain)) fun s H Q ⟨as, r, m, hs, sr, h⟩ => ?_
    rw [evE] at h
    refine RE.first hs sr h fun as1 m1 v x H1 e hs1 sr1 rp q => ?_
    obtain ⟨q0, q⟩ := Post.needs q
    refine ⟨recv hs1 rp q0, RA.first hs1 sr1 q fun as2 m2 w y H2 e2 hs2 sr2 rp2 q2 => ?_⟩
    exact ⟨as2, m2, x, y, hs2, rp.ext e2, rp2, q2⟩
end
end DV

end
section
set_option Elab.async false
set_option linter.all false
set_option maxRecDepth 100000
set_option autoImplicit false
set_option maxHeartbeats 1000000
/-! Displays of dicts. -/
namespace DV
open PySem PySem.Spec PyProof.Rows L2
section
variable {X : Cx} {c : Cc} {g : G} {tb : List (Str × String)} {p : Pos}
def Ps.len : Ps → Nat
  | .nil => 0
  | .cons _ _ ps => ps.len + 1
def trsP (X : Cx) (g : G) : Ps → List (TE × TE)
  | .nil => []
  | .cons k v ps => (RE X.K (evE g k), RE X.K (evE g v)) :: trsP X g ps
theorem RE.mono {K : PySem.W.Frag} {ev : Fr → Store → RD} {s : St} {H : Hp} {P Q : VK} (h : RE K ev s H P) (k : ∀ v H', P v H' → Q v H') : RE K ev s H Q := let ⟨as, r, m, hs, sr, h⟩ := h; ⟨as, r, m, hs, sr, h.mono k⟩
theorem pairs_mono {s : St} : ∀ (ps : Ps) (H : Hp) (Q Q' : List (V × V) → Hp → Prop), tPairs (trsP X g ps) s H Q → (∀ l H', Q l H' → Q' l H') → tPairs (trsP X g ps) s H Q'
  | .nil, _, _, _, h, k => k _ _ h
  | .cons _ _ ps, _, _, _, h, k => RE.mono h fun x H1 h1 => RE.mono h1 fun y H2 h2 => pairs_mono ps H2 _ _ h2 fun l H' q => k _ _ q
/-- the pairs made, from the left -/
theorem pairs_go {f : Bool} {s : St} {r : Fr} {d : D} {mF : Store} : ∀ (ps : Ps) (acc : List (Key × D)) (as : Pl) (H : Hp) (m : Store), HS X.K as m H → SR X.K as H s r → evDct g f ps r m acc = .ok (d, mF) →
    tPairs (trsP X g ps) s H fun pvs H2 => ∃ as2 m2 kvs ds, Ext as H as2 H2 ∧ HS X.K as2 m2 H2 ∧ pvs = kvs.map (fun kv : Key × V => (kV kv.1, kv.2)) ∧ RepK X.K as2 H2 kvs ds ∧ kvs.length = ps.len ∧ newD f (ds.foldl (fun a p => dput a p.1 p.2) acc) m2 = .ok (d, mF)
  | .nil, acc, as, H, m, hs, sr, e => by
    rw [evDct] at e
    exact ⟨as, m, [], [], Ext.refl _ _, hs, rfl, .nil, rfl, e⟩
  | .cons k v ps, acc, as, H, m, hs, sr, e => by
    rw [evDct] at e
    cases e1 : evE g k r m with
    | exc _ _ _ => rw [e1] at e; cases e
    | err => rw [e1] at e; cases e
    | ok xm =>
      obtain ⟨x, m1⟩ := xm
      rw [e1, bind_ok] at e
      dsimp only at e
      cases e2 : evE g v r m1 with
      | exc _ _ _ => rw [e2] at e; cases e
      | err => rw [e2] at e; cases e
      | ok ym =>
        obtain ⟨y, m2⟩ := ym
        rw [e2, bind_ok] at e
        dsimp only at e
        split at e
        · rename_i i ek
          refine ⟨as, r, m, hs, sr, ?_⟩
          rw [e1]
          intro as1 vk H1 x1 hs1 rk
          refine ⟨as1, r, m1, hs1, sr.ext x1, ?_⟩
          rw [e2]
          intro as2 vv H2 x2 hs2 rv
          have go := pairs_go ps (dput acc i y) as2 H2 m2 hs2 ((sr.ext x1).ext x2) e
          have key : vk = kV i := key_rep rk ek
          subst key
          refine pairs_mono ps H2 _ _ go fun l H3 ⟨as3, m3, kvs, ds, x3, hs3, el, rr, ln, en⟩ => ?_
          exact ⟨as3, m3, (i, vv) :: kvs, (i, y) :: ds, (x1.trans x2).trans x3, hs3, by rw [el]; rfl, .cons (rv.ext x3) rr, by rw [List.length_cons, ln]; rfl, en⟩
        · cases e
/-- a hidden object, then an object of its own -/
theorem ev_dct {f : Bool} {ps : Ps} {ks : List (Option Expr)} {vs : List Expr} (hp : PPs X p ks vs (trsP X g ps)) (hall : ks.all (·.isSome) = true) (hl : ks.length = vs.length) (h0 : ks ≠ []) (h15 : ks.length ≤ 15) (hk : ks.length = ps.len) :
    PE X (.Dict ks vs p) (RE X.K (evE g (.dct f ps))) := by
  refine PE.imp (pe_disp hp hall hl h0 h15) fun s H Q ⟨as, r, m, hs, sr, h⟩ => fun q hq => ?_
  rw [evE] at h
  -- the new dict is hidden while the pairs are made
  let as1 : Pl := ⟨as.l, q :: as.hid⟩
  have x1 : Ext as H as1 (upd H q (.dK [])) := ⟨⟨[], [q], by simp [as1], fun _ h => (nomatch h), fun a ha => by rw [List.mem_singleton] at ha; subst ha; exact ⟨hs.fresh hq, hq⟩⟩, fun a o ha _ => by rw [upd_ne (ne_of_none ha hq)]; exact ha⟩
  have hs1 : HS X.K as1 m (upd H q (.dK [])) := by
    have b := hs.new (o := .dK []) hq
    refine ⟨b.len, b.nd, fun l a o h1 h2 => ?_, fun a ha => ?_⟩
    · exact (hs.ob l a o h1 h2).ext x1 (upd_ne fun e => hs.fresh hq (e ▸ List.mem_of_getElem? h1))
    · rcases List.mem_cons.mp ha with rfl | ha
      · exact ⟨hs.fresh hq, _, upd_same⟩
      · exact ⟨(hs.hid a ha).1, let ⟨o, e⟩ := (hs.hid a ha).2; ⟨o, by rw [upd_ne (ne_of_none e hq)]; exact e⟩⟩
  cases e0 : evDct g f ps r m [] with
  | exc _ _ _ => rw [e0] at h; exact h.elim
  | err => rw [e0] at h; exact h.elim
  | ok dm =>
    obtain ⟨d, mF⟩ := dm
    rw [e0] at h
    refine pairs_mono ps _ _ _ (pairs_go ps [] as1 _ m hs1 (sr.ext x1) e0) fun l H2 ⟨as2, m2, kvs, ds, x2, hs2, el, rr, ln, en⟩ => ?_
    have nq : q ∉ as1.l := hs.fresh hq
    have hq2 : H2 q = some (.dK []) := x2.fr q _ upd_same nq
    refine ⟨hq2, kvs, el, by omega, ?_⟩
    -- without it
    let H3 : Hp := fun a => if a = q then none else H2 a
    have H3q : H3 q = none := if_pos rfl
    have H3n : ∀ a, a ≠ q → H3 a = H2 a := fun a n => if_neg n
    obtain ⟨ns, hs', e2, f2, g2⟩ := x2.pre
    have nq2 : q ∉ as2.l := (hs2.hid q (by rw [e2]; exact List.mem_append_right _ List.mem_cons_self)).1
    have up : ∀ a, upd H q (HO.dK []) a = none → a ≠ q ∧ H a = none := fun a ha => by
      by_cases e : a = q
      · subst e; rw [upd_same] at ha; cases ha
      · rw [upd_ne e] at ha; exact ⟨e, ha⟩
    let as3 : Pl := ⟨as2.l, hs' ++ as.hid⟩
    have l3 : as2.l = as.l ++ ns := by rw [e2]
    have h3 : as2.hid = hs' ++ (q :: as.hid) := by rw [e2]
    have q3 : q ∉ as3.all := by
      intro hm
      rcases List.mem_append.mp hm with hm | hm
      · exact nq2 hm
      · rcases List.mem_append.mp hm with hm | hm
        · exact (up q (g2 q hm).2).1 rfl
        · obtain ⟨o, eo⟩ := (hs.hid q hm).2
          rw [hq] at eo; cases eo
    have mv : ∀ (a : Addr) (o : HO), H2 a = some o → a ∉ as2.all → H3 a = some o ∧ a ∉ as3.all := fun a o ha hn => by
      have n : a ≠ q := by rintro rfl; exact hn (List.mem_append_right _ (by rw [h3]; exact List.mem_append_right _ List.mem_cons_self))
      refine ⟨by rw [H3n a n]; exact ha, fun hm => hn ?_⟩
      rcases List.mem_append.mp hm with hm | hm
      · exact List.mem_append_left _ hm
      · refine List.mem_append_right _ ?_
        rw [h3]
        rcases List.mem_append.mp hm with hm | hm
        · exact List.mem_append_left _ hm
        · exact List.mem_append_right _ (List.mem_cons_of_mem _ hm)
    have hl3 : ∀ (l : Nat) (a : Addr), as2.l[l]? = some a → as3.l[l]? = some a := fun _ _ h => h
    have x3 : Ext as H as3 H3 := by
      refine ⟨⟨ns, hs', by show (⟨as2.l, hs' ++ as.hid⟩ : Pl) = _; rw [l3], fun a ha => ⟨(f2 a ha).1, (up a (f2 a ha).2).2⟩, fun a ha => ⟨(g2 a ha).1, (up a (g2 a ha).2).2⟩⟩, fun a o ha hn => ?_⟩
      have n : a ≠ q := ne_of_none ha hq
      rw [H3n a n]
      exact x2.fr a o (by rw [upd_ne n]; exact ha) hn
    have hs3 : HS X.K as3 m2 H3 := by
      refine ⟨hs2.len, hs2.nd, fun l a o h1 h2 => ?_, fun a ha => ⟨fun hm => ?_, ?_⟩⟩
      · have n : a ≠ q := by rintro rfl; exact nq2 (List.mem_of_getElem? h1)
        have ob := hs2.ob l a o h1 h2
        exact ob.move hl3 mv (H3n a n)
      · have ha2 : a ∈ as2.hid := by
          rw [h3]
          rcases List.mem_append.mp ha with ha | ha
          · exact List.mem_append_left _ ha
          · exact List.mem_append_right _ (List.mem_cons_of_mem _ ha)
        exact (hs2.hid a ha2).1 hm
      · have ha2 : a ∈ as2.hid := by
          rw [h3]
          rcases List.mem_append.mp ha with ha | ha
          · exact List.mem_append_left _ ha
          · exact List.mem_append_right _ (List.mem_cons_of_mem _ ha)
        have n : a ≠ q := by rintro rfl; exact q3 (List.mem_append_right _ ha)
        rw [H3n a n]; exact (hs2.hid a ha2).2
    have h' := Post.later x3 h
    rw [← en] at h'
    obtain ⟨_, k⟩ := newD_post hs3 (repk_merge (rr.move hl3 mv) .nil) h'
    have fin := k q H3q
    have eH : upd H3 q (.dK (mergeK [] kvs)) = upd H2 q (.dK (mergeK [] kvs)) := by
      funext a
      by_cases e : a = q
      · subst e; rw [upd_same, upd_same]
      · rw [upd_ne e, upd_ne e, H3n a e]
    rw [eH] at fin
    exact fin
end
end DV

end
section
set_option Elab.async false
set_option linter.all false
set_option maxRecDepth 100000
set_option autoImplicit false
set_option maxHeartbeats 1000000
/-! Iterators and comprehensions in expressions; all expressions. -/
namespace DV
open PySem PySem.Spec PyProof.Rows L2
section
variable {X : Cx} {c : Cc} {g : G} {tb : List (Str × String)} {p : Pos} {tg : Expr}
theorem post_ok {α β : Type} {K : PySem.W.Frag} {rel : Pl → Hp → β → α → Prop} {as : Pl} {H : Hp} {a : α} {m : Store} {v : β} {Q : β → Hp → Prop} (h : Post K rel as H (.ok (a, m)) Q) (hs : HS K as m H) (r : rel as H v a) : Q v H := h.here hs r
theorem ev_seq {e : E} {x : Expr} (he : EvE X g e x) : EvI X g (.seq e) tg x := by
  refine PI.imp (PI.or (pi_list he) (PI.or (pi_tup he) (pi_str he))) fun s H R ⟨as, r, m, hs, sr, h⟩ => ?_
  rw [evI] at h
  -- which of the three: by the value that the evaluator knows
  cases e0 : evE g e r m with
  | exc _ _ _ => rw [e0] at h; exact h.elim
  | err => rw [e0] at h; exact h.elim
  | ok dm =>
    obtain ⟨d, m1⟩ := dm
    have h' := h
    rw [e0] at h
    change PostI X.K as H (seqI d m1) R at h
    have via : ∀ {P : V → Hp → Prop}, (∀ as1 v H1, Ext as H as1 H1 → HS X.K as1 m1 H1 → Rep X.K as1 H1 v d → P v H1) → RE X.K (evE g e) s H P := fun {P} k => ⟨as, r, m, hs, sr, by rw [e0]; exact fun as1 v H1 e1 hs1 rv => k as1 v H1 e1 hs1 rv⟩
    cases d with
    | str z => exact .inr (.inr (via fun as1 v H1 e1 hs1 rv => ⟨z, str_rep rv, (Post.later e1 h).here hs1 walked_str⟩))
    | tup xs =>
      refine .inr (.inl (via fun as1 v H1 e1 hs1 rv => ?_))
      obtain ⟨a, vs, rfl, hq, rs⟩ := tup_rep rv
      exact ⟨a, rfl, ⟨vs, hq⟩, post_ok (Post.later e1 h) hs1 (walked_seqT rv)⟩
    | lst xs =>
      refine .inl (via fun as1 v H1 e1 hs1 rv => ?_)
      obtain ⟨a, vs, rfl, hq, rs⟩ := lstV_rep hs1 rv rfl
      exact ⟨a, rfl, ⟨vs, hq⟩, post_ok (Post.later e1 h) hs1 (walked_seqL rv rfl)⟩
    | scr xs =>
      refine .inl (via fun as1 v H1 e1 hs1 rv => ?_)
      obtain ⟨a, vs, rfl, hq, rs⟩ := lstV_rep hs1 rv rfl
      exact ⟨a, rfl, ⟨vs, hq⟩, post_ok (Post.later e1 h) hs1 (walked_seqL rv rfl)⟩
    | loc l =>
      refine .inl (via fun as1 v H1 e1 hs1 rv => ?_)
      change PostI X.K as H (seqJ (.loc l) m1) R at h
      unfold seqJ at h
      split at h
      · rename_i xs e2
        obtain ⟨a, vs, rfl, hq, rs⟩ := lstV_rep hs1 rv (show lstV m1 (.loc l) = some xs from e2)
        exact ⟨a, rfl, ⟨vs, hq⟩, post_ok (Post.later e1 h) hs1 (walked_seqL rv rfl)⟩
      · exact h.elim
    | _ => exact h.elim
theorem star1 {a : E} {y : Expr} (h : chkE tb c a y = true) : starEach [y] X.env = [(false, eval y X.env)] := starEach_of (c := c) (tb := tb) (es := .cons a .nil) (xs := [y]) (by rw [chkEs, h]; rfl)
theorem ev_arg1 {a : E} {y : Expr} (ha : EvE X g a y) (h : chkE tb c a y = true) : PA X [y] (tCons (RE X.K (evE g a)) tNil) := pa_cons ha pa_nil (by rw [star1 h]; rfl)
theorem ev_arg2 {a b : E} {y z : Expr} (ha : EvE X g a y) (hb : EvE X g b z) (h : chkE tb c a y = true) (h2 : chkE tb c b z = true) : PA X [y, z] (tCons (RE X.K (evE g a)) (tCons (RE X.K (evE g b)) tNil)) ∧ starEach [y, z] X.env = (false, eval y X.env) :: starEach [z] X.env := by
  have q : starEach [y, z] X.env = (false, eval y X.env) :: starEach [z] X.env := by
    rw [star1 h2, starEach_of (c := c) (tb := tb) (es := .cons a (.cons b .nil)) (xs := [y, z]) (by rw [chkEs, chkEs, h, h2]; rfl)]; rfl
  exact ⟨pa_cons ha (ev_arg1 hb h2) q, q⟩
theorem plainB_of {o : Expr} (h : plainB o = true) (n : Str) : attributeBase o n X.env (eval o X.env) = eval o X.env := by cases o <;> first | rfl | (simp [plainB] at h)
theorem strs_rep {as : Pl} {H : Hp} : ∀ {ys : List D} {vs : List V} {ss : List Str}, Reps X.K as H vs ys → strsS ys = some ss → vs = ss.map V.str
  | [], _, ss, r, e => by cases r; simp [strsS] at e; subst e; rfl
  | y :: ys, _, ss, r, e => by
    cases r with
    | cons r t =>
      cases y <;> simp [strsS] at e
      obtain ⟨cs, e, rfl⟩ := e
      rw [str_rep r, strs_rep t e]
      rfl
theorem reps_str {as : Pl} {H : Hp} : ∀ ss : List Str, Reps X.K as H (ss.map V.str) (ss.map D.str)
  | [] => .nil
  | s :: ss => .cons (.str s) (reps_str ss)
theorem ev_sm0 {t : Sm} {o : E} {v : Expr} {ap : Pos} (h0 : is0 t = true) (hb : plainB v = true) (hl : ap.endLine = p.line) (ho : EvE X g o v) : EvE X g (.sm0 t o) (.Call (.Attribute v (nmS t) ap) [] [] p) := by
  have hline : (ap.endLine == p.line) = true := by simp [hl]
  cases t <;> first | (simp [is0] at h0; done) | skip
  refine PE.imp (pe_upper ho (plainB_of hb _) hline) fun s H Q ⟨as, r, m, hs, sr, h⟩ => ?_
  rw [evE] at h
  refine RE.first hs sr h fun as1 m1 v x H1 e hs1 sr1 rp q => ?_
  cases x <;> first | exact q.elim | skip
  obtain ⟨hz, q⟩ := Post.needs q
  have := str_rep rp
  subst this
  exact ⟨⟨_, rfl⟩, _, rfl, rfl, by omega, q.here hs1 (.str _)⟩
theorem ev_sm1 {f : Bool} {t : Sm} {o a : E} {v y : Expr} {ap : Pos} (h0 : is0 t = false) (hb : plainB v = true) (hl : ap.endLine = p.line) (ho : EvE X g o v) (ha : EvE X g a y) (hc : chkE tb c a y = true) : EvE X g (.sm1 f t o a) (.Call (.Attribute v (nmS t) ap) [y] [] p) := by
  have hline : (ap.endLine == p.line) = true := by simp [hl]
  have st : starEach [y] X.env = [(false, eval y X.env)] := star1 hc
  -- the text, then the argument
  have go : ∀ {R : V → List V → Hp → VK → Prop}, (∀ as m z w y H Q, HS X.K as m H → Rep X.K as H w y → PostV X.K as H (sm1D f t (.str z) y m) Q → R (.str z) [w] H Q) → ∀ s H Q, RE X.K (evE g (.sm1 f t o a)) s H Q → tM1 R (RE X.K (evE g o)) (RE X.K (evE g a)) s H Q := fun {R} k s H Q ⟨as, r, m, hs, sr, h⟩ => by
    rw [evE] at h
    refine RE.first hs sr h fun as1 m1 v x H1 e hs1 sr1 rp q => ?_
    have hx : ∃ z, x = .str z := by
      dsimp only at q
      cases e0 : evE g a r m1 with
      | exc _ _ _ => rw [e0] at q; exact q.elim
      | err => rw [e0] at q; exact q.elim
      | ok ym => rw [e0] at q; cases x <;> first | exact ⟨_, rfl⟩ | exact q.elim
    obtain ⟨z, rfl⟩ := hx
    have := str_rep rp
    subst this
    exact ⟨⟨z, rfl⟩, RE.first hs1 sr1 q fun as2 m2 w y H2 e2 hs2 sr2 rp2 q2 => k as2 m2 z w y H2 Q hs2 rp2 q2⟩
  cases t with
  | upper => simp [is0] at h0
  | join =>
    refine PE.imp (pe_m1 PySem.F.slot_str_join PySem.F.type_str_join mt_join ho ha st (plainB_of hb _) hline) (go fun as m z w y H Q hs rp q => ?_)
    change PostV X.K as H (joinD z y m) Q at q
    unfold joinD at q
    split at q
    · rename_i ys e1
      split at q
      · rename_i ss e2
        obtain ⟨hz, q⟩ := Post.needs q
        obtain ⟨b, vs, rfl, hq, rs⟩ := seqV_rep hs rp e1
        have := strs_rep rs e2
        subst this
        exact ⟨z, b, ss, rfl, rfl, hq, hz, q.here hs (.str _)⟩
      · exact q.elim
    · exact q.elim
  | split =>
    refine PE.imp (pe_m1 PySem.F.slot_str_split PySem.F.type_str_split mt_split ho ha st (plainB_of hb _) hline) (go fun as m z w y H Q hs rp q => ?_)
    cases y <;> first | exact q.elim | skip
    rename_i u
    obtain ⟨⟨h1, h2⟩, q⟩ := Post.needs q
    have := str_rep rp
    subst this
    obtain ⟨_, k⟩ := newL_post hs (reps_str _) q
    exact ⟨z, u, rfl, rfl, h1, h2, k⟩
  | partition =>
    refine PE.imp (pe_m1 PySem.F.slot_str_partition PySem.F.type_str_partition mt_partition ho ha st (plainB_of hb _) hline) (go fun as m z w y H Q hs rp q => ?_)
    cases y <;> first | exact q.elim | skip
    rename_i u
    obtain ⟨⟨h1, h2⟩, q⟩ := Post.needs q
    have := str_rep rp
    subst this
    obtain ⟨_, k⟩ := newT_post hs (reps_str [(Txt.partition z u).1, (Txt.partition z u).2.1, (Txt.partition z u).2.2]) q
    exact ⟨z, u, rfl, rfl, h1, h2, k⟩
theorem ev_rev {f : Bool} {a : E} {v : Expr} {k : Nat} {p1 p2 p3 : Pos} (ha : EvE X g a v) : EvE X g (.rev f a) (.Subscript v (.Slice none none (some (.UnaryOp .USub (.Constant (.int 1) k p1) p2)) p3) p) := PE.imp (pe_revA ha) fun s H Q ⟨as, r, m, hs, sr, h⟩ => by
  rw [evE] at h
  refine RE.first hs sr h fun as1 m1 v x H1 e hs1 sr1 rp q => ?_
  have gen : PostV X.K as1 H1 (revC f x m1) Q → (∃ a xs, v = .ref a ∧ SqL X.K H1 a xs ∧ ∀ p, H1 p = none → Q (.ref p) (upd H1 p (.lst xs.reverse))) := fun q => by
    unfold revC at q
    split at q
    · rename_i xs e1
      obtain ⟨b, vs, rfl, hq, rs⟩ := lstV_rep hs1 rp e1
      obtain ⟨_, kk⟩ := newL_post hs1 rs.reverse q
      exact ⟨b, vs, rfl, hq, kk⟩
    · exact q.elim
  cases x with
  | tup xs =>
    obtain ⟨b, vs, rfl, hq, rs⟩ := tup_rep rp
    obtain ⟨_, kk⟩ := newT_post hs1 rs.reverse q
    exact .inr ⟨b, vs, rfl, hq, kk⟩
  | _ => exact .inl (gen q)
theorem rgV_reps {as : Pl} {H : Hp} (n : Int) : Reps X.K as H (rgV 0 n) (rngL 0 n.toNat 1) := by
  have e : rngL 0 n.toNat 1 = (List.range n.toNat).map fun i => D.int (0 + (i : Nat)) := by simp [rngL]
  rw [e]
  unfold rgV
  rw [Int.sub_zero]
  induction n.toNat with
  | zero => exact .nil
  | succ k ih => rw [List.range_succ, List.map_append, List.map_append]; exact ih.append (.cons (.int _) .nil)
theorem ev_lrg (hx : XC X c) (hg : XG X g tb) (hcm : c.cm = true) {f : Bool} {a : E} {y : Expr} {p1 p2 p3 : Pos} (h1 : gl c "list" = true) (h2 : gl c "range" = true) (h : chkE tb c a y = true) (ha : EvE X g a y) : EvE X g (.lrg f a) (.Call (.Name "list" p1) [.Call (.Name "range" p2) [y] [] p3] [] p) := by
  refine PE.imp (pe_listRg (hx.calm hcm) (gl_of hx h1) (hg.bl _ (by decide +kernel)) (prg_1 (gl_of hx h2) (hg.bl _ (by decide +kernel)) ha (star1 h))) fun s H Q ⟨as, r, m, hs, sr, h⟩ => ?_
  rw [evE] at h
  refine RE.first hs sr h fun as1 m1 v x H1 e hs1 sr1 rp q => ?_
  cases x <;> first | exact q.elim | skip
  rename_i n
  dsimp only [lrgD] at q
  obtain ⟨⟨z1, z2⟩, q⟩ := Post.needs q
  obtain ⟨_, k⟩ := newL_post hs1 (rgV_reps n) q
  exact ⟨n, int_rep rp, ⟨by decide, by decide, z1, by omega, by rw [Int.sub_zero]; show n.toNat ≤ 16777216; omega⟩, k⟩
def tLset (K : PySem.W.Frag) (ta : TE) : TE := fun σ H Q => ta σ H fun x H1 => ∃ (l : Addr) (ss : List Str), x = V.ref l ∧ (SqL K H1 l (ss.map V.str) ∨ SqT K H1 l (ss.map V.str)) ∧ ss.length < 4000 ∧ Q (.int (onceS ss).length) H1
theorem pe_lset {a : Expr} {ta : TE} {p p2 q pos : Pos} (hc : X.calm = true) (hg : Gl X "len") (hm : X.mg "len" = none) (hg2 : Gl X "set") (hm2 : X.mg "set" = none) (ha : PE X a ta)
    (na : starEach [a] X.env = (false, eval a X.env) :: starEach [] X.env) : PE X (.Call (.Name "len" p) [.Call (.Name "set" p2) [a] [] q] [] pos) (tLset X.K ta) := by
  refine ⟨fun pins s σ H Q I h => Call_ (ld_blt I hg hm PySem.boot_len (callWith_builtin1 (args_cons (Call_ (ld_blt I hg2 hm2 PyProof.Rows.boot_set (callWith_type1 (args_cons (thn (ha.run pins s σ H _ I h) fun v s1 ⟨x, H1, I1, r1, q1⟩ => args_nil ?_) na) na rfl))) rfl) rfl rfl))⟩
  obtain ⟨l, ss, rfl, hq, h1, q1⟩ := q1
  cases r1
  have rest : ∀ (h' : Heap) (tk : Nat), h'.SetOf (PySem.strKind X.prog X.w) s1.heap.objs.size (fun y => decide (y ∈ ss)) (onceS ss).length → (∀ b o, b < s1.heap.objs.size → s1.heap.get? b = some o → h'.get? b = some o) →
      wpAny (model X.prog X.w) X.A (spliced (backTo pos (starEach [] X.env))) (fun vs s₂ => wpAny (model X.prog X.w) X.A (call (.builtin "len") (Value.ref s1.heap.objs.size :: vs)) (EP X pins σ Q) X.xe s₂) X.xe { s1 with heap := h', toks := tk } := fun h' tk hS hk => by
    refine args_nil ?_
    have hle := onceS_le ss
    obtain ⟨o, es, ep, t, ho, hex, hd, _, _, _, hf, hn⟩ := hS
    have I2 : Inv X pins σ H1 { s1 with heap := h', toks := tk } := I1.kept fun b o e => hk b o (Heap.lt_size e) e
    exact call_len_set ho hex hd hf (by rw [hn]; omega) ⟨.int (onceS ss).length, H1, I2.tok _, ⟨_, by rw [hn]⟩, q1⟩
  rcases hq with hq | hq
  · obtain ⟨its, r, pl, hz⟩ := I1.list hq
    exact set_strsL (I1.ok.hd hc) pl.isList (by simpa using strsAre_of r) h1 rest
  · obtain ⟨its, r, pl, hz⟩ := I1.tuple hq
    exact set_strsT (I1.ok.hd hc) pl (by simpa using strsAre_of r) h1 rest
theorem reps_strs {as : Pl} {H : Hp} : ∀ {vs : List V} {ss : List Str}, Reps X.K as H vs (ss.map .str) → vs = ss.map V.str
  | [], [], _ => rfl
  | [], s :: ss, h => nomatch h
  | v :: vs, [], h => nomatch h
  | v :: vs, s :: ss, .cons h t => by
    rw [List.map_cons, ← reps_strs t, str_rep h]
theorem ev_lset (hx : XC X c) (hg : XG X g tb) (hcm : c.cm = true) {a : E} {y : Expr} {p1 p2 p3 : Pos} (h1 : gl c "len" = true) (h2 : gl c "set" = true) (h : chkE tb c a y = true) (ha : EvE X g a y) : EvE X g (.lset a) (.Call (.Name "len" p1) [.Call (.Name "set" p2) [y] [] p3] [] p) := by
  refine PE.imp (pe_lset (hx.calm hcm) (gl_of hx h1) (hg.bl _ (by decide +kernel)) (gl_of hx h2) (hg.bl _ (by decide +kernel)) ha (star1 h)) fun s H Q ⟨as, r, m, hs, sr, h⟩ => ?_
  rw [evE] at h
  refine RE.first hs sr h fun as1 m1 v x H1 e hs1 sr1 rp q => ?_
  dsimp only [lsetD] at q
  split at q
  · rename_i ys e1
    split at q
    · rename_i ss e2
      obtain ⟨z, q⟩ := Post.needs q
      obtain ⟨b, vs, rfl, hq, rs⟩ := seqV_rep hs1 rp e1
      rw [strsS_of e2] at rs
      rw [reps_strs rs] at hq
      exact ⟨b, ss, rfl, hq, z, q.here hs1 (.int _)⟩
    · exact q.elim
  · exact q.elim
theorem only_rep {as : Pl} {m : Store} {H : Hp} {y : D} {Q : VK} (h : PostV X.K as H (onlyI y m) Q) : ∃ j, y = .int j ∧ PostV X.K as H (.ok (.int j, m)) Q := by
  cases y <;> first | exact h.elim | exact ⟨_, rfl, h⟩
theorem ev_orvE {a b : E} {x y : Expr} (ha : EvE X g a x) (hb : EvE X g b y) : EvE X g (.orv a b) (.BoolOp .Or [x, y] p) := by
  refine PE.imp (pe_orT ha (pe_one hb)) fun s H Q ⟨as, r, m, hs, sr, h⟩ => ?_
  rw [evE] at h
  refine RE.first hs sr h fun as1 m1 v x H1 e hs1 sr1 rp q => ?_
  have rest : PostV X.K as1 H1 ((evE g b r m1).bind fun (y, m2) => onlyI y m2) Q → RE X.K (evE g b) s H1 Q := fun q => RE.first hs1 sr1 q fun as2 m2 w y H2 e2 hs2 sr2 rp2 q2 => by
    obtain ⟨j, rfl, q3⟩ := only_rep q2
    exact q3.here hs2 rp2
  cases x <;> first | exact q.elim | skip
  · rw [non_rep rp]; exact ⟨false, rfl, rest q⟩
  · rename_i i
    rw [int_rep rp]
    refine ⟨i != 0, rfl, ?_⟩
    dsimp only [orD] at q
    by_cases hi : i = 0
    · rw [if_pos hi] at q; subst hi; exact rest q
    · rw [if_neg hi] at q
      rw [show (i != 0) = true by simpa using hi]
      exact q.here hs1 (.int _)
theorem ev_rng1 (hx : XC X c) (hg : XG X g tb) {a : E} {y : Expr} {p2 : Pos} (h1 : gl c "range" = true) (h : chkE tb c a y = true) (ha : EvE X g a y) : EvI X g (.rng1 a) tg (.Call (.Name "range" p2) [y] [] p) := by
  refine PI.imp (pi_range1 (gl_of hx h1) (hg.bl _ (by decide +kernel)) (ev_arg1 ha h) (star1 h)) fun s H R ⟨as, r, m, hs, sr, h⟩ => ?_
  rw [evI] at h
  refine RE.first hs sr h fun as1 m1 v x H1 e hs1 sr1 rp q => ?_
  cases x <;> first | exact q.elim | skip
  rename_i i
  obtain ⟨q0, q⟩ := Post.needs q
  exact ⟨i, by rw [int_rep rp], q0.1, q0.2, post_ok q hs1 walked_rng⟩
theorem ev_rng2 (hx : XC X c) (hg : XG X g tb) {a b : E} {y z : Expr} {p2 : Pos} (h1 : gl c "range" = true) (h : chkE tb c a y = true) (h2 : chkE tb c b z = true) (ha : EvE X g a y) (hb : EvE X g b z) : EvI X g (.rng2 a b) tg (.Call (.Name "range" p2) [y, z] [] p) := by
  obtain ⟨hA, hS⟩ := ev_arg2 ha hb h h2
  refine PI.imp (pi_range2 (gl_of hx h1) (hg.bl _ (by decide +kernel)) hA (by rw [hS, star1 h2]) (star1 h2)) fun s H R ⟨as, r, m, hs, sr, h⟩ => ?_
  rw [evI] at h
  refine RE.first hs sr h fun as1 m1 v x H1 e hs1 sr1 rp q => RE.first hs1 sr1 q fun as2 m2 w y H2 e2 hs2 sr2 rp2 q2 => ?_
  cases x <;> first | exact q2.elim | skip
  cases y <;> first | exact q2.elim | skip
  rename_i i j
  obtain ⟨q0, q2⟩ := Post.needs q2
  exact ⟨i, j, by rw [int_rep rp, int_rep rp2], ⟨q0.1.1, q0.1.2, q0.2.1, q0.2.2⟩, post_ok q2 hs2 walked_rng⟩
theorem ev_rng3 (hx : XC X c) (hg : XG X g tb) {a b d : E} {y z u : Expr} {p2 : Pos} (h1 : gl c "range" = true) (h : chkE tb c a y = true) (h2 : chkE tb c b z = true) (h3 : chkE tb c d u = true) (ha : EvE X g a y) (hb : EvE X g b z) (hd : EvE X g d u) : EvI X g (.rng3 a b d) tg (.Call (.Name "range" p2) [y, z, u] [] p) := by
  obtain ⟨hA, hS⟩ := ev_arg2 hb hd h2 h3
  have hS3 : starEach [y, z, u] X.env = (false, eval y X.env) :: starEach [z, u] X.env := by
    rw [hS, star1 h3, starEach_of (c := c) (tb := tb) (es := .cons a (.cons b (.cons d .nil))) (xs := [y, z, u]) (by rw [chkEs, chkEs, chkEs, h, h2, h3]; rfl)]; rfl
  refine PI.imp (pi_range3 (gl_of hx h1) (hg.bl _ (by decide +kernel)) (pa_cons ha hA hS3) hS3 (by rw [hS, star1 h3]; rfl)) fun s H R ⟨as, r, m, hs, sr, h⟩ => ?_
  rw [evI] at h
  refine RE.first hs sr h fun as1 m1 v x H1 e hs1 sr1 rp q => RE.first hs1 sr1 q fun as2 m2 w y H2 e2 hs2 sr2 rp2 q2 => RE.first hs2 sr2 q2 fun as3 m3 w3 z H3 e3 hs3 sr3 rp3 q3 => ?_
  cases x <;> first | exact q3.elim | skip
  cases y <;> first | exact q3.elim | skip
  cases z <;> first | exact q3.elim | skip
  rename_i i j k
  change PostI X.K as3 H3 (rng3D i j k m3) R at q3
  unfold rng3D at q3
  by_cases hk : k = -1
  · subst hk
    rw [if_pos rfl] at q3
    obtain ⟨q0, q4⟩ := Post.needs q3
    exact ⟨i, j, -1, (i - j).toNat, by rw [int_rep rp, int_rep rp2, int_rep rp3], RgC.neg q0.1.1 q0.1.2 q0.2.1 q0.2.2, post_ok q4 hs3 walked_rngC⟩
  · rw [if_neg hk] at q3
    obtain ⟨q0, q4⟩ := Post.needs q3
    exact ⟨i, j, k, rngN i j k, by rw [int_rep rp, int_rep rp2, int_rep rp3], RgC_pos q0.1.1 q0.1.2 q0.2.1.1 q0.2.1.2 q0.2.2.1 q0.2.2.2, post_ok q4 hs3 walked_rngC⟩
theorem ev_enum (hx : XC X c) (hg : XG X g tb) {a : E} {y : Expr} {p2 tp : Pos} {es : List Expr} {k : Nat} (h1 : gl c "enumerate" = true) (h : chkE tb c a y = true) (ha : EvE X g a y) : EvI X g (.enum a) (.Tuple es k tp) (.Call (.Name "enumerate" p2) [y] [] p) := by
  refine PI.imp (PI.or (pi_enum (gl_of hx h1) (hg.bl _ (by decide +kernel)) (ev_arg1 ha h) (star1 h)) (pi_enumT (gl_of hx h1) (hg.bl _ (by decide +kernel)) (ev_arg1 ha h) (star1 h))) fun s H R ⟨as, r, m, hs, sr, h⟩ => ?_
  rw [evI] at h
  cases e0 : evE g a r m with
  | exc _ _ _ => rw [e0] at h; exact h.elim
  | err => rw [e0] at h; exact h.elim
  | ok dm =>
    obtain ⟨d, m1⟩ := dm
    rw [e0] at h
    change PostI X.K as H (match seqV m1 d with | some xs => .ok (⟨enumL xs, fun m' => seqV m' d = some xs⟩, m1) | none => .err) R at h
    have via : ∀ {P : V → Hp → Prop}, (∀ as1 v H1, Ext as H as1 H1 → HS X.K as1 m1 H1 → Rep X.K as1 H1 v d → P v H1) → RE X.K (evE g a) s H P := fun {P} k => ⟨as, r, m, hs, sr, by rw [e0]; exact fun as1 v H1 e1 hs1 rv => k as1 v H1 e1 hs1 rv⟩
    have left : tupV d = none → (∃ xs, lstV m1 d = some xs) → PostI X.K as H (match seqV m1 d with | some xs => .ok (⟨enumL xs, fun m' => seqV m' d = some xs⟩, m1) | none => .err) R → iEnum X.K (tCons (RE X.K (evE g a)) tNil) s H R := fun nt ⟨xs, ex⟩ h => by
      rw [seqV_lst nt, ex] at h
      refine via fun as1 v H1 e1 hs1 rv => ?_
      obtain ⟨b, vs, rfl, hq, rs⟩ := lstV_rep hs1 rv ex
      exact ⟨b, vs, rfl, hq, post_ok (Post.later e1 h) hs1 (walked_enumS rv nt)⟩
    cases d with
    | tup xs =>
      refine .inr (via fun as1 v H1 e1 hs1 rv => ?_)
      obtain ⟨b, vs, rfl, hq, rs⟩ := tup_rep rv
      exact ⟨b, vs, rfl, hq, post_ok (Post.later e1 h) hs1 (walked_enumT rv)⟩
    | lst xs => exact .inl (left rfl ⟨_, rfl⟩ h)
    | scr xs => exact .inl (left rfl ⟨_, rfl⟩ h)
    | loc l =>
      refine .inl (left rfl ?_ h)
      cases e2 : lstV m1 (.loc l) with
      | none => rw [seqV_lst rfl, e2] at h; exact h.elim
      | some xs => exact ⟨xs, rfl⟩
    | _ => exact h.elim
theorem ev_zip (hx : XC X c) (hg : XG X g tb) {a b : E} {y z : Expr} {p2 tp : Pos} {es : List Expr} {k : Nat} (h1 : gl c "zip" = true) (h : chkE tb c a y = true) (h2 : chkE tb c b z = true) (ha : EvE X g a y) (hb : EvE X g b z) : EvI X g (.zip a b) (.Tuple es k tp) (.Call (.Name "zip" p2) [y, z] [] p) := by
  obtain ⟨hA, hS⟩ := ev_arg2 ha hb h h2
  refine PI.imp (pi_z2 (gl_of hx h1) (hg.bl _ (by decide +kernel)) hA hS (by rw [star1 h2]; rfl)) fun s H R ⟨as, r, m, hs, sr, h⟩ => ?_
  rw [evI] at h
  refine RE.first hs sr h fun as1 m1 v x H1 e hs1 sr1 rp q => RE.first hs1 sr1 q fun as2 m2 w y H2 e2 hs2 sr2 rp2 q2 => ?_
  dsimp only at q2
  split at q2
  · rename_i xs ys e1 e3
    have rp' := rp.ext e2
    obtain ⟨b, vs, rfl, hq, rs⟩ := seqZ_rep hs2 rp' e1
    obtain ⟨d, ws, rfl, hq2, rs2⟩ := seqZ_rep hs2 rp2 e3
    exact ⟨_, _, b, d, vs, ws, rfl, hq, hq2, post_ok q2 hs2 (walked_z2 rp' rp2)⟩
  · exact q2.elim
theorem ev_arg3 {a b d : E} {y z u : Expr} (ha : EvE X g a y) (hb : EvE X g b z) (hd : EvE X g d u) (h1 : chkE tb c a y = true) (h2 : chkE tb c b z = true) (h3 : chkE tb c d u = true) :
    PA X [y, z, u] (tCons (RE X.K (evE g a)) (tCons (RE X.K (evE g b)) (tCons (RE X.K (evE g d)) tNil))) ∧ starEach [y, z, u] X.env = (false, eval y X.env) :: starEach [z, u] X.env := by
  have e1 : starEach [z, u] X.env = (false, eval z X.env) :: starEach [u] X.env := by rw [starEach_of (show chkEs tb c (.cons b (.cons d .nil)) [z, u] = true by simp [chkEs, h2, h3]), star1 h3]; rfl
  have e0 : starEach [y, z, u] X.env = (false, eval y X.env) :: starEach [z, u] X.env := by rw [starEach_of (show chkEs tb c (.cons a (.cons b (.cons d .nil))) [y, z, u] = true by simp [chkEs, h1, h2, h3]), e1, star1 h3]; rfl
  exact ⟨pa_cons ha (pa_cons hb (pa_cons hd pa_nil (star1 h3)) e1) e0, e0⟩
theorem ev_zip3 (hx : XC X c) (hg : XG X g tb) {a b d : E} {y z u : Expr} {p2 tp : Pos} {es : List Expr} {k : Nat} (h1 : gl c "zip" = true) (h : chkE tb c a y = true) (h2 : chkE tb c b z = true) (h3 : chkE tb c d u = true) (ha : EvE X g a y) (hb : EvE X g b z) (hd : EvE X g d u) : EvI X g (.zip3 a b d) (.Tuple es k tp) (.Call (.Name "zip" p2) [y, z, u] [] p) := by
  obtain ⟨hA, hS⟩ := ev_arg3 ha hb hd h h2 h3
  refine PI.imp (pi_z3 (gl_of hx h1) (hg.bl _ (by decide +kernel)) hA hS (by rw [starEach_of (show chkEs tb c (.cons b (.cons d .nil)) [z, u] = true by simp [chkEs, h2, h3])]; rfl)) fun s H R ⟨as, r, m, hs, sr, h⟩ => ?_
  rw [evI] at h
  refine RE.first hs sr h fun as1 m1 v x H1 e hs1 sr1 rp q => RE.first hs1 sr1 q fun as2 m2 w y H2 e2 hs2 sr2 rp2 q2 => RE.first hs2 sr2 q2 fun as3 m3 w3 z H3 e3 hs3 sr3 rp3 q3 => ?_
  dsimp only at q3
  split at q3
  · rename_i xs ys zs f1 f2 f3
    have rp' := (rp.ext e2).ext e3
    have rp2' := rp2.ext e3
    obtain ⟨b, vs, rfl, hq, rs⟩ := seqZ_rep hs3 rp' f1
    obtain ⟨d, ws, rfl, hq2, rs2⟩ := seqZ_rep hs3 rp2' f2
    obtain ⟨d3, us, rfl, hq3, rs3⟩ := seqZ_rep hs3 rp3 f3
    exact ⟨_, _, _, b, d, d3, vs, ws, us, rfl, hq, hq2, hq3, post_ok q3 hs3 (walked_z3 rp' rp2' rp3)⟩
  · exact q3.elim
/-- the items, the values of the dict in a slot -/
theorem ev_dI (hx : XC X c) {i : Nat} {v : Option Bool} {tg it : Expr} (h : chkD c i v tg it = true) : PI X tg it (RDct X.K i v) := by
  have rd : ∀ {s : St} {H : Hp} {R : It → Hp → Prop}, RDct X.K i v s H R → ∃ d od ks, s[i]? = some (some (.ref d)) ∧ H d = some (.frz od (.dK ks)) ∧ R (ItDct v d od ks) H := fun ⟨as, r, m, kvs, d, od, ks, hs, sr, g1, g2, g3, g4, g5⟩ => ⟨d, od, ks, g1, g2, g5.here hs (walked_dct g2 g3 g4)⟩
  cases v with
  | none =>
    obtain ⟨x, px, rfl, h1, h2, h3⟩ := chkD_none h
    simp only [okNm, Bool.and_eq_true, Bool.not_eq_true'] at h3
    have nm := pe_var (X := X) (i := i) (pos := px) (by rw [hx.N]; exact h1) (by rw [hx.sc]; simpa [vis, Vis, or_assoc] using h2) h3.1.1 h3.1.2
    refine PI.imp (pi_keys nm) fun s H R hr => ?_
    obtain ⟨d, od, ks, g1, g2, g3⟩ := rd hr
    exact ⟨.ref d, g1, d, od, rfl, .inl ⟨ks, g2, g3⟩⟩
  | some v =>
    obtain ⟨x, px, p, q, rfl, h1, h2, h3, h4, h5⟩ := chkD_of h
    simp only [okNm, Bool.and_eq_true, Bool.not_eq_true'] at h3
    have nm := pe_var (X := X) (i := i) (pos := px) (by rw [hx.N]; exact h1) (by rw [hx.sc]; simpa [vis, Vis, or_assoc] using h2) h3.1.1 h3.1.2
    cases v with
    | true =>
      refine PI.imp (pi_values nm rfl (by simpa using h4)) fun s H R hr => ?_
      obtain ⟨d, od, ks, g1, g2, g3⟩ := rd hr
      exact ⟨.ref d, g1, d, od, ks, rfl, g2, g3⟩
    | false =>
      cases tg <;> try (simp [isTp] at h5; done)
      refine PI.imp (pi_items nm rfl (by simpa using h4)) fun s H R hr => ?_
      obtain ⟨d, od, ks, g1, g2, g3⟩ := rd hr
      exact ⟨.ref d, g1, d, od, ks, rfl, g2, g3⟩
theorem PE.or {X : Cx} {e : Expr} {t t' : TE} (h : PE X e t) (h' : PE X e t') : PE X e (fun s H Q => t s H Q ∨ t' s H Q) := ⟨fun pins s σ H Q I hw => hw.elim (h.run pins s σ H Q I) (h'.run pins s σ H Q I)⟩
theorem ev_lcD (hx : XC X c) (hcm : c.cm = true) {f : Bool} {t : T} {own : List Nat} {i : Nat} {v : Option Bool} {k : Oe} {e : E} {x it tg : Expr} {ifs : List Expr} {sc : Scope} {ow : List (Str × Nat)} (ho : ow.map (·.2) = own) (hb : blkC c.N c.sc sc ow = true) (hsl : ∀ n ∈ t.slots, n ∈ own)
    (hi : PI X tg it (RDct X.K i v)) (hset : ∀ x, foldedSetIterable it X.env x = pure x)
    (hg : ∀ (s : Shared) (H : Hp) (C : Addr) (cl : List (Str × Addr)) (fp : List Addr), PG (X.blk s H sc (compEnvC sc cl C X.env) fp) tg (RG X.K t))
    (ht : ∀ (s : Shared) (H : Hp) (C : Addr) (cl : List (Str × Addr)) (fp : List Addr), PTs (X.blk s H sc (compEnvC sc cl C X.env) fp) ifs (RT X.K (evC g k)))
    (he : ∀ (s : Shared) (H : Hp) (C : Addr) (cl : List (Str × Addr)) (fp : List Addr), PE (X.blk s H sc (compEnvC sc cl C X.env) fp) x (RE X.K (evE g e))) :
    EvE X g (.lcD f t own i v k e) (.ListComp x [⟨tg, it, ifs, 0⟩] sc p) := by
  have blk : BlkOk X.N X.env.scope sc ow := by rw [hx.N, hx.sc]; exact blkOk_by hb
  have whole := pe_lc (pos := p) (hx.calm hcm) hx.nd hi blk hg ht he hset
  let RA : TE := fun s H Q => ∃ as r m kvs d od ks, HS X.K as m H ∧ SR X.K as H s r ∧ r[i]? = some (some (.dct kvs)) ∧ s[i]? = some (some (.ref d)) ∧ H d = some (.frz od (.dK ks)) ∧ d ∉ as.all ∧ RepK X.K as H ks kvs ∧ PostV X.K as H (evE g (.lcD f t own i v k e) r m) Q
  have A : PE X (.ListComp x [⟨tg, it, ifs, 0⟩] sc p) RA := PE.imp whole fun s H Q ⟨as, r, m, kvs, d, od, ks, hs, sr, er, g1, g2, g3, g4, h⟩ => by
    rw [evE, er] at h
    refine ⟨as, r, m, kvs, d, od, ks, hs, sr, g1, g2, g3, g4, fun as1 J H1 e1 hs1 wk => fun D hD => ?_⟩
    rw [ho]
    exact lc_D (f := f) hsl hs1 (sr.ext e1) wk (Post.later e1 h) D hD
  refine PE.imp (PE.or A (pe_lock A)) fun s H Q ⟨as, r, m, hs, sr, h⟩ => ?_
  have er : ∃ kvs, r[i]? = some (some (.dct kvs)) := by
    rw [evE] at h
    split at h
    · rename_i kvs er; exact ⟨kvs, er⟩
    · exact h.elim
  obtain ⟨kvs, er⟩ := er
  obtain ⟨d, ks, g1, g2, g3, g4⟩ := slot_dct sr er
  rcases g4 with g4 | ⟨od, g4⟩
  · refine .inr ⟨d, _, g4, trivial, fun od => ?_⟩
    have sm : ∀ b, b ≠ d → (upd H d (.frz od (.dK ks))) b = H b := fun b q => upd_ne q
    have r1 : Rd H d (.dK ks) := .inl g4
    have r2 : Rd (upd H d (.frz od (.dK ks))) d (.dK ks) := .inr ⟨od, upd_same⟩
    exact ⟨as, r, m, kvs, d, od, ks, hs.swap r1 r2 sm g2, sr.swap r1 r2 sm, er, g1, upd_same, g2, g3.swap r1 r2 sm, lock_V g4 g2 h⟩
  · exact .inl ⟨as, r, m, kvs, d, od, ks, hs, sr, er, g1, g4, g2, g3, h⟩
/-- list(d.items()) -/
theorem paired_reps {as as' : Pl} {H H' : Hp} (ex : Ext as H as' H') : ∀ {ts : List Addr} {kvs : List (Key × V)} {ds : List (Key × D)}, (∀ t ∈ ts, t ∉ as'.all) → Paired (fun (t : Addr) (q : Key × V) => H' t = some (.tup [kV q.1, q.2])) ts kvs → RepK X.K as H kvs ds → Reps X.K as' H' (ts.map V.ref) (dItems false ds)
  | [], [], _, _, .nil, .nil => .nil
  | t :: ts, _ :: _, _, hn, .cons h1 h2, .cons r rk => .cons (.tup h1 (hn t List.mem_cons_self) (.cons (key_key _) (.cons (r.ext ex) .nil))) (paired_reps ex (fun t ht => hn t (List.mem_cons_of_mem _ ht)) h2 rk)
theorem chk_dpop {tb : List (Str × String)} {c : Cc} {o k e : E} {x : Expr} (h : chkE tb c (.dpop o k e) x = true) : ∃ v y z p2 p, x = .Call (.Attribute v "pop" p2) [y, z] [] p ∧ plainBase v = true ∧ p2.endLine = p.line ∧ chkE tb c o v = true ∧ chkE tb c k y = true ∧ chkE tb c e z = true := by
  cases x <;> try (simp [chkE] at h; done)
  rename_i fn xs kw p
  cases fn <;> try (simp [chkE] at h; done)
  rename_i v m p2
  cases kw <;> try (simp [chkE] at h; done)
  rw [chkE] at h
  split at h
  · rename_i y z e2
    obtain rfl := as2_eq e2
    simp only [Bool.and_eq_true, decide_eq_true_eq] at h
    obtain ⟨⟨⟨⟨⟨rfl, h1⟩, h2⟩, h3⟩, h4⟩, h5⟩ := h
    exact ⟨v, y, z, p2, p, rfl, h1, h2, h3, h4, h5⟩
  · cases h
theorem chk_dget {tb : List (Str × String)} {c : Cc} {o k e : E} {x : Expr} (h : chkE tb c (.dget o k e) x = true) : ∃ v y z p2 p, x = .Call (.Attribute v "get" p2) [y, z] [] p ∧ plainBase v = true ∧ p2.endLine = p.line ∧ chkE tb c o v = true ∧ chkE tb c k y = true ∧ chkE tb c e z = true := by
  cases x <;> try (simp [chkE] at h; done)
  rename_i fn xs kw p
  cases fn <;> try (simp [chkE] at h; done)
  rename_i v m p2
  cases kw <;> try (simp [chkE] at h; done)
  rw [chkE] at h
  split at h
  · rename_i y z e2
    obtain rfl := as2_eq e2
    simp only [Bool.and_eq_true, decide_eq_true_eq] at h
    obtain ⟨⟨⟨⟨⟨rfl, h1⟩, h2⟩, h3⟩, h4⟩, h5⟩ := h
    exact ⟨v, y, z, p2, p, rfl, h1, h2, h3, h4, h5⟩
  · cases h
theorem chk_dclr {tb : List (Str × String)} {c : Cc} {o : E} {x : Expr} (h : chkE tb c (.dclr o) x = true) : ∃ v p2 p, x = .Call (.Attribute v "clear" p2) [] [] p ∧ plainBase v = true ∧ p2.endLine = p.line ∧ chkE tb c o v = true := by
  cases x <;> try (simp [chkE] at h; done)
  rename_i fn xs kw p
  cases fn <;> try (simp [chkE] at h; done)
  rename_i v m p2
  cases kw <;> try (simp [chkE] at h; done)
  cases xs <;> try (simp [chkE] at h; done)
  simp only [chkE, Bool.and_eq_true, decide_eq_true_eq] at h
  obtain ⟨⟨⟨rfl, h1⟩, h2⟩, h3⟩ := h
  exact ⟨v, p2, p, rfl, h1, h2, h3⟩
theorem star2 {tb : List (Str × String)} {c : Cc} {a b : E} {y z : Expr} {env : PySem.Env} (ha : chkE tb c a y = true) (hb : chkE tb c b z = true) : starEach [y, z] env = [(false, eval y env), (false, eval z env)] :=
  starEach_of (tb := tb) (c := c) (es := .cons a (.cons b .nil)) (by rw [chkEs, chkEs, ha, hb]; rfl)
theorem m2_of {c : Cc} {a b : E} {v y z : Expr} {n : Str} {p2 p : Pos} (h1 : plainBase v = true) (h2 : p2.endLine = p.line) (ha : chkE tb c a y = true) (hb : chkE tb c b z = true) : M2 X v n p2 y z p := by
  have st := star2 (env := X.env) ha hb
  exact ⟨plainBase_of h1 _, by rw [st]; rfl, by simp [h2], by rw [st]; rfl⟩
theorem dc_dict {as : Pl} {m : Store} {H : Hp} (hs : HS X.K as m H) {x : V} {d : D} (r : Rep X.K as H x d) (e : isDc d m = true) : ∃ a vs, x = .ref a ∧ H a = some (.dK vs) := by
  unfold isDc at e
  split at e
  · split at e
    · rename_i l _ ys e1
      obtain ⟨a, vs, rfl, _, hH, _⟩ := loc_dict hs r e1
      exact ⟨a, vs, rfl, hH⟩
    · cases e
  · cases e
theorem repk_drop {as : Pl} {H : Hp} : ∀ {kvs : List (Key × V)} {ds : List (Key × D)}, RepK X.K as H kvs ds → ∀ k : Key, RepK X.K as H (dropK kvs k) (ddrop ds k)
  | _, _, .nil, k => .nil
  | _, _, .cons (k := k') r t, k => by
    have ih := repk_drop t k
    unfold dropK ddrop at ih ⊢
    rw [List.filter_cons, List.filter_cons]
    by_cases e : k' = k
    · simp only [e, ne_eq, not_true_eq_false, decide_false, Bool.false_eq_true, if_false]; exact ih
    · simp only [ne_eq, e, not_false_eq_true, decide_true, if_true]; exact .cons r ih
theorem repk_none {as : Pl} {H : Hp} {kvs : List (Key × V)} {ds : List (Key × D)} (h : RepK X.K as H kvs ds) {k : Key} : (valV kvs k = none ↔ dget ds k = none) := by
  have := (repk_find h k).1
  cases e1 : valV kvs k <;> cases e2 : dget ds k <;> simp_all
theorem ev_dpop (hx : XC X c) {o k e : E} {v y z : Expr} {p2 : Pos} (h1 : plainBase v = true) (h2 : p2.endLine = p.line) (c4 : chkE tb c k y = true) (c5 : chkE tb c e z = true) (ho : EvE X g o v) (hk : EvE X g k y) (he : EvE X g e z) : EvE X g (.dpop o k e) (.Call (.Attribute v "pop" p2) [y, z] [] p) := by
  refine PE.imp (pe_dpop2 ho hk he (m2_of h1 h2 c4 c5)) fun s H Q ⟨as, r, m, hs, sr, h⟩ => ?_
  rw [evE] at h
  refine RE.first hs sr h fun as1 m1 v1 x1 H1 e1 hs1 sr1 rp q => ?_
  obtain ⟨q0, q⟩ := Post.needs q
  obtain ⟨a, vs, rfl, hH⟩ := dc_dict hs1 rp q0
  refine ⟨a, rfl, .inl ⟨vs, .inl hH⟩, RE.first hs1 sr1 q fun as2 m2 v2 x2 H2 e2 hs2 sr2 rp2 q2 => RE.first hs2 sr2 q2 fun as3 m3 v3 x3 H3 e3 hs3 sr3 rp3 q3 => ?_⟩
  have ra := (rp.ext e2).ext e3
  have rk := rp2.ext e3
  dsimp only at q3
  unfold dpopD at q3
  split at q3
  · split at q3
    · rename_i l _ ys el
      obtain ⟨a', ws, ea, hl, hH3, rr⟩ := loc_dict hs3 ra el
      cases ea
      unfold popK at q3
      split at q3
      · rename_i kk ek
        have eky := key_rep rk ek
        refine ⟨ws, kk, hH3, eky, fun w hw => ?_, fun hw => ?_⟩
        · split at q3
          · rename_i d ed
            have fk := (repk_find rr kk).2 w d hw ed
            exact q3 _ _ _ (Ext.put hl) (hs3.put hl ⟨_, upd_same, (repk_drop rr kk).ext (Ext.put hl)⟩) (fk.ext (Ext.put hl))
          · rename_i ed
            rw [(repk_none rr).mpr ed] at hw; cases hw
        · split at q3
          · rename_i d ed
            rw [(repk_none rr).mp hw] at ed; cases ed
          · exact q3.here hs3 rp3
      · exact q3.elim
    · exact q3.elim
  · exact q3.elim
theorem ev_dget (hx : XC X c) {o k e : E} {v y z : Expr} {p2 : Pos} (h1 : plainBase v = true) (h2 : p2.endLine = p.line) (c4 : chkE tb c k y = true) (c5 : chkE tb c e z = true) (ho : EvE X g o v) (hk : EvE X g k y) (he : EvE X g e z) : EvE X g (.dget o k e) (.Call (.Attribute v "get" p2) [y, z] [] p) := by
  refine PE.imp (pe_dget2 (by have := hx.room; omega) ho hk he (m2_of h1 h2 c4 c5)) fun s H Q ⟨as, r, m, hs, sr, h⟩ => ?_
  rw [evE] at h
  refine RE.first hs sr h fun as1 m1 v1 x1 H1 e1 hs1 sr1 rp q => ?_
  obtain ⟨q0, q⟩ := Post.needs q
  obtain ⟨kv0, ek0⟩ := Option.isSome_iff_exists.mp q0
  obtain ⟨a, ks, rfl, hd, rk0⟩ := dctV_rep hs1 rp ek0
  refine ⟨a, rfl, .inl ⟨ks, hd⟩, RE.first hs1 sr1 q fun as2 m2 v2 x2 H2 e2 hs2 sr2 rp2 q2 => RE.first hs2 sr2 q2 fun as3 m3 v3 x3 H3 e3 hs3 sr3 rp3 q3 => ?_⟩
  have ra := (rp.ext e2).ext e3
  have rk := rp2.ext e3
  dsimp only at q3
  unfold dgetD at q3
  split at q3
  · rename_i kvs ekv
    obtain ⟨a', ws, ea, hd3, rr⟩ := dctV_rep hs3 ra ekv
    cases ea
    unfold getK at q3
    split at q3
    · rename_i kk ek
      have eky := key_rep rk ek
      refine ⟨valV ws kk, .inl ⟨ws, kk, hd3, eky, rfl⟩, ?_⟩
      cases ed : dget kvs kk with
      | some d =>
        rw [ed] at q3
        obtain ⟨w, hw, rw'⟩ := repk_dget rr ed
        rw [hw]
        exact q3.here hs3 rw'
      | none =>
        rw [ed] at q3
        rw [(repk_none rr).mpr ed]
        exact q3.here hs3 rp3
    · exact q3.elim
  · exact q3.elim
theorem ev_dclr {o : E} {v : Expr} {p2 : Pos} (h1 : plainBase v = true) (h2 : p2.endLine = p.line) (ho : EvE X g o v) : EvE X g (.dclr o) (.Call (.Attribute v "clear" p2) [] [] p) := by
  refine PE.imp (pe_dclear ho (plainBase_of h1 _) (by simp [h2])) fun s H Q ⟨as, r, m, hs, sr, h⟩ => ?_
  rw [evE] at h
  refine RE.first hs sr h fun as1 m1 v1 x1 H1 e1 hs1 sr1 rp q => ?_
  dsimp only at q
  unfold dclrD at q
  split at q
  · split at q
    · rename_i l _ ys el
      obtain ⟨a, ws, rfl, hl, hH, rr⟩ := loc_dict hs1 rp el
      have h3 := q _ _ _ (Ext.put hl) (hs1.put hl ⟨[], upd_same, .nil⟩) Rep.non
      exact ⟨.inr (.inr (.inl ⟨rfl, .inl ⟨ws, hH⟩⟩)), a, ws, rfl, rfl, hH, h3⟩
    · exact q.elim
  · exact q.elim
/-- (a, b, c).index(k): the tuple is new, so its type is known -/
def rTix (K : PySem.W.Frag) : V → List V → Hp → VK → Prop := fun x xs H Q => ∃ (a : Addr) (ks : List Str) (k : Str), x = .ref a ∧ SqT K H a (ks.map V.str) ∧ xs = [.str k] ∧ k ∈ ks ∧ Q (.int (ks.idxOf k : Nat)) H
theorem pe_tix {es : List Expr} {y : Expr} {t : TA} {ta : TE} {k : Nat} {tpos apos cpos : Pos} (h : PA X es t) (ha : PA X [y] (tCons ta tNil))
    (hfew : ((backTo cpos (starEach [y] X.env)).all (fun x => !x.1) && (backToKw cpos (keywordEach [] X.env)).all (fun x => x.1.isSome) && decide ([y].length + ([] : List Keyword).length + (if ([] : List Keyword).isEmpty then 0 else 1) < 30)) = true)
    (hline : (apos.endLine == cpos.line) = true) (hs : starEach [y] X.env = [(false, eval y X.env)]) :
    PE X (.Call (.Attribute (.Tuple es k tpos) "index" apos) [y] [] cpos) (fun σ H Q => tTup t σ H fun x H1 => tCons ta tNil σ H1 fun xs H2 => rTix X.K x xs H2 Q) := by
  refine ⟨fun pins s σ H Q I hq => ?_⟩
  refine wpAny_Call_method_late rfl hfew hline rfl (wpAny_Tuple_spliced (thn (h.run tpos pins s σ H _ I hq) fun us s1 ⟨xs, H1, I1, r, z, q⟩ => ⟨by rw [← r.length]; exact z, ?_⟩))
  have hf : H1 s1.heap.objs.size = none := I1.hok.fresh (Nat.le_refl _)
  have I2 : Inv X pins σ (upd H1 s1.heap.objs.size (.tup xs)) { s1 with heap := s1.heap.push { cls := .type "tuple", data := .seq us.toArray } } :=
    I1.laid (t' := s1.toks) (fun b u e => Heap.get?_push_of_some _ e) (Nat.le_refl _) ⟨z, us, r, ⟨_, Heap.get?_push_size _ rfl, rfl, _, rfl⟩⟩
  refine ⟨"tuple", "tuple.index", PySem.F.plainAttrs_tuple, PySem.F.slot_tuple_index, PySem.F.type_tuple_index, ⟨_, Heap.get?_push_size _ rfl, rfl⟩, fun a e => by cases e; exact ⟨_, Heap.get?_push_size _ rfl, rfl⟩, ?_⟩
  have hA := ha.run cpos pins _ σ _ _ I2 (q _ hf)
  rw [hs] at hA ⊢
  refine Calls.callWith_builtin rfl (Calls.evalArgs_plain ?_)
  refine thn hA fun vs s2 ⟨ws, H2, I3, r2, q2⟩ => ?_
  obtain ⟨a, ks, kk, ea, hq, rfl, hm, q3⟩ := q2
  cases ea
  obtain ⟨its, rv, ht, _⟩ := I3.tuple hq
  obtain ⟨u, rfl, ru⟩ := Vals.one r2
  obtain ⟨tk, rfl⟩ := ru
  exact PySem.SeqAt.tuple_index_strs ht (Vals.strs rv) hm ⟨.int (ks.idxOf kk : Nat), H2, I3.tok _, ⟨_, rfl⟩, q3⟩
theorem chk_tix {tb : List (Str × String)} {c : Cc} {es : Es} {e : E} {x : Expr} (h : chkE tb c (.tix es e) x = true) : ∃ ys k tp z p2 p, x = .Call (.Attribute (.Tuple ys k tp) "index" p2) [z] [] p ∧ p2.endLine = p.line ∧ chkEs tb c es ys = true ∧ chkE tb c e z = true := by
  cases x <;> try (simp [chkE] at h; done)
  rename_i fn xs kw p
  cases fn <;> try (simp [chkE] at h; done)
  rename_i v m p2
  cases kw <;> try (simp [chkE] at h; done)
  rw [chkE] at h
  split at h
  · rename_i ys z e1 e2
    have e2 := asOne_eq e2
    subst e2
    cases v <;> simp [asTpl] at e1
    subst e1
    simp only [Bool.and_eq_true, decide_eq_true_eq] at h
    obtain ⟨⟨⟨rfl, h2⟩, h3⟩, h4⟩ := h
    exact ⟨_, _, _, z, p2, p, rfl, h2, h3, h4⟩
  · cases h
theorem idx_find {ss : List Str} {k : Str} {j : Nat} (h : (ss.findIdx? fun z => decide (z = k)) = some j) : k ∈ ss ∧ ss.idxOf k = j := by
  obtain ⟨h1, h2⟩ := find_at h
  have hj := (List.getElem?_eq_some_iff.mp h1).1
  have hm : k ∈ ss := List.mem_of_getElem? h1
  refine ⟨hm, ?_⟩
  have hlt := List.idxOf_lt_length_iff.mpr hm
  have hk : ss[ss.idxOf k] = k := List.getElem_idxOf hlt
  rcases Nat.lt_trichotomy (ss.idxOf k) j with hl | he | hg
  · exact absurd hk (h2 _ _ hl (List.getElem?_eq_getElem hlt))
  · exact he
  · exfalso
    have hne : ss[j] ≠ k := PySem.SeqAt.lt_idxOf_ne hg hj
    rw [List.getElem?_eq_getElem hj] at h1
    exact hne (Option.some.inj h1)
theorem ev_tix {tb : List (Str × String)} {es : Es} {e : E} {ys : List Expr} {z : Expr} {k : Nat} {tp p2 : Pos} (h2 : p2.endLine = p.line) (hc : chkE tb c e z = true) (hes : EvA X g es ys) (he : EvE X g e z) : EvE X g (.tix es e) (.Call (.Attribute (.Tuple ys k tp) "index" p2) [z] [] p) := by
  have st : starEach [z] X.env = [(false, eval z X.env)] := star1 hc
  refine PE.imp (pe_tix hes (ev_arg1 he hc) (by rw [st]; rfl) (by simp [h2]) st) fun s H Q ⟨as, r, m, hs, sr, h⟩ => ?_
  rw [evE] at h
  refine RA.first hs sr h fun as1 m1 v x H1 e1 hs1 sr1 rp q => ?_
  have e0 : ((newT x m1).bind fun p => (evE g e r p.2).bind fun z => tixD p.1 z.1 z.2) = need (x.length ≤ sizeMax) ((evE g e r m1).bind fun z => tixD (.tup x) z.1 z.2) := by
    unfold newT need; split <;> rfl
  have q : PostV X.K as1 H1 (need (x.length ≤ sizeMax) ((evE g e r m1).bind fun z => tixD (.tup x) z.1 z.2)) Q := by rw [← e0]; exact q
  obtain ⟨hl, q⟩ := Post.needs q
  refine ⟨by rw [rp.length]; exact hl, fun a ha => ?_⟩
  have ex := Ext.new (as := as1) (o := HO.tup v) ha
  refine RE.first (hs1.new ha) (sr1.ext ex) (Post.later ex q) fun as2 m2 w y H2 e3 hs2 sr2 rp2 q2 => ?_
  cases y <;> try (exact q2.elim)
  rename_i kk
  simp only [tixD] at q2
  split at q2
  · rename_i ss es1
    split at q2
    · rename_i j ej
      have f1 := strsS_of es1
      subst f1
      have f2 := strs_rep' rp
      subst f2
      have f3 := str_rep rp2
      subst f3
      obtain ⟨g1, g2⟩ := idx_find ej
      have hq : SqT X.K H2 a (ss.map V.str) := SqT.of (e3.fr a _ upd_same (Pl.notl (hs1.freshA ha)))
      exact ⟨a, ss, kk, rfl, hq, rfl, g1, by rw [g2]; exact q2.here hs2 (Rep.int _)⟩
    · exact q2.elim
  · exact q2.elim
theorem ev_litems (hx : XC X c) (hg : XG X g tb) (hcm : c.cm = true) {f : Bool} {a : E} {v : Expr} {p1 p2 p3 : Pos} (h1 : gl c "list" = true) (h2 : plainBase v = true) (h3 : p2.endLine = p3.line) (ha : EvE X g a v) : EvE X g (.litems f a) (.Call (.Name "list" p1) [.Call (.Attribute v "items" p2) [] [] p3] [] p) := by
  refine PE.imp (pe_itR (hx.calm hcm) ha (gl_of hx h1) (hg.bl _ (by decide +kernel)) (by cases v <;> first | rfl | (simp [plainBase] at h2)) (by simpa using h3)) fun s H Q ⟨as, r, m, hs, sr, h⟩ => ?_
  rw [evE] at h
  refine RE.first hs sr h fun as1 m1 v x H1 e1 hs1 sr1 rp q => ?_
  dsimp only [litemsD] at q
  split at q
  · rename_i kvs ek
    obtain ⟨b, ks, rfl, hd, rk⟩ := dctV_rep hs1 rp ek
    have hl := (Post.needs q).1
    refine ⟨b, ks, rfl, hd, fun H' p ts g1 g2 g3 g4 g5 g6 => ?_⟩
    have q2 := (Post.needs q).2
    cases f with
    | false =>
      have ex : Ext as1 H1 as1 H' := ⟨Ext.pre0 as1 H1, fun a o h _ => g1 a o h⟩
      have hs' : HS X.K as1 m1 H' := ⟨hs1.len, hs1.nd, fun l a o z1 z2 => by
        have z := hs1.ob l a o z1 z2
        obtain ⟨u, ez⟩ := z.some_
        exact z.ext ex ((g1 _ _ ez).trans ez.symm), fun a ha => ⟨(hs1.hid a ha).1, let ⟨o, y⟩ := (hs1.hid a ha).2; ⟨o, g1 _ _ y⟩⟩⟩
      exact q2 as1 _ H' ex hs' (.lst g5 (hs1.freshA g2) (paired_reps ex (fun t ht => hs1.freshA (g3 t ht)) g6 rk))
    | true =>
      have np := hs1.fresh g2
      have ex : Ext as1 H1 (as1.app [p]) H' := ⟨⟨[p], [], rfl, fun a ha => by rw [List.mem_singleton] at ha; subst ha; exact ⟨np, g2⟩, fun _ z => nomatch z⟩, fun a o h _ => g1 a o h⟩
      have nh : ∀ t ∈ ts, t ∉ (as1.app [p]).all := fun t ht hm => by
        rcases Pl.of_app hm with z | z
        · exact hs1.freshA (g3 t ht) z
        · rw [List.mem_singleton] at z; subst z; exact g4 ht
      have rs : Reps X.K (as1.app [p]) H' (ts.map V.ref) (dItems false kvs) := paired_reps ex nh g6 rk
      have hs' : HS X.K (as1.app [p]) (m1 ++ [.lst (dItems false kvs)]) H' := by
        refine ⟨by simp [Pl.app, hs1.len], ?_, fun l a o z1 z2 => ?_, fun a ha => ⟨fun hm => ?_, let ⟨o, y⟩ := (hs1.hid a ha).2; ⟨o, g1 _ _ y⟩⟩⟩
        · show (as1.l ++ [p]).Nodup
          rw [List.nodup_append]
          exact ⟨hs1.nd, by simp, fun a ha b hb => by rw [List.mem_singleton] at hb; subst hb; rintro rfl; exact np ha⟩
        · change (as1.l ++ [p])[l]? = some a at z1
          by_cases hl : l < as1.l.length
          · rw [List.getElem?_append_left hl] at z1
            rw [List.getElem?_append_left (by rw [← hs1.len]; exact hl)] at z2
            have z := hs1.ob l a o z1 z2
            obtain ⟨u, ez⟩ := z.some_
            exact z.ext ex ((g1 _ _ ez).trans ez.symm)
          · have hl' : l = as1.l.length := by
              have := (List.getElem?_eq_some_iff.mp z1).1
              simp at this; omega
            subst hl'
            rw [List.getElem?_append_right (Nat.le_refl _)] at z1
            rw [hs1.len, List.getElem?_append_right (Nat.le_refl _)] at z2
            simp at z1 z2
            subst z1 z2
            exact ⟨_, g5, rs⟩
        · obtain ⟨o, y⟩ := (hs1.hid a ha).2
          rcases List.mem_append.mp hm with z | z
          · exact (hs1.hid a ha).1 z
          · rw [List.mem_singleton] at z; subst z; rw [g2] at y; cases y
      exact q2 _ _ H' ex hs' (.loc (by rw [← hs1.len]; simp [Pl.app]))
  · exact q.elim
/-- a comprehension -/
theorem ev_lc (hx : XC X c) (hcm : c.cm = true) {f : Bool} {t : T} {own : List Nat} {i : I} {k : Oe} {e : E} {x it : Expr} {ifs : List Expr} {sc : Scope} {ow : List (Str × Nat)} (ho : ow.map (·.2) = own) (hb : blkC c.N c.sc sc ow = true) (hsl : ∀ n ∈ t.slots, n ∈ own)
    (hi : EvI X g i tg it) (hset : ∀ x, foldedSetIterable it X.env x = pure x)
    (hg : ∀ (s : Shared) (H : Hp) (C : Addr) (cl : List (Str × Addr)) (fp : List Addr), PG (X.blk s H sc (compEnvC sc cl C X.env) fp) tg (RG X.K t))
    (ht : ∀ (s : Shared) (H : Hp) (C : Addr) (cl : List (Str × Addr)) (fp : List Addr), PTs (X.blk s H sc (compEnvC sc cl C X.env) fp) ifs (RT X.K (evC g k)))
    (he : ∀ (s : Shared) (H : Hp) (C : Addr) (cl : List (Str × Addr)) (fp : List Addr), PE (X.blk s H sc (compEnvC sc cl C X.env) fp) x (RE X.K (evE g e))) :
    EvE X g (.lc f t own i k e) (.ListComp x [⟨tg, it, ifs, 0⟩] sc p) ∧ ∀ s H Q, RE X.K (evE g (.lc f t own i k e)) s H Q → tLc (RI X.K (evI g i)) (RG X.K t) (RT X.K (evC g k)) (RE X.K (evE g e)) (ow.map (·.2)) s H Q := by
  have blk : BlkOk X.N X.env.scope sc ow := by rw [hx.N, hx.sc]; exact blkOk_by hb
  have red : ∀ s H Q, RE X.K (evE g (.lc f t own i k e)) s H Q → tLc (RI X.K (evI g i)) (RG X.K t) (RT X.K (evC g k)) (RE X.K (evE g e)) (ow.map (·.2)) s H Q := fun s H Q ⟨as, r, m, hs, sr, h⟩ => by
    rw [evE] at h
    refine ⟨as, r, m, hs, sr, (Post.bind (rel := Walked X.K) h).mono fun J H1 ⟨as1, m1, src, e1, hs1, wk, q⟩ => fun D hD => ?_⟩
    have hsl' : ∀ n ∈ t.slots, n ∈ own := hsl
    rw [ho]
    exact lc_D (f := f) hsl' hs1 (sr.ext e1) wk q D hD
  exact ⟨PE.imp (pe_lc (hx.calm hcm) hx.nd hi blk hg ht he hset) red, red⟩
theorem foldSet {x : Expr} {env : PySem.Env} (h : noSet x = true) : ∀ v, foldedSetIterable x env v = pure v := by
  intro v
  cases x <;> first | rfl | (simp [noSet] at h)
theorem plainIx_of {e : E} {x : Expr} (h : chkE tb c e x = true) : PlainIx x := by
  intro o i
  cases x <;> first | rfl | (cases e <;> simp [chkE] at h)
theorem evB_of {e : E} {x : Expr} (h : EvE X g e x) (he : ∀ whole, PySem.isTrue x X.env whole = (do let v ← whole; standAt x.pos; holding [v] (truthy v))) : EvB X g e x := ev_test h he
end
theorem chk_mt {tb : List (Str × String)} {c : Cc} {f : Bool} {t : Mt} {o : E} {es : Es} {x : Expr} (h : chkE tb c (.mt f t o es) x = true) : ∃ v p2 xs p, x = .Call (.Attribute v (nmM t) p2) xs [] p ∧ nmM t ≠ "" ∧ plainBase v = true ∧ xs.length < 30 ∧ p2.endLine = p.line ∧ chkE tb c o v = true ∧ chkEs tb c es xs = true := by
  cases x <;> try (simp [chkE] at h; done)
  rename_i fn xs kw p
  cases fn <;> try (simp [chkE] at h; done)
  rename_i v a p2
  cases kw <;> try (simp [chkE] at h; done)
  simp only [chkE, Bool.and_eq_true, decide_eq_true_eq] at h
  obtain ⟨⟨⟨⟨⟨⟨rfl, h1⟩, h2⟩, h3⟩, h4⟩, h5⟩, h6⟩ := h
  exact ⟨v, p2, xs, p, rfl, h1, h2, h3, h4, h5, h6⟩
theorem chkPs_facts {tb : List (Str × String)} {c : Cc} : ∀ {ps : Ps} {ks : List (Option Expr)} {vs : List Expr}, chkPs tb c ps ks vs = true → ks.all (·.isSome) = true ∧ ks.length = vs.length ∧ ks.length = ps.len
  | .nil, [], [], _ => ⟨rfl, rfl, rfl⟩
  | .nil, [], _ :: _, h => by simp [chkPs] at h
  | .nil, _ :: _, _, h => by simp [chkPs] at h
  | .cons _ _ _, [], _, h => by simp [chkPs] at h
  | .cons _ _ _, none :: _, _, h => by simp [chkPs] at h
  | .cons _ _ _, some _ :: _, [], h => by simp [chkPs] at h
  | .cons k v ps, some x :: xs, y :: ys, h => by
    simp only [chkPs, Bool.and_eq_true] at h
    obtain ⟨a, b, d⟩ := chkPs_facts h.2
    exact ⟨by simpa using a, by simp [b], by simp [d, Ps.len]⟩
theorem ev_dct0 {X : Cx} {g : G} {f : Bool} {p : Pos} : PE X (.Dict [] [] p) (RE X.K (evE g (.dct f .nil))) := PE.imp pe_dnewK fun s H Q ⟨as, r, m, hs, sr, h⟩ => by
  rw [evE, evDct] at h
  exact (newD_post hs .nil h).2
theorem chk_dct {tb : List (Str × String)} {c : Cc} {f : Bool} {ps : Ps} {x : Expr} (h : chkE tb c (.dct f ps) x = true) : ∃ ks vs p, x = .Dict ks vs p ∧ ks.length ≤ 15 ∧ chkPs tb c ps ks vs = true := by
  cases x <;> try (simp [chkE] at h; done)
  rename_i ks vs p
  simp only [chkE, Bool.and_eq_true, decide_eq_true_eq] at h
  exact ⟨ks, vs, p, rfl, h.1, h.2⟩
theorem chk_sm0 {tb : List (Str × String)} {c : Cc} {t : Sm} {o : E} {x : Expr} (h : chkE tb c (.sm0 t o) x = true) : ∃ v p2 p, x = .Call (.Attribute v (nmS t) p2) [] [] p ∧ is0 t = true ∧ plainB v = true ∧ p2.endLine = p.line ∧ chkE tb c o v = true := by
  cases x <;> try (simp [chkE] at h; done)
  rename_i fn xs kw p
  cases fn <;> try (simp [chkE] at h; done)
  rename_i v a p2
  match xs, kw, h with
  | [], [], h =>
    simp only [chkE, Bool.and_eq_true, decide_eq_true_eq] at h
    obtain ⟨⟨⟨⟨rfl, h1⟩, h2⟩, h3⟩, h4⟩ := h
    exact ⟨v, p2, p, rfl, h1, h2, h3, h4⟩
theorem chk_sm1 {tb : List (Str × String)} {c : Cc} {f : Bool} {t : Sm} {o e : E} {x : Expr} (h : chkE tb c (.sm1 f t o e) x = true) : ∃ v y p2 p, x = .Call (.Attribute v (nmS t) p2) [y] [] p ∧ is0 t = false ∧ plainB v = true ∧ p2.endLine = p.line ∧ chkE tb c o v = true ∧ chkE tb c e y = true := by
  cases x <;> try (simp [chkE] at h; done)
  rename_i fn xs kw p
  cases fn <;> try (simp [chkE] at h; done)
  rename_i v a p2
  match xs, kw, h with
  | [y], [], h =>
    simp only [chkE, Bool.and_eq_true, decide_eq_true_eq, Bool.not_eq_true'] at h
    obtain ⟨⟨⟨⟨⟨rfl, h1⟩, h2⟩, h3⟩, h4⟩, h5⟩ := h
    exact ⟨v, y, p2, p, rfl, h1, h2, h3, h4, h5⟩
theorem chk_lrg {tb : List (Str × String)} {c : Cc} {f : Bool} {a : E} {x : Expr} (h : chkE tb c (.lrg f a) x = true) : ∃ y p1 p2 p3 p, x = .Call (.Name "list" p1) [.Call (.Name "range" p2) [y] [] p3] [] p ∧ c.cm = true ∧ gl c "list" = true ∧ gl c "range" = true ∧ chkE tb c a y = true := by
  cases x <;> try (simp [chkE] at h; done)
  rename_i fn xs kw p
  cases fn <;> try (simp [chkE] at h; done)
  rename_i n p1
  cases kw <;> try (simp [chkE] at h; done)
  rw [chkE] at h
  split at h
  · rename_i y z e
    simp only [Bool.and_eq_true, decide_eq_true_eq] at h
    obtain ⟨⟨⟨⟨⟨hcm, rfl⟩, rfl⟩, h1⟩, h2⟩, h3⟩ := h
    obtain ⟨p2, p3, rfl⟩ := asRg_eq e
    exact ⟨z, p1, p2, p3, p, rfl, hcm, h1, h2, h3⟩
  · cases h
theorem chk_lset {tb : List (Str × String)} {c : Cc} {a : E} {x : Expr} (h : chkE tb c (.lset a) x = true) : ∃ y p1 p2 p3 p, x = .Call (.Name "len" p1) [.Call (.Name "set" p2) [y] [] p3] [] p ∧ c.cm = true ∧ gl c "len" = true ∧ gl c "set" = true ∧ chkE tb c a y = true := by
  cases x <;> try (simp [chkE] at h; done)
  rename_i fn xs kw p
  cases fn <;> try (simp [chkE] at h; done)
  rename_i n p1
  cases kw <;> try (simp [chkE] at h; done)
  rw [chkE] at h
  split at h
  · rename_i y z e
    simp only [Bool.and_eq_true, decide_eq_true_eq] at h
    obtain ⟨⟨⟨⟨⟨hcm, rfl⟩, rfl⟩, h1⟩, h2⟩, h3⟩ := h
    obtain ⟨p2, p3, rfl⟩ := asRg_eq e
    exact ⟨z, p1, p2, p3, p, rfl, hcm, h1, h2, h3⟩
  · cases h
theorem chk_orv {tb : List (Str × String)} {c : Cc} {a b : E} {x : Expr} (h : chkE tb c (.orv a b) x = true) : ∃ y z p, x = .BoolOp .Or [y, z] p ∧ chkE tb c a y = true ∧ chkE tb c b z = true := by
  cases x <;> try (simp [chkE] at h; done)
  rename_i op xs p
  cases op <;> try (simp [chkE] at h; done)
  rw [chkE] at h
  split at h
  · rename_i y z e
    rw [Bool.and_eq_true] at h
    have := as2_eq e
    subst this
    exact ⟨y, z, p, rfl, h.1, h.2⟩
  · cases h
theorem orv_no {K : PySem.W.Frag} {g : G} {a b : E} {s : St} {H : Hp} {Q : Bool → Hp → Prop} (h : RTe K (evE g (.orv a b)) s H Q) : False := by
  obtain ⟨as, r, m, hs, sr, h⟩ := h
  dsimp only at h
  rw [evE] at h
  cases ea : evE g a r m with
  | exc _ _ _ => rw [ea] at h; exact h
  | err => rw [ea] at h; exact h
  | ok xm =>
    obtain ⟨x, m1⟩ := xm
    rw [ea, bind_ok] at h
    dsimp only at h
    have rest : ∀ {Q : Bool → Hp → Prop}, PostE K as H (((evE g b r m1).bind fun (y, m2) => onlyI y m2).bind fun (x, m1) => isB x fun k => .ok (k, m1)) Q → False := fun {Q} h => by
      cases eb : evE g b r m1 with
      | exc _ _ _ => rw [eb] at h; exact h
      | err => rw [eb] at h; exact h
      | ok ym =>
        obtain ⟨y, m2⟩ := ym
        rw [eb, bind_ok] at h
        dsimp only at h
        cases y <;> exact h
    cases x <;> first | exact h | skip
    · exact rest h
    · dsimp only [orD] at h
      split at h
      · exact rest h
      · exact h
theorem chk_rev {tb : List (Str × String)} {c : Cc} {f : Bool} {a : E} {x : Expr} (h : chkE tb c (.rev f a) x = true) : ∃ v k p1 p2 p3 p, x = .Subscript v (.Slice none none (some (.UnaryOp .USub (.Constant (.int 1) k p1) p2)) p3) p ∧ chkE tb c a v = true := by
  cases x <;> try (simp [chkE] at h; done)
  rename_i v sl p
  cases sl <;> try (simp [chkE] at h; done)
  rename_i l u st p3
  cases l <;> try (simp [chkE] at h; done)
  cases u <;> try (simp [chkE] at h; done)
  cases st <;> try (simp [chkE] at h; done)
  rename_i st
  cases st <;> try (simp [chkE] at h; done)
  rename_i op y p2
  cases op <;> try (simp [chkE] at h; done)
  cases y <;> try (simp [chkE] at h; done)
  rename_i k _ _
  cases k <;> try (simp [chkE] at h; done)
  rename_i n
  by_cases hn : n = 1
  · subst hn
    simp only [chkE] at h
    exact ⟨_, _, _, _, _, _, rfl, h⟩
  · simp [chkE, hn] at h
theorem chk_litems {tb : List (Str × String)} {c : Cc} {f : Bool} {a : E} {x : Expr} (h : chkE tb c (.litems f a) x = true) : ∃ v p1 p2 p3 p, x = .Call (.Name "list" p1) [.Call (.Attribute v "items" p2) [] [] p3] [] p ∧ c.cm = true ∧ gl c "list" = true ∧ plainBase v = true ∧ p2.endLine = p3.line ∧ chkE tb c a v = true := by
  cases x <;> try (simp [chkE] at h; done)
  rename_i fn xs kw p
  cases fn <;> try (simp [chkE] at h; done)
  rename_i n p1
  cases kw <;> try (simp [chkE] at h; done)
  rw [chkE] at h
  split at h
  · rename_i y e
    split at h
    · rename_i v m p2 p3 e2
      simp only [Bool.and_eq_true, decide_eq_true_eq] at h
      obtain ⟨⟨⟨⟨⟨⟨hcm, rfl⟩, rfl⟩, h1⟩, h2⟩, h3⟩, h4⟩ := h
      have e1 := asOne_eq e
      have e3 := asMt0_eq e2
      subst e1 e3
      exact ⟨v, p1, p2, p3, p, rfl, hcm, h3, h1, h2, h4⟩
    · cases h
  · cases h
theorem chkD_set {c : Cc} {i : Nat} {v : Option Bool} {tg it : Expr} (h : chkD c i v tg it = true) : noSet it = true := by
  cases v with
  | none => obtain ⟨x, px, rfl, _⟩ := chkD_none h; rfl
  | some v => obtain ⟨x, px, p, q, rfl, _⟩ := chkD_of h; rfl
theorem mapM_cons {α β : Type} {f : α → Option β} {x : α} {xs : List α} {ys : List β} (h : (x :: xs).mapM f = some ys) : ∃ b bs, f x = some b ∧ xs.mapM f = some bs ∧ ys = b :: bs := by
  rw [List.mapM_cons] at h
  cases e : f x with
  | none => rw [e] at h; cases h
  | some b =>
    cases e2 : xs.mapM f with
    | none => rw [e, e2] at h; cases h
    | some bs => rw [e, e2] at h; cases h; exact ⟨b, bs, rfl, rfl, rfl⟩
section
variable {X : Cx} {c : Cc} {g : G} {tb : List (Str × String)} {p : Pos}
/-- the value of a class's name -/
theorem pe_cls (hx : XC X c) {d : String} {t : Expr} {cv : Value} (h : chkN1 c d t = true) (hc : ClsN X.mg d cv) : ∃ v, ClsV v cv ∧ PE X t (tC v) ∧ ∀ rest, starEach (t :: rest) X.env = (false, eval t X.env) :: starEach rest X.env := by
  unfold chkN1 at h
  split at h
  · rename_i y ey
    obtain ⟨q, rfl⟩ := asNam_eq ey
    simp only [Bool.and_eq_true, decide_eq_true_eq] at h
    obtain ⟨⟨rfl, h2⟩, h3⟩ := h
    simp only [okNm, Bool.and_eq_true, Bool.not_eq_true'] at h3
    rcases hc with ⟨A, hm, rfl⟩ | ⟨hm, rfl, rfl⟩
    · exact ⟨.ref A, .own A, pe_glob (gl_of hx h2) hm rfl h3.1.1, fun _ => rfl⟩
    · exact ⟨.ty "ValueError", .ty _, pe_bltn (gl_of hx h2) hm PyProof.Rows.Boot.«ValueError» rfl (by decide) h3.1.1, fun _ => rfl⟩
  · cases h
theorem pa_clss (hx : XC X c) {sub : String → Option Bool} {C : Addr} : ∀ (ds : List String) (ts : List Expr) (bs : List Bool), chkNs c ds ts = true → ds.mapM sub = some bs → (∀ d b, sub d = some b → ∃ cv, ClsN X.mg d cv ∧ PySem.W.kitOne X.K (.ref C) cv = some b) →
    ∃ vs us, vs.length = ts.length ∧ Paired ClsV vs us ∧ PySem.W.kitAny X.K (.ref C) us = some (bs.any id) ∧ PA X ts (fun σ H Q => Q vs H)
  | [], [], bs, _, hm, _ => by
    cases hm
    exact ⟨[], [], rfl, .nil, rfl, pa_nil⟩
  | [], _ :: _, _, h, _, _ => by simp [chkNs] at h
  | _ :: _, [], _, h, _, _ => by simp [chkNs] at h
  | d :: ds, t :: ts, bs, h, hm, hk => by
    rw [chkNs, Bool.and_eq_true] at h
    obtain ⟨b, bs', e1, e2, rfl⟩ := mapM_cons hm
    obtain ⟨cv, hcv, hkit⟩ := hk d b e1
    obtain ⟨v, kv, pv, st⟩ := pe_cls hx h.1 hcv
    obtain ⟨vs, us, hl, kvs, hany, pvs⟩ := pa_clss hx ds ts bs' h.2 e2 hk
    refine ⟨v :: vs, cv :: us, by simp [hl], .cons kv kvs, ?_, PA.imp (pa_cons pv pvs (st ts)) fun σ H Q q => q⟩
    cases b with
    | true => simp [PySem.W.kitAny, hkit]
    | false => simp [PySem.W.kitAny, hkit, hany]
theorem exn_rep {as : Pl} {m : Store} {H : Hp} {v : V} {l : Nat} {cn : String} {fs : List (Str × D)} (hs : HS X.K as m H) (r : Rep X.K as H v (.loc l)) (e : m[l]? = some (.exn cn fs)) : ∃ a C d, v = .ref a ∧ H a = some (exT a C d) ∧ clsK X.K cn C ∧ XD X.K as H d fs := by
  cases r with
  | loc h => obtain ⟨C, d, h1, h2, h3⟩ := hs.ob _ _ _ h e; exact ⟨_, C, d, rfl, h1, h2, h3⟩
theorem clsK_eq {K : PySem.W.Frag} {cn : String} {C D : Addr} (h1 : clsK K cn C) (h2 : clsK K cn D) : C = D := by
  unfold clsK at h1 h2
  rw [h1] at h2
  cases h2
  rfl
theorem ev_isx (hx : XC X c) (hg : XG X g tb) {cs : List String} {a : E} {y t : Expr} {p2 : Pos} (h2 : gl c "isinstance" = true) (h3 : chkCl c cs t = true) (hc : chkE tb c a y = true) (ha : EvE X g a y) : EvE X g (.isx a cs) (.Call (.Name "isinstance" p2) [y, t] [] p) := by
  have sy : ∀ rest, starEach (y :: rest) X.env = (false, eval y X.env) :: starEach rest X.env := fun rest => by
    cases y <;> first | rfl | (cases a <;> simp [chkE] at hc)
  refine ⟨fun pins s σ H Q I ⟨as, r, m, hs, sr, h⟩ => ?_⟩
  rw [evE] at h
  cases e0 : evE g a r m with
  | exc _ _ _ _ => rw [e0] at h; exact h.elim
  | err => rw [e0] at h; exact h.elim
  | ok pr =>
    obtain ⟨x, m1⟩ := pr
    rw [e0, bind_ok] at h
    dsimp only at h
    unfold isxD at h
    split at h <;> try exact h.elim
    rename_i l
    split at h <;> try exact h.elim
    rename_i cn fs el
    split at h <;> try exact h.elim
    rename_i bs eb
    -- the class of the exception
    have first : ∀ {P : VK}, (∀ as1 m1' v H1, Ext as H as1 H1 → HS X.K as1 m1' H1 → m1' = m1 → Rep X.K as1 H1 v (.loc l) → P v H1) → RE X.K (evE g a) σ H P := fun {P} k => ⟨as, r, m, hs, sr, by rw [e0]; exact fun as1 v H1 e1 hs1 rv => k as1 m1 v H1 e1 hs1 rfl rv⟩
    have kit : ∀ C, clsK X.K cn C → ∀ d b, g.sub cn d = some b → ∃ cv, ClsN X.mg d cv ∧ PySem.W.kitOne X.K (.ref C) cv = some b := fun C hC d b hd => by
      obtain ⟨C', D, k1, _, k3, k4, _⟩ := hg.xx.sub cn d b hd
      cases clsK_eq hC k1
      exact ⟨D, k3, k4⟩
    have anyC : ∃ C, clsK X.K cn C ∧ L2.ExcC X.K C := by
      cases cs with
      | nil =>
        unfold chkCl at h3
        split at h3
        · simp at h3
        · simp at h3
      | cons d ds =>
        obtain ⟨b, bs', e1, _, _⟩ := mapM_cons eb
        obtain ⟨C, _, k1, k2, _⟩ := hg.xx.sub cn d b e1
        exact ⟨C, k1, k2⟩
    obtain ⟨C, hC, hexc⟩ := anyC
    unfold chkCl at h3
    split at h3
    · rename_i ts et
      obtain ⟨kk, tp, rfl⟩ := asTpl_eq et
      rw [Bool.and_eq_true, Bool.and_eq_true, decide_eq_true_eq] at h3
      obtain ⟨vs, us, hlen, kv, kany, pts⟩ := pa_clss hx cs ts bs h3.2 eb (kit C hC)
      have st : starEach [Expr.Tuple ts kk tp] X.env = [(false, eval (.Tuple ts kk tp) X.env)] := rfl
      have ptup : PE X (.Tuple ts kk tp) _ := pe_tup pts
      have pa := pa_cons ha (pa_cons ptup pa_nil st) (sy _)
      refine (pe_callB call_isXT (gl_of hx h2) (hg.bl _ (by decide +kernel)) (by decide +kernel) pa (by decide) (by decide) (sy _) rfl).run pins s σ H Q I ?_
      refine first fun as1 m1' v H1 e1 hs1 em rv => ?_
      subst em
      obtain ⟨aa, C', d, rfl, g1, g2, g3⟩ := exn_rep hs1 rv el
      cases clsK_eq hC g2
      refine ⟨by rw [hlen]; exact Nat.le_trans h3.1.1 (by decide), fun tpa htp => ?_⟩
      refine ⟨aa, C, tpa, d, vs, us, bs.any id, rfl, upd_same, ?_, ?_, hexc, kv, kany, h as1 (.bl _) _ (e1.trans (Ext.new htp)) (hs1.new htp) (.bl _)⟩
      · rw [upd_ne (ne_of_none g1 htp)]; exact g1
      · exact (g3.ext (Ext.new htp)).s
    · cases cs with
      | nil => simp at h3
      | cons d0 rest =>
        cases rest with
        | cons _ _ => simp at h3
        | nil =>
          obtain ⟨b, bs', e1, e2, rfl⟩ := mapM_cons eb
          cases e2
          obtain ⟨cv, hcv, hkit⟩ := kit C hC d0 b e1
          obtain ⟨v0, kv, pv, st⟩ := pe_cls hx h3 hcv
          have pa := pa_cons ha (pa_cons pv pa_nil (st [])) (sy _)
          refine (pe_callB call_isX (gl_of hx h2) (hg.bl _ (by decide +kernel)) (by decide +kernel) pa (by decide) (by decide) (sy _) (by rw [st]; rfl)).run pins s σ H Q I ?_
          refine first fun as1 m1' v H1 e1' hs1 em rv => ?_
          subst em
          obtain ⟨aa, C', d, rfl, g1, g2, g3⟩ := exn_rep hs1 rv el
          cases clsK_eq hC g2
          refine ⟨aa, C, d, v0, cv, b, rfl, g1, g3.s, hexc, kv, hkit, ?_⟩
          have q := h as1 (.bl ([b].any id)) H1 e1' hs1 (.bl _)
          simpa using q
theorem repF_lookup {as : Pl} {H : Hp} {n : Str} {w : D} : ∀ {vs : List (Str × V)} {fs : List (Str × D)}, RepF X.K as H vs fs → fs.lookup n = some w → ∃ v, vs.lookup n = some v ∧ Rep X.K as H v w
  | [], [], _, h => by cases h
  | [], _ :: _, h, _ => by have := h.1; simp at this
  | _ :: _, [], _, h => by cases h
  | (a, v) :: vs, (b, d) :: fs, h, hl => by
    have h1 := h.1
    simp only [List.map_cons, List.cons.injEq] at h1
    obtain ⟨rfl, h1⟩ := h1
    have h2 := h.2
    simp only [List.map_cons] at h2
    cases h2 with
    | cons r rs =>
      rw [List.lookup_cons] at hl ⊢
      by_cases e : n = a
      · subst e
        simp only [beq_self_eq_true] at hl ⊢
        cases hl
        exact ⟨v, rfl, r⟩
      · have e' : (n == a) = false := by simpa using e
        simp only [e'] at hl ⊢
        exact repF_lookup ⟨h1, rs⟩ hl
theorem ev_fld (hg : XG X g tb) {a : E} {y : Expr} {n : Str} (hn : isNam y = true) (ha : EvE X g a y) : EvE X g (.fld a n) (.Attribute y n p) := by
  obtain ⟨nm, np, rfl⟩ := isNam_eq hn
  refine PE.imp (pe_fX ha (by rfl)) fun s H Q ⟨as, r, m, hs, sr, h⟩ => ?_
  rw [evE] at h
  refine RE.first hs sr h fun as1 m1 v x H1 e1 hs1 sr1 rp q => ?_
  dsimp only at q
  unfold fldD at q
  split at q <;> try exact q.elim
  rename_i l
  split at q <;> try exact q.elim
  rename_i cn fs el
  obtain ⟨hi, q⟩ := q.needs
  split at q <;> try exact q.elim
  rename_i w ew
  obtain ⟨aa, C, d, rfl, g1, g2, g3⟩ := exn_rep hs1 rp el
  obtain ⟨C', _, _, _, _, k1, _, _, _, _, _, k7, k8⟩ := hg.xx.fld cn n hi
  cases clsK_eq g2 k1
  rcases g3 with ⟨_, rfl⟩ | ⟨dd, vs, rfl, y2, y3, y4⟩
  · cases ew
  · obtain ⟨v, z1, z2⟩ := repF_lookup y4 ew
    exact ⟨aa, C, dd, vs, v, rfl, g1, y2, z1, k8, k7, q.here hs1 z2⟩
end
theorem chk_isx {tb : List (Str × String)} {c : Cc} {cs : List String} {a : E} {x : Expr} (h : chkE tb c (.isx a cs) x = true) : ∃ y t p2 p, x = .Call (.Name "isinstance" p2) [y, t] [] p ∧ gl c "isinstance" = true ∧ chkE tb c a y = true ∧ chkCl c cs t = true := by
  cases x <;> try (simp [chkE] at h; done)
  rename_i fn xs kw p
  cases fn <;> try (simp [chkE] at h; done)
  rename_i n p1
  cases kw <;> try (simp [chkE] at h; done)
  rw [chkE] at h
  split at h
  · rename_i y z e
    simp only [Bool.and_eq_true, decide_eq_true_eq] at h
    obtain ⟨⟨⟨rfl, h1⟩, h2⟩, h3⟩ := h
    have := as2_eq e
    subst this
    exact ⟨y, z, p1, p, rfl, h1, h2, h3⟩
  · cases h
theorem chk_fld {tb : List (Str × String)} {c : Cc} {n : Str} {a : E} {x : Expr} (h : chkE tb c (.fld a n) x = true) : ∃ y p, x = .Attribute y n p ∧ isNam y = true ∧ chkE tb c a y = true := by
  cases x <;> try (simp [chkE] at h; done)
  rename_i v m p
  simp only [chkE, Bool.and_eq_true, decide_eq_true_eq] at h
  obtain ⟨⟨rfl, h1⟩, h2⟩ := h
  exact ⟨v, p, rfl, h1, h2⟩
theorem chk_isi {tb : List (Str × String)} {c : Cc} {t : Ty} {a : E} {x : Expr} (h : chkE tb c (.isi t a) x = true) : ∃ y p2 p3 p, x = .Call (.Name "isinstance" p2) [y, .Name (nmT t) p3] [] p ∧ nmT t ≠ "" ∧ gl c "isinstance" = true ∧ gl c (nmT t) = true ∧ chkE tb c a y = true := by
  cases x <;> try (simp [chkE] at h; done)
  rename_i fn xs kw p
  cases fn <;> try (simp [chkE] at h; done)
  rename_i n p2
  cases kw <;> try (simp [chkE] at h; done)
  match xs, h with
  | [y, .Name z p3], h =>
    simp only [chkE, Bool.and_eq_true, decide_eq_true_eq] at h
    obtain ⟨⟨⟨⟨⟨rfl, rfl⟩, h1⟩, h2⟩, h3⟩, h4⟩ := h
    exact ⟨y, p2, p3, p, rfl, h1, h2, h3, h4⟩
variable {g : G} {tb : List (Str × String)}
mutual
theorem sE : ∀ (e : E) (c : Cc) (x : Expr) (X : Cx), XC X c → XG X g tb → chkE tb c e x = true → EvB X g e x
  | .var i, c, x, X, hx, hg, h => by
    cases x <;> simp [chkE] at h
    exact evB_of (ev_var hx h.1.1 h.1.2 h.2) fun _ => rfl
  | .int n, c, x, X, hx, hg, h => by
    cases x <;> try (simp [chkE] at h; done)
    rename_i k _ _
    cases k <;> simp [chkE] at h
    subst h
    exact evB_of ev_int fun _ => rfl
  | .bl n, c, x, X, hx, hg, h => by
    cases x <;> try (simp [chkE] at h; done)
    rename_i k _ _
    cases k <;> simp [chkE] at h
    subst h
    exact evB_of ev_bl fun _ => rfl
  | .non, c, x, X, hx, hg, h => by
    cases x <;> try (simp [chkE] at h; done)
    rename_i k _ _
    cases k <;> simp [chkE] at h
    exact evB_of ev_non fun _ => rfl
  | .str n, c, x, X, hx, hg, h => by
    cases x <;> try (simp [chkE] at h; done)
    rename_i k _ _
    cases k <;> simp [chkE] at h
    subst h
    exact evB_of ev_str fun _ => rfl
  | .con n, c, x, X, hx, hg, h => by
    cases x <;> simp [chkE] at h
    obtain ⟨⟨rfl, h2⟩, h3⟩ := h
    exact evB_of (ev_con hx hg h2 h3) fun _ => rfl
  | .bin f o a b, c, x, X, hx, hg, h => by
    cases x <;> simp [chkE] at h
    obtain ⟨⟨rfl, h2⟩, h3⟩ := h
    exact evB_of (ev_bin (sE a c _ X hx hg h2).1 (sE b c _ X hx hg h3).1) fun _ => rfl
  | .neg a, c, x, X, hx, hg, h => by
    cases x <;> try (simp [chkE] at h; done)
    rename_i op y p
    cases op <;> simp [chkE] at h
    exact evB_of (ev_neg (sE a c _ X hx hg h).1) fun _ => rfl
  | .cmp o a b, c, x, X, hx, hg, h => by
    match x, h with
    | .Compare l [op] [r] p, h =>
      simp [chkE] at h
      obtain ⟨⟨⟨rfl, h2⟩, h3⟩, h4⟩ := h
      exact ev_cmp hx (sE a c _ X hx hg h2).1 (sE b c _ X hx hg h3).1 h4
  | .cmp2 o o' a b d, c, x, X, hx, hg, h => by
    match x, h with
    | .Compare l [op, op'] [r, r'] p, h =>
      simp [chkE] at h
      obtain ⟨⟨⟨⟨⟨rfl, rfl⟩, h2⟩, h3⟩, h5⟩, h4⟩ := h
      exact ev_cmp2 hx (sE a c _ X hx hg h2).1 (sE b c _ X hx hg h3).1 (sE d c _ X hx hg h5).1 h4
  | .isN a, c, x, X, hx, hg, h => by
    match x, h with
    | .Compare l [.Is] [.Constant .none _ _] p, h =>
      simp [chkE] at h
      exact ev_isN (sE a c _ X hx hg h).1
  | .notN a, c, x, X, hx, hg, h => by
    match x, h with
    | .Compare l [.IsNot] [.Constant .none _ _] p, h =>
      simp [chkE] at h
      exact ev_notN (sE a c _ X hx hg h).1
  | .isB n k a, c, x, X, hx, hg, h => by
    match x, h with
    | .Compare l [op] [.Constant (.bool b) j p2] p, h' =>
      have h2 : (op = if n then CmpOp.IsNot else CmpOp.Is) ∧ b = k ∧ chkE tb c a l = true := by
        simp only [chkE, Bool.and_eq_true, decide_eq_true_eq] at h'
        exact ⟨h'.1.1, h'.1.2, h'.2⟩
      obtain ⟨e1, e2, e3⟩ := h2
      subst e1 e2
      exact ev_isB (sE a c _ X hx hg e3).1
  | .not a, c, x, X, hx, hg, h => by
    match x, h with
    | .UnaryOp .Not y p, h =>
      simp [chkE] at h
      exact ev_not (sE a c _ X hx hg h)
  | .and es, c, x, X, hx, hg, h => by
    match x, h with
    | .BoolOp .And xs p, h =>
      simp [chkE] at h
      have q := sAnd es c xs p X hx hg h
      have e1 : evE g (.and es) = evAnd g es := by funext r m; rw [evE]
      show PE X _ (RE X.K (evE g (.and es))) ∧ PT X _ (RTe X.K (evE g (.and es)))
      rw [e1]
      exact ⟨q.1, q.2.pt⟩
  | .or es, c, x, X, hx, hg, h => by
    match x, h with
    | .BoolOp .Or xs p, h =>
      simp [chkE] at h
      have q := sOr es c xs p X hx hg h
      have e1 : evE g (.or es) = evOr g es := by funext r m; rw [evE]
      show PE X _ (RE X.K (evE g (.or es))) ∧ PT X _ (RTe X.K (evE g (.or es)))
      rw [e1]
      exact ⟨q.1, q.2.pt⟩
  | .ife k a b, c, x, X, hx, hg, h => by
    cases x <;> simp [chkE] at h
    exact ev_ife (sE k c _ X hx hg h.1.1) (sE a c _ X hx hg h.1.2) (sE b c _ X hx hg h.2)
  | .tup es, c, x, X, hx, hg, h => by
    cases x <;> simp [chkE] at h
    exact evB_of (ev_tup (sEs es c _ X hx hg h)) fun _ => rfl
  | .lst f es, c, x, X, hx, hg, h => by
    cases x <;> simp [chkE] at h
    exact evB_of (ev_lst (sEs es c _ X hx hg h)) fun _ => rfl
  | .idx a i, c, x, X, hx, hg, h => by
    cases x <;> simp [chkE] at h
    exact evB_of (ev_idx hx (sE a c _ X hx hg h.1).1 (sE i c _ X hx hg h.2).1 (plainIx_of h.2)) fun _ => rfl
  | .slc f a lo hi, c, x, X, hx, hg, h => by
    match x, h with
    | .Subscript v (.Slice l u none _) p, h =>
      simp [chkE] at h
      exact evB_of (ev_slc (sE a c _ X hx hg h.1.1).1 (sO lo c _ X hx hg h.1.2) (sO hi c _ X hx hg h.2)) fun _ => rfl
  | .call n es, c, x, X, hx, hg, h => by
    match x, h with
    | .Call (.Name y p2) xs [] p, h =>
      simp only [chkE, Bool.and_eq_true, decide_eq_true_eq] at h
      exact evB_of (ev_call hx hg h.1.1.1 h.1.1.2 h.1.2 h.2 (sEs es c _ X hx hg h.2)) fun _ => rfl
  | .dct f ps, c, x, X, hx, hg, h => by
    obtain ⟨ks, vs, p, rfl, h1, h2⟩ := chk_dct h
    obtain ⟨a, b, d⟩ := chkPs_facts h2
    by_cases h0 : ks = []
    · subst h0
      cases ps with
      | cons _ _ _ => simp [Ps.len] at d
      | nil =>
        cases vs with
        | cons _ _ => simp at b
        | nil => exact evB_of ev_dct0 fun _ => rfl
    · exact evB_of (ev_dct (sPs ps c ks vs p X hx hg h2) a b h0 h1 d) fun _ => rfl
  | .sm0 t o, c, x, X, hx, hg, h => by
    obtain ⟨v, p2, p, rfl, h1, h2, h3, h4⟩ := chk_sm0 h
    exact evB_of (ev_sm0 h1 h2 h3 (sE o c _ X hx hg h4).1) fun _ => rfl
  | .sm1 f t o e, c, x, X, hx, hg, h => by
    obtain ⟨v, y, p2, p, rfl, h1, h2, h3, h4, h5⟩ := chk_sm1 h
    exact evB_of (ev_sm1 h1 h2 h3 (sE o c _ X hx hg h4).1 (sE e c _ X hx hg h5).1 h5) fun _ => rfl
  | .rev f a, c, x, X, hx, hg, h => by
    obtain ⟨v, k, p1, p2, p3, p, rfl, h1⟩ := chk_rev h
    exact evB_of (ev_rev (sE a c _ X hx hg h1).1) fun _ => rfl
  | .lrg f a, c, x, X, hx, hg, h => by
    obtain ⟨y, p1, p2, p3, p, rfl, hcm, h1, h2, h3⟩ := chk_lrg h
    exact evB_of (ev_lrg hx hg hcm h1 h2 h3 (sE a c _ X hx hg h3).1) fun _ => rfl
  | .lset a, c, x, X, hx, hg, h => by
    obtain ⟨y, p1, p2, p3, p, rfl, hcm, h1, h2, h3⟩ := chk_lset h
    exact evB_of (ev_lset hx hg hcm h1 h2 h3 (sE a c _ X hx hg h3).1) fun _ => rfl
  | .litems f a, c, x, X, hx, hg, h => by
    obtain ⟨v, p1, p2, p3, p, rfl, hcm, h1, h2, h3, h4⟩ := chk_litems h
    exact evB_of (ev_litems hx hg hcm h1 h2 h3 (sE a c _ X hx hg h4).1) fun _ => rfl
  | .orv a b, c, x, X, hx, hg, h => by
    obtain ⟨y, z, p, rfl, h1, h2⟩ := chk_orv h
    refine ⟨ev_orvE (sE a c _ X hx hg h1).1 (sE b c _ X hx hg h2).1, ⟨fun pins s σ H Q I hw => ?_⟩⟩
    exact (orv_no hw).elim
  | .isx a cs, c, x, X, hx, hg, h => by
    obtain ⟨y, t, p2, p, rfl, h1, h2, h3⟩ := chk_isx h
    exact evB_of (ev_isx hx hg h1 h3 h2 (sE a c _ X hx hg h2).1) fun _ => rfl
  | .fld a n, c, x, X, hx, hg, h => by
    obtain ⟨y, p, rfl, h1, h2⟩ := chk_fld h
    exact evB_of (ev_fld hg h1 (sE a c _ X hx hg h2).1) fun _ => rfl
  | .dpop o k e, c, x, X, hx, hg, h => by
    obtain ⟨v, y, z, p2, p, rfl, h1, h2, h3, h4, h5⟩ := chk_dpop h
    exact evB_of (ev_dpop hx h1 h2 h4 h5 (sE o c _ X hx hg h3).1 (sE k c _ X hx hg h4).1 (sE e c _ X hx hg h5).1) fun _ => rfl
  | .dget o k e, c, x, X, hx, hg, h => by
    obtain ⟨v, y, z, p2, p, rfl, h1, h2, h3, h4, h5⟩ := chk_dget h
    exact evB_of (ev_dget hx h1 h2 h4 h5 (sE o c _ X hx hg h3).1 (sE k c _ X hx hg h4).1 (sE e c _ X hx hg h5).1) fun _ => rfl
  | .dclr o, c, x, X, hx, hg, h => by
    obtain ⟨v, p2, p, rfl, h1, h2, h3⟩ := chk_dclr h
    exact evB_of (ev_dclr h1 h2 (sE o c _ X hx hg h3).1) fun _ => rfl
  | .tix es e, c, x, X, hx, hg, h => by
    obtain ⟨ys, k, tp, z, p2, p, rfl, h2, h3, h4⟩ := chk_tix h
    exact evB_of (ev_tix h2 h4 (sEs es c _ X hx hg h3) (sE e c _ X hx hg h4).1) fun _ => rfl
  | .isi t a, c, x, X, hx, hg, h => by
    obtain ⟨y, p2, p3, p, rfl, h1, h2, h3, h4⟩ := chk_isi h
    exact evB_of (ev_isi hx hg h1 h2 h3 h4 (sE a c _ X hx hg h4).1) fun _ => rfl
  | .bi f b es, c, x, X, hx, hg, h => by
    match x, h with
    | .Call (.Name y p2) (z :: xs) [] p, h =>
      simp only [chkE, Bool.and_eq_true, decide_eq_true_eq] at h
      obtain ⟨⟨⟨⟨hcm, rfl⟩, h1⟩, h2⟩, h3⟩ := h
      exact evB_of (ev_bi hx hg hcm h1 h2 h3 (sEs es c _ X hx hg h3)) fun _ => rfl
  | .mt f t o es, c, x, X, hx, hg, h => by
    obtain ⟨v, p2, xs, p, rfl, h1, h2, h3, h4, h5, h6⟩ := chk_mt h
    exact evB_of (ev_mt hx h1 h2 h6 h3 h4 (sE o c _ X hx hg h5).1 (sEs es c _ X hx hg h6)) fun _ => rfl
  | .lc f t own i k e, c, x, X, hx, hg, h => by
    match x, h with
    | .ListComp y [⟨tg, it, ifs, 0⟩] sc p, h =>
      simp only [chkE, Bool.and_eq_true, decide_eq_true_eq, List.all_eq_true] at h
      obtain ⟨⟨⟨⟨⟨⟨⟨⟨hcm, h1⟩, h2⟩, h3⟩, h4⟩, h5⟩, h6⟩, h7⟩, h8⟩ := h
      exact evB_of (ev_lc (tg := tg) hx hcm h1 h2 h3 (sI i c tg it X hx hg h5) (foldSet h8) (fun s H C cl fp => pg_T (hx.blk sc s H C cl fp) t tg h4)
        (fun s H C cl fp => sC k _ ifs _ (hx.blk sc s H C cl fp) (hg.blk sc s H C cl fp) h6) (fun s H C cl fp => (sE e _ y _ (hx.blk sc s H C cl fp) (hg.blk sc s H C cl fp) h7).1)).1 fun _ => rfl
  | .lcD f t own i v k e, c, x, X, hx, hg, h => by
    match x, h with
    | .ListComp y [⟨tg, it, ifs, 0⟩] sc p, h =>
      simp only [chkE, Bool.and_eq_true, decide_eq_true_eq, List.all_eq_true] at h
      obtain ⟨⟨⟨⟨⟨⟨⟨hcm, h1⟩, h2⟩, h3⟩, h4⟩, h5⟩, h6⟩, h7⟩ := h
      exact evB_of (ev_lcD (tg := tg) hx hcm h1 h2 h3 (ev_dI hx h5) (foldSet (chkD_set h5)) (fun s H C cl fp => pg_T (hx.blk sc s H C cl fp) t tg h4)
        (fun s H C cl fp => sC k _ ifs _ (hx.blk sc s H C cl fp) (hg.blk sc s H C cl fp) h6) (fun s H C cl fp => (sE e _ y _ (hx.blk sc s H C cl fp) (hg.blk sc s H C cl fp) h7).1)) fun _ => rfl
theorem sPs : ∀ (ps : Ps) (c : Cc) (ks : List (Option Expr)) (vs : List Expr) (p : Pos) (X : Cx), XC X c → XG X g tb → chkPs tb c ps ks vs = true → PPs X p ks vs (trsP X g ps)
  | .nil, c, ks, vs, p, X, hx, hg, h => by
    cases ks <;> cases vs <;> simp [chkPs] at h
    exact pps_nil
  | .cons k v ps, c, ks, vs, p, X, hx, hg, h => by
    match ks, vs, h with
    | some x :: xs, y :: ys, h =>
      simp only [chkPs, Bool.and_eq_true] at h
      exact pps_cons (sE k c x X hx hg h.1.1).1 (sE v c y X hx hg h.1.2).1 (sPs ps c xs ys p X hx hg h.2)
theorem sO : ∀ (o : Oe) (c : Cc) (x : Option Expr) (X : Cx), XC X c → XG X g tb → chkO tb c o x = true → EvO X g o x
  | .none, c, x, X, hx, hg, h => by
    cases x <;> simp [chkO] at h
    exact ev_no
  | .some e, c, x, X, hx, hg, h => by
    cases x <;> simp [chkO] at h
    exact ev_so (sE e c _ X hx hg h).1
theorem sC : ∀ (o : Oe) (c : Cc) (xs : List Expr) (X : Cx), XC X c → XG X g tb → chkC tb c o xs = true → PTs X xs (RT X.K (evC g o))
  | .none, c, xs, X, hx, hg, h => by
    cases xs <;> simp [chkC] at h
    exact ⟨fun pins s σ H Q I ⟨as, r, m, hs, sr, h⟩ => pts_nil.run pins s σ H Q I (by rw [evC] at h; exact h.here hs rfl)⟩
  | .some e, c, xs, X, hx, hg, h => by
    match xs, h with
    | [x], h =>
      simp [chkC] at h
      have e0 : evC g (.some e) = fun r m => (evE g e r m).bind fun (x, m1) => isB x fun b => .ok (b, m1) := by funext r m; rw [evC]
      rw [e0]
      exact pts_one (sE e c _ X hx hg h).2
theorem sEs : ∀ (es : Es) (c : Cc) (xs : List Expr) (X : Cx), XC X c → XG X g tb → chkEs tb c es xs = true → EvA X g es xs
  | .nil, c, xs, X, hx, hg, h => by
    cases xs <;> simp [chkEs] at h
    exact ev_nil
  | .cons e es, c, xs, X, hx, hg, h => by
    match xs, h with
    | x :: xs, h =>
      have st := starEach_of (env := X.env) h
      rw [chkEs, Bool.and_eq_true] at h
      exact ev_cons (sE e c _ X hx hg h.1).1 (sEs es c _ X hx hg h.2) (by rw [st, starEach_of h.2]; rfl)
theorem sAnd : ∀ (es : Es) (c : Cc) (xs : List Expr) (p : Pos) (X : Cx), XC X c → XG X g tb → chkEs tb c es xs = true → PE X (.BoolOp .And xs p) (RE X.K (evAnd g es)) ∧ PW X (.BoolOp .And xs p) (RTe X.K (evAnd g es))
  | .nil, c, xs, p, X, hx, hg, h => by
    have no : ∀ {s H Q}, ¬ RE X.K (evAnd g .nil) s H Q := fun ⟨as, r, m, hs, sr, h⟩ => by rw [evAnd] at h; exact h
    have no2 : ∀ {s H Q}, ¬ RTe X.K (evAnd g .nil) s H Q := fun ⟨as, r, m, hs, sr, h⟩ => by dsimp only at h; rw [evAnd] at h; exact h
    exact ⟨⟨fun _ _ _ _ _ _ h => (no h).elim⟩, ⟨fun _ _ _ _ _ _ _ h => (no2 h).elim⟩⟩
  | .cons e .nil, c, xs, p, X, hx, hg, h => by
    match xs, h with
    | [x], h =>
      rw [chkEs, Bool.and_eq_true] at h
      exact ev_and1 (sE e c _ X hx hg h.1)
    | x :: y :: r, h => simp [chkEs] at h
  | .cons e (.cons e' es'), c, xs, p, X, hx, hg, h => by
    match xs, h with
    | [x], h => simp [chkEs] at h
    | x :: y :: r, h =>
      rw [chkEs, Bool.and_eq_true] at h
      exact ev_and2 (sE e c _ X hx hg h.1) (sAnd (.cons e' es') c (y :: r) p X hx hg h.2)
theorem sOr : ∀ (es : Es) (c : Cc) (xs : List Expr) (p : Pos) (X : Cx), XC X c → XG X g tb → chkEs tb c es xs = true → PE X (.BoolOp .Or xs p) (RE X.K (evOr g es)) ∧ PW X (.BoolOp .Or xs p) (RTe X.K (evOr g es))
  | .nil, c, xs, p, X, hx, hg, h => by
    have no : ∀ {s H Q}, ¬ RE X.K (evOr g .nil) s H Q := fun ⟨as, r, m, hs, sr, h⟩ => by rw [evOr] at h; exact h
    have no2 : ∀ {s H Q}, ¬ RTe X.K (evOr g .nil) s H Q := fun ⟨as, r, m, hs, sr, h⟩ => by dsimp only at h; rw [evOr] at h; exact h
    exact ⟨⟨fun _ _ _ _ _ _ h => (no h).elim⟩, ⟨fun _ _ _ _ _ _ _ h => (no2 h).elim⟩⟩
  | .cons e .nil, c, xs, p, X, hx, hg, h => by
    match xs, h with
    | [x], h =>
      rw [chkEs, Bool.and_eq_true] at h
      exact ev_or1 (sE e c _ X hx hg h.1)
    | x :: y :: r, h => simp [chkEs] at h
  | .cons e (.cons e' es'), c, xs, p, X, hx, hg, h => by
    match xs, h with
    | [x], h => simp [chkEs] at h
    | x :: y :: r, h =>
      rw [chkEs, Bool.and_eq_true] at h
      exact ev_or2 (sE e c _ X hx hg h.1) (sOr (.cons e' es') c (y :: r) p X hx hg h.2)
theorem sI : ∀ (i : I) (c : Cc) (tg x : Expr) (X : Cx), XC X c → XG X g tb → chkI tb c i tg x = true → EvI X g i tg x
  | .seq e, c, tg, x, X, hx, hg, h => by
    simp only [chkI] at h
    exact ev_seq (sE e c _ X hx hg h).1
  | .rng1 a, c, tg, x, X, hx, hg, h => by
    match x, h with
    | .Call (.Name y _) [z] [] _, h =>
      simp only [chkI, Bool.and_eq_true, decide_eq_true_eq] at h
      obtain ⟨⟨rfl, h1⟩, h2⟩ := h
      exact ev_rng1 hx hg h1 h2 (sE a c _ X hx hg h2).1
  | .rng2 a b, c, tg, x, X, hx, hg, h => by
    match x, h with
    | .Call (.Name y _) [z, u] [] _, h =>
      simp only [chkI, Bool.and_eq_true, decide_eq_true_eq] at h
      obtain ⟨⟨⟨rfl, h1⟩, h2⟩, h3⟩ := h
      exact ev_rng2 hx hg h1 h2 h3 (sE a c _ X hx hg h2).1 (sE b c _ X hx hg h3).1
  | .rng3 a b d, c, tg, x, X, hx, hg, h => by
    match x, h with
    | .Call (.Name y _) [z, u, w] [] _, h =>
      simp only [chkI, Bool.and_eq_true, decide_eq_true_eq] at h
      obtain ⟨⟨⟨⟨rfl, h1⟩, h2⟩, h3⟩, h4⟩ := h
      exact ev_rng3 hx hg h1 h2 h3 h4 (sE a c _ X hx hg h2).1 (sE b c _ X hx hg h3).1 (sE d c _ X hx hg h4).1
  | .enum a, c, tg, x, X, hx, hg, h => by
    match tg, x, h with
    | .Tuple _ _ _, .Call (.Name y _) [z] [] _, h =>
      simp only [chkI, Bool.and_eq_true, decide_eq_true_eq] at h
      obtain ⟨⟨rfl, h1⟩, h2⟩ := h
      exact ev_enum hx hg h1 h2 (sE a c _ X hx hg h2).1
  | .zip a b, c, tg, x, X, hx, hg, h => by
    match tg, x, h with
    | .Tuple _ _ _, .Call (.Name y _) [z, u] [] _, h =>
      simp only [chkI, Bool.and_eq_true, decide_eq_true_eq] at h
      obtain ⟨⟨⟨rfl, h1⟩, h2⟩, h3⟩ := h
      exact ev_zip hx hg h1 h2 h3 (sE a c _ X hx hg h2).1 (sE b c _ X hx hg h3).1
  | .zip3 a b d, c, tg, x, X, hx, hg, h => by
    match tg, x, h with
    | .Tuple _ _ _, .Call (.Name y _) [z, u, w] [] _, h =>
      simp only [chkI, Bool.and_eq_true, decide_eq_true_eq] at h
      obtain ⟨⟨⟨⟨rfl, h1⟩, h2⟩, h3⟩, h4⟩ := h
      exact ev_zip3 hx hg h1 h2 h3 h4 (sE a c _ X hx hg h2).1 (sE b c _ X hx hg h3).1 (sE d c _ X hx hg h4).1
end
end DV

end
section
set_option Elab.async false
set_option linter.all false
set_option maxRecDepth 100000
set_option autoImplicit false
set_option maxHeartbeats 1000000
/-! Expressions out of which an exception comes. -/
namespace DV
open PySem PySem.Spec PyProof.Rows L2
theorem PA.or {X : Cx} {e : List Expr} {t t' : TA} (h : PA X e t) (h' : PA X e t') : PA X e (fun s H Q => t s H Q ∨ t' s H Q) := ⟨fun pos pins s σ H Q I hw => hw.elim (h.run pos pins s σ H Q I) (h'.run pos pins s σ H Q I)⟩
/-- an expression that raises -/
def RXE (K : PySem.W.Frag) (W : WX) (ev : Fr → Store → RD) : TE := fun s H _ => ∃ as r m c fs r' m', HS K as m H ∧ SR K as H s r ∧ ev r m = .exc c fs r' m' ∧ ∀ as' H' cls d, Ext as H as' H' → HS K as' m' H' → XR K as' H' cls d c fs → W cls d s H'
def RXA (K : PySem.W.Frag) (W : WX) (ev : Fr → Store → Res (List D × Store)) : TA := fun s H _ => ∃ as r m c fs r' m', HS K as m H ∧ SR K as H s r ∧ ev r m = .exc c fs r' m' ∧ ∀ as' H' cls d, Ext as H as' H' → HS K as' m' H' → XR K as' H' cls d c fs → W cls d s H'
/-- a def that raises, called -/
def CallX (X : Cx) (W : WX) (f : Addr) (R : List D → Store → RD) : Prop := ∀ (pins : List (Addr × Obj)) (s : Shared) (σ : St) (H : Hp) (xs : List V) (us : List Value) (Q : VK), Inv X pins σ H s → Vals xs us →
  (∃ as m ds c fs r' m', HS X.K as m H ∧ Reps X.K as H xs ds ∧ R ds m = .exc c fs r' m' ∧ ∀ as' H' cls d, Ext as H as' H' → HS X.K as' m' H' → XR X.K as' H' cls d c fs → W cls d σ H') → wpAny (model X.prog X.w) X.A (call (.ref f) us) (EP X pins σ Q) X.xe s
def XGX (X : Cx) (W : WX) (g : G) (tb : List (Str × String)) : Prop := ∀ x n, (x, n) ∈ tb → ∃ f, X.mg x = some (.ref f) ∧ PySem.W.keepIn X.K (.ref f) = true ∧ CallX X W f (g.fn n)
/-! ### operators raise nothing that is covered -/
theorem nx_need {α : Type} {p : Prop} [Decidable p] {r : Res α} {c : String} {fs : List (Str × D)} {r' : Fr} {m' : Store} (h : need p r = .exc c fs r' m') : r = .exc c fs r' m' := by
  unfold need at h
  split at h
  · exact h
  · cases h
theorem nx_newL {f : Bool} {xs : List D} {m : Store} {c : String} {fs : List (Str × D)} {r' : Fr} {m' : Store} : newL f xs m ≠ .exc c fs r' m' := fun h => by
  have h := nx_need h
  split at h <;> cases h
theorem nx_newT {xs : List D} {m : Store} {c : String} {fs : List (Str × D)} {r' : Fr} {m' : Store} : newT xs m ≠ .exc c fs r' m' := fun h => by
  have h := nx_need h
  cases h
theorem nx_bin {f : Bool} {o : BOp} {a b : D} {m : Store} {c : String} {fs : List (Str × D)} {r' : Fr} {m' : Store} : binD f o a b m ≠ .exc c fs r' m' := fun h => by
  unfold binD at h
  repeat' (split at h)
  all_goals first
    | (cases h; done)
    | exact nx_newT h
    | exact nx_newL h
    | (have h := nx_need h; cases h; done)
    | (have h := nx_need h; exact nx_newT h)
    | (have h := nx_need h; exact nx_newL h)
theorem nx_ix {a b : D} {m : Store} {c : String} {fs : List (Str × D)} {r' : Fr} {m' : Store} : ixD a b m ≠ .exc c fs r' m' := fun h => by
  unfold ixD ixT ixC ixK ixS at h
  repeat' (split at h)
  all_goals first
    | (cases h; done)
    | (have h := nx_need h; cases h; done)
    | (have h := nx_need h; split at h <;> cases h; done)
theorem nx_eqM {a b : D} {m : Store} {c : String} {fs : List (Str × D)} {r' : Fr} {m' : Store} : eqM m a b ≠ .exc c fs r' m' := fun h => by
  unfold eqM at h
  split at h
  · have h := nx_need h; cases h
  · cases h
theorem nx_ordM {k : D → D → Bool} {a b : D} {m : Store} {c : String} {fs : List (Str × D)} {r' : Fr} {m' : Store} : ordM k m a b ≠ .exc c fs r' m' := fun h => by
  unfold ordM at h
  split at h
  · have h := nx_need h; cases h
  · cases h
theorem nx_inM {a b : D} {m : Store} {c : String} {fs : List (Str × D)} {r' : Fr} {m' : Store} : inM m a b ≠ .exc c fs r' m' := fun h => by
  unfold inM inC seekM at h
  repeat' (split at h)
  all_goals first
    | (cases h; done)
    | (have h := nx_need h; cases h; done)
theorem nx_bnd {α β : Type} {r : Res α} {f : α → Res β} {c : String} {fs : List (Str × D)} {r' : Fr} {m' : Store} (h : r.bind f = .exc c fs r' m') : r = .exc c fs r' m' ∨ ∃ a, r = .ok a ∧ f a = .exc c fs r' m' := by
  cases r with
  | ok a => exact .inr ⟨a, rfl, h⟩
  | exc c' fs' r'' m'' => left; simpa using h
  | err => cases h
theorem nx_cmp {o : COp} {a b : D} {m : Store} {c : String} {fs : List (Str × D)} {r' : Fr} {m' : Store} : cmpB o a b m ≠ .exc c fs r' m' := fun h => by
  unfold cmpB at h
  split at h
  all_goals first
    | exact nx_eqM h
    | exact nx_ordM h
    | exact nx_inM h
    | (cases h; done)
    | (rcases nx_bnd h with h | ⟨_, _, h⟩ <;> first | exact nx_eqM h | exact nx_inM h | (cases h; done))
section
variable {X : Cx} {W : WX} {g : G} {tb : List (Str × String)}
theorem RXE.of {K : PySem.W.Frag} {ev : Fr → Store → RD} {as : Pl} {r : Fr} {m : Store} {s : St} {H : Hp} {Q : VK} {c : String} {fs : List (Str × D)} {r' : Fr} {m' : Store} (hs : HS K as m H) (sr : SR K as H s r) (e : ev r m = .exc c fs r' m') (h : ∀ as' H' cls d, Ext as H as' H' → HS K as' m' H' → XR K as' H' cls d c fs → W cls d s H') : RXE K W ev s H Q := ⟨as, r, m, c, fs, r', m', hs, sr, e, h⟩
/-- two values, one of which raises -/
theorem two_ofX {K : PySem.W.Frag} {a b : Fr → Store → RD} {op : D → D → Store → RD} {R : R2} {s : St} {H : Hp} {Q : VK} (hop : ∀ x y m c fs r' m', op x y m ≠ .exc c fs r' m')
    (h : RXE K W (fun r m => (a r m).bind fun (x, m1) => (b r m1).bind fun (y, m2) => op x y m2) s H Q) : tOp R (fun s H Q => RE K a s H Q ∨ RXE K W a s H Q) (fun s H Q => RE K b s H Q ∨ RXE K W b s H Q) s H Q := by
  obtain ⟨as, r, m, c, fs, r', m', hs, sr, e, h⟩ := h
  rcases nx_bnd e with e | ⟨⟨x, m1⟩, ea, e⟩
  · exact .inr ⟨as, r, m, c, fs, r', m', hs, sr, e, h⟩
  · refine .inl ⟨as, r, m, hs, sr, ?_⟩
    rw [ea]
    intro as1 v H1 e1 hs1 rv
    rcases nx_bnd e with e | ⟨⟨y, m2⟩, eb, e⟩
    · exact .inr ⟨as1, r, m1, c, fs, r', m', hs1, sr.ext e1, e, fun as' H' cls d e2 => h as' H' cls d (e1.trans e2)⟩
    · exact absurd e (hop _ _ _ _ _ _ _)
theorem nxA_no {g : G} {e : E} {r : Fr} {m : Store} {c : String} {fs : List (Str × D)} {r' : Fr} {m' : Store} (h : nxA e = true) : evE g e r m ≠ .exc c fs r' m' := fun z => by
  cases e <;> first | (simp [nxA] at h; done) | skip
  all_goals rw [evE] at z
  all_goals first | (cases z; done) | (split at z <;> cases z)
theorem nxT_no {g : G} {e : E} {r : Fr} {m : Store} {c : String} {fs : List (Str × D)} {r' : Fr} {m' : Store} (h : nxT e = true) : evE g e r m ≠ .exc c fs r' m' := fun z => by
  cases e <;> first | exact nxA_no (by simpa [nxT] using h) z | skip
  rename_i o a b
  rw [nxT, Bool.and_eq_true] at h
  rw [evE] at z
  rcases nx_bnd z with z | ⟨_, _, z⟩
  · exact nxA_no h.1 z
  · rcases nx_bnd z with z | ⟨_, _, z⟩
    · exact nxA_no h.2 z
    · rcases nx_bnd z with z | ⟨_, _, z⟩
      · exact nx_cmp z
      · cases z
mutual
theorem sX : ∀ (e : E) (c : Cc) (x : Expr) (X : Cx), XC X c → XG X g tb → XGX X W g tb → chkE tb c e x = true → rz e = true → PE X x (RXE X.K W (evE g e))
  | .var i, c, x, X, hx, hg, hX, h, hz => ⟨fun pins s σ H Q I ⟨as, r, m, cn, fs, r', m', hs, sr, e, k⟩ => by rw [evE] at e; split at e <;> cases e⟩
  | .int i, c, x, X, hx, hg, hX, h, hz => ⟨fun pins s σ H Q I ⟨as, r, m, cn, fs, r', m', hs, sr, e, k⟩ => by rw [evE] at e; cases e⟩
  | .bl i, c, x, X, hx, hg, hX, h, hz => ⟨fun pins s σ H Q I ⟨as, r, m, cn, fs, r', m', hs, sr, e, k⟩ => by rw [evE] at e; cases e⟩
  | .non, c, x, X, hx, hg, hX, h, hz => ⟨fun pins s σ H Q I ⟨as, r, m, cn, fs, r', m', hs, sr, e, k⟩ => by rw [evE] at e; cases e⟩
  | .str i, c, x, X, hx, hg, hX, h, hz => ⟨fun pins s σ H Q I ⟨as, r, m, cn, fs, r', m', hs, sr, e, k⟩ => by rw [evE] at e; cases e⟩
  | .con i, c, x, X, hx, hg, hX, h, hz => ⟨fun pins s σ H Q I ⟨as, r, m, cn, fs, r', m', hs, sr, e, k⟩ => by rw [evE] at e; split at e <;> cases e⟩
  | .bin f o a b, c, x, X, hx, hg, hX, h, hz => by
    cases x <;> simp [chkE] at h
    obtain ⟨⟨rfl, h2⟩, h3⟩ := h
    rw [rz, Bool.and_eq_true] at hz
    refine PE.imp (pe_op (op_binD f o) (PE.or (sE a c _ X hx hg h2).1 (sX a c _ X hx hg hX h2 hz.1)) (PE.or (sE b c _ X hx hg h3).1 (sX b c _ X hx hg hX h3 hz.2))) fun σ H Q ⟨as, r, m, cn, fs, r', m', hs, sr, e, k⟩ => ?_
    rw [evE] at e
    exact two_ofX (op := binD f o) (fun x y m c fs r' m' => nx_bin) ⟨as, r, m, cn, fs, r', m', hs, sr, e, k⟩
  | .idx a i, c, x, X, hx, hg, hX, h, hz => by
    cases x <;> simp [chkE] at h
    rw [rz, Bool.and_eq_true] at hz
    refine PE.imp (pe_ix (ix_D (by have := hx.room; omega)) (PE.or (sE a c _ X hx hg h.1).1 (sX a c _ X hx hg hX h.1 hz.1)) (PE.or (sE i c _ X hx hg h.2).1 (sX i c _ X hx hg hX h.2 hz.2)) (plainIx_of h.2)) fun σ H Q ⟨as, r, m, cn, fs, r', m', hs, sr, e, k⟩ => ?_
    rw [evE] at e
    exact two_ofX (op := ixD) (fun x y m c fs r' m' => nx_ix) ⟨as, r, m, cn, fs, r', m', hs, sr, e, k⟩
  | .cmp o a b, c, x, X, hx, hg, hX, h, hz => by
    match x, h with
    | .Compare l [op] [r] p, h =>
      simp [chkE] at h
      obtain ⟨⟨⟨rfl, h2⟩, h3⟩, h4⟩ := h
      rw [rz, Bool.and_eq_true] at hz
      refine PE.imp (pe_cmpR (OpR.bD (op_cmpD hx.room o)) (PE.or (sE a c _ X hx hg h2).1 (sX a c _ X hx hg hX h2 hz.1)) (PE.or (sE b c _ X hx hg h3).1 (sX b c _ X hx hg hX h3 hz.2)) (noSet_behind h4)) fun σ H Q ⟨as, r, m, cn, fs, r', m', hs, sr, e, k⟩ => ?_
      rw [evE] at e
      refine two_ofX (op := fun x y m2 => (cmpB o x y m2).bind fun c => .ok (.bl c, m2)) (fun x y m c fs r' m' z => ?_) ⟨as, r, m, cn, fs, r', m', hs, sr, e, k⟩
      rcases nx_bnd z with z | ⟨_, _, z⟩
      · exact nx_cmp z
      · cases z
  | .tup es, c, x, X, hx, hg, hX, h, hz => by
    cases x <;> simp [chkE] at h
    rw [rz] at hz
    refine PE.imp (pe_tup (sXs es c _ X hx hg hX h hz)) fun σ H Q ⟨as, r, m, cn, fs, r', m', hs, sr, e, k⟩ => ?_
    rw [evE] at e
    rcases nx_bnd e with e | ⟨_, _, e⟩
    · exact ⟨as, r, m, cn, fs, r', m', hs, sr, e, k⟩
    · exact absurd e nx_newT
  | .call n es, c, x, X, hx, hg, hX, h, hz => by
    match x, h with
    | .Call (.Name y p2) ys [] p, h =>
      simp only [chkE, Bool.and_eq_true, decide_eq_true_eq] at h
      obtain ⟨⟨⟨h1, h2⟩, h4⟩, h3⟩ := h
      rw [rz] at hz
      obtain ⟨f, f1, f2, f3⟩ := hX y n h1
      have st := starEach_of (env := X.env) h3
      simp only [okNm, Bool.and_eq_true, Bool.not_eq_true'] at h4
      have both : PA X ys (fun s H Q => RA X.K (evEs g es) s H Q ∨ RXA X.K W (evEs g es) s H Q) := PA.or (sEs es c ys X hx hg h3) (sXs es c ys X hx hg hX h3 hz)
      refine ⟨fun pins s σ H Q I ⟨as, r, m, cn, fs, r', m', hs, sr, e, k⟩ => ?_⟩
      rw [evE] at e
      refine wpAny_Call_Name_kw (ld_glob I (gl_of hx h2) f1 ?_ h4.1.1)
      have arg : (RA X.K (evEs g es) σ H fun vs H1 => ∃ as m ds c fs r' m', HS X.K as m H1 ∧ Reps X.K as H1 vs ds ∧ g.fn n ds m = .exc c fs r' m' ∧ ∀ as' H' cls d, Ext as H1 as' H' → HS X.K as' m' H' → XR X.K as' H' cls d c fs → W cls d σ H') ∨ RXA X.K W (evEs g es) σ H fun vs H1 => ∃ as m ds c fs r' m', HS X.K as m H1 ∧ Reps X.K as H1 vs ds ∧ g.fn n ds m = .exc c fs r' m' ∧ ∀ as' H' cls d, Ext as H1 as' H' → HS X.K as' m' H' → XR X.K as' H' cls d c fs → W cls d σ H' := by
        rcases nx_bnd e with e | ⟨⟨ds, m1⟩, ea, e⟩
        · exact .inr ⟨as, r, m, cn, fs, r', m', hs, sr, e, k⟩
        · refine .inl ⟨as, r, m, hs, sr, ?_⟩
          rw [ea]
          intro as1 vs H1 e1 hs1 rv
          exact ⟨as1, m1, ds, cn, fs, r', m', hs1, rv, e, fun as' H' cls d e2 => k as' H' cls d (e1.trans e2)⟩
      cases ys with
      | nil =>
        refine PySem.W.callWith_K0 I.kIn f2 ?_
        have es0 : es = .nil := by cases es with
          | nil => rfl
          | cons e es => simp [chkEs] at h3
        subst es0
        rw [evEs] at e
        exact f3 pins s σ H [] [] Q I .nil ⟨as, m, [], cn, fs, r', m', hs, .nil, e, k⟩
      | cons y' ys' =>
        have stT : starEach ys' X.env = ys'.map fun x => (false, eval x X.env) := by
          cases es with
          | nil => simp [chkEs] at h3
          | cons e es => rw [chkEs, Bool.and_eq_true] at h3; exact starEach_of h3.2
        have he : starEach (y' :: ys') X.env = (false, eval y' X.env) :: starEach ys' X.env := by rw [st, stT]; rfl
        have hp : (backTo p (starEach ys' X.env)).any (·.1) = false := by rw [stT]; exact back_plain
        refine PySem.W.callWith_K (h₀ := X.base) I.ok.mod.kin f2 (thn (both.run p pins s σ H _ I arg) fun us s1 hh => ?_) he hp
        obtain ⟨vs, H1, I1, rv, q⟩ := hh
        exact ⟨I1.kIn, f3 pins s1 σ H1 vs us Q I1 rv q⟩
  | .neg _, _, _, _, _, _, _, _, hz => by simp [rz] at hz
  | .isi _ _, _, _, _, _, _, _, _, hz => by simp [rz] at hz
  | .sm0 _ _, _, _, _, _, _, _, _, hz => by simp [rz] at hz
  | .sm1 _ _ _ _, _, _, _, _, _, _, _, hz => by simp [rz] at hz
  | .rev _ _, _, _, _, _, _, _, _, hz => by simp [rz] at hz
  | .lrg _ _, _, _, _, _, _, _, _, hz => by simp [rz] at hz
  | .lset _, _, _, _, _, _, _, _, hz => by simp [rz] at hz
  | .litems _ _, _, _, _, _, _, _, _, hz => by simp [rz] at hz
  | .isB _ _ _, _, _, _, _, _, _, _, hz => by simp [rz] at hz
  | .orv _ _, _, _, _, _, _, _, _, hz => by simp [rz] at hz
  | .isx _ _, _, _, _, _, _, _, _, hz => by simp [rz] at hz
  | .fld _ _, _, _, _, _, _, _, _, hz => by simp [rz] at hz
  | .cmp2 _ _ _ _ _, _, _, _, _, _, _, _, hz => by simp [rz] at hz
  | .isN _, _, _, _, _, _, _, _, hz => by simp [rz] at hz
  | .notN _, _, _, _, _, _, _, _, hz => by simp [rz] at hz
  | .not _, _, _, _, _, _, _, _, hz => by simp [rz] at hz
  | .and _, _, _, _, _, _, _, _, hz => by simp [rz] at hz
  | .or _, _, _, _, _, _, _, _, hz => by simp [rz] at hz
  | .ife k a b, c, x, X, hx, hg, hX, h, hz => by
    cases x <;> simp [chkE] at h
    obtain ⟨⟨h1, h2⟩, h3⟩ := h
    rw [rz, Bool.and_eq_true, Bool.and_eq_true] at hz
    refine PE.imp (pe_ifExp (sE k c _ X hx hg h1).2 (sX a c _ X hx hg hX h2 hz.2.1) (sX b c _ X hx hg hX h3 hz.2.2)) fun σ H Q ⟨as, r, m, cn, fs, r', m', hs, sr, e, kk⟩ => ?_
    rw [evE] at e
    rcases nx_bnd e with e | ⟨⟨x, m1⟩, ea, e⟩
    · exact absurd e (nxT_no hz.1)
    · cases x <;> try (cases e; done)
      rename_i kb
      refine ⟨as, r, m, hs, sr, ?_⟩
      dsimp only
      rw [ea]
      intro as1 b' H1 e1 hs1 eb
      subst eb
      cases b' with
      | true => exact ⟨as1, r, m1, cn, fs, r', m', hs1, sr.ext e1, e, fun as' H' cls d e2 => kk as' H' cls d (e1.trans e2)⟩
      | false => exact ⟨as1, r, m1, cn, fs, r', m', hs1, sr.ext e1, e, fun as' H' cls d e2 => kk as' H' cls d (e1.trans e2)⟩
  | .dpop _ _ _, _, _, _, _, _, _, _, hz => by simp [rz] at hz
  | .dget _ _ _, _, _, _, _, _, _, _, hz => by simp [rz] at hz
  | .dclr _, _, _, _, _, _, _, _, hz => by simp [rz] at hz
  | .tix _ _, _, _, _, _, _, _, _, hz => by simp [rz] at hz
  | .lst _ _, _, _, _, _, _, _, _, hz => by simp [rz] at hz
  | .dct _ _, _, _, _, _, _, _, _, hz => by simp [rz] at hz
  | .slc _ _ _ _, _, _, _, _, _, _, _, hz => by simp [rz] at hz
  | .bi _ _ _, _, _, _, _, _, _, _, hz => by simp [rz] at hz
  | .mt _ _ _ _, _, _, _, _, _, _, _, hz => by simp [rz] at hz
  | .lc _ _ _ _ _ _, _, _, _, _, _, _, _, hz => by simp [rz] at hz
  | .lcD _ _ _ _ _ _ _, _, _, _, _, _, _, _, hz => by simp [rz] at hz
theorem sXs : ∀ (es : Es) (c : Cc) (xs : List Expr) (X : Cx), XC X c → XG X g tb → XGX X W g tb → chkEs tb c es xs = true → rzs es = true → PA X xs (RXA X.K W (evEs g es))
  | .nil, c, xs, X, hx, hg, hX, h, hz => ⟨fun pos pins s σ H Q I ⟨as, r, m, cn, fs, r', m', hs, sr, e, k⟩ => by rw [evEs] at e; cases e⟩
  | .cons e es, c, xs, X, hx, hg, hX, h, hz => by
    match xs, h with
    | x :: xs, h =>
      have st := starEach_of (env := X.env) h
      rw [chkEs, Bool.and_eq_true] at h
      rw [rzs, Bool.and_eq_true] at hz
      refine PA.imp (pa_cons (PE.or (sE e c _ X hx hg h.1).1 (sX e c _ X hx hg hX h.1 hz.1)) (PA.or (sEs es c _ X hx hg h.2) (sXs es c _ X hx hg hX h.2 hz.2)) (by rw [st, starEach_of h.2]; rfl)) fun σ H Q ⟨as, r, m, cn, fs, r', m', hs, sr, e', k⟩ => ?_
      rw [evEs] at e'
      rcases nx_bnd e' with e' | ⟨⟨x1, m1⟩, ea, e'⟩
      · exact .inr ⟨as, r, m, cn, fs, r', m', hs, sr, e', k⟩
      · refine .inl ⟨as, r, m, hs, sr, ?_⟩
        rw [ea]
        intro as1 v H1 e1 hs1 rv
        rcases nx_bnd e' with e' | ⟨_, _, e'⟩
        · exact .inr ⟨as1, r, m1, cn, fs, r', m', hs1, sr.ext e1, e', fun as' H' cls d e2 => k as' H' cls d (e1.trans e2)⟩
        · cases e'
end
end
end DV

end
section
set_option Elab.async false
set_option linter.all false
set_option maxRecDepth 100000
set_option autoImplicit false
set_option maxHeartbeats 1000000
/-! Statements. -/
namespace DV
open PySem PySem.Spec PyProof.Rows L2
/-! ### the check -/
def isComp : Expr → Bool
  | .ListComp .. => true | .SetComp .. => true | .DictComp .. => true
  | _ => false
def isTup : Expr → Bool
  | .Tuple .. => true
  | _ => false
def allFold : Expr → Bool
  | .Tuple vs _ _ => vs.all (foldedForSure 8)
  | _ => false
def swYes (c : Cc) (x : Str) (px : Pos) : Expr → Bool
  | .ListComp _ _ sc q => decide (c.sc.names.lookup x = some .local) && (px.line == q.line) && !(sc.names.any fun (n, k) => n == x && (k == .local || k == .cell))
  | _ => false
def isLc : E → Bool
  | .lc .. => true
  | _ => false
def locC (c : Cc) (i : Nat) (x : Str) : Bool := decide (c.N[i]? = some x) && decide (c.sc.names.lookup x = some .local)
def unStar : Expr → Bool
  | .Starred .. => false
  | _ => true
def noSlc : Expr → Bool
  | .Slice .. => false
  | _ => true
structure XS (X : Cx) (c : Cc) : Prop extends XC X c where
  kind : X.env.scope.kind = .function
  own : PassesOwn (model X.prog X.w) X.A X.env X.xe
  stk : X.stack = X.env :: X.outer
  fr : X.env.frame = some X.env.locals
  ex : X.ex = []
  rm : c.cm = true → Room 2 X.A
section
variable {K : PySem.W.Frag} {W : WX} {as : Pl} {H : Hp} {m : Store} {En : Ends}
theorem REf.first {a : Fr → Store → RD} {f : D × Store → RS} {r : Fr} {s : St} {P : V → Hp → Prop}
    (hs : HS K as m H) (sr : SR K as H s r) (h : PostF K W as H ((noX (a r m)).bind f) En)
    (k : ∀ as1 m1 v x H1, Ext as H as1 H1 → HS K as1 m1 H1 → SR K as1 H1 s r → Rep K as1 H1 v x → PostF K W as1 H1 (f (x, m1)) En → P v H1) : RE K a s H P :=
  ⟨as, r, m, hs, sr, (PostF.bind h).mono fun v H1 ⟨as1, m1, x, e, hs1, rp, q⟩ => k as1 m1 v x H1 e hs1 (sr.ext e) rp q⟩
theorem RAf.first {a : Fr → Store → Res (List D × Store)} {f : List D × Store → RS} {r : Fr} {s : St} {P : List V → Hp → Prop}
    (hs : HS K as m H) (sr : SR K as H s r) (h : PostF K W as H ((noX (a r m)).bind f) En)
    (k : ∀ as1 m1 v x H1, Ext as H as1 H1 → HS K as1 m1 H1 → SR K as1 H1 s r → Reps K as1 H1 v x → PostF K W as1 H1 (f (x, m1)) En → P v H1) : RA K a s H P :=
  ⟨as, r, m, hs, sr, (PostF.bind h).mono fun v H1 ⟨as1, m1, x, e, hs1, rp, q⟩ => k as1 m1 v x H1 e hs1 (sr.ext e) rp q⟩
/-- an expression that may raise -/
def REX (K : PySem.W.Frag) (W : WX) (z : Bool) (ev : Fr → Store → RD) : TE := fun s H P => RE K ev s H P ∨ (z = true ∧ RXE K W ev s H P)
theorem atF_no {α : Type} {r : Fr} {v : Res α} : atF false r v = noX v := by cases v <;> rfl
theorem REf.firstX {z : Bool} {a : Fr → Store → RD} {f : D × Store → RS} {r : Fr} {s : St} {P : V → Hp → Prop}
    (hs : HS K as m H) (sr : SR K as H s r) (h : PostF K W as H ((atF z r (a r m)).bind f) En)
    (k : ∀ as1 m1 v x H1, Ext as H as1 H1 → HS K as1 m1 H1 → SR K as1 H1 s r → Rep K as1 H1 v x → PostF K W as1 H1 (f (x, m1)) En → P v H1) : REX K W z a s H P := by
  cases e : a r m with
  | ok p =>
    rw [e] at h
    refine .inl ⟨as, r, m, hs, sr, ?_⟩
    rw [e]
    obtain ⟨x, m1⟩ := p
    exact fun as1 v H1 e1 hs1 rv => k as1 m1 v x H1 e1 hs1 (sr.ext e1) rv (PostF.later e1 h)
  | err => rw [e] at h; exact h.elim
  | exc c fs r' m' =>
    rw [e] at h
    cases z with
    | false => exact h.elim
    | true => exact .inr ⟨rfl, as, r, m, c, fs, r', m', hs, sr, e, fun as' H' cls d e1 hs1 xr => h as' s H' cls d e1 hs1 (sr.ext e1) xr⟩
theorem test_ofF {ev : Fr → Store → RD} {r : Fr} {s : St} {f : Bool → Store → RS} {P : Bool → Hp → Prop} (hs : HS K as m H) (sr : SR K as H s r)
    (h : PostF K W as H ((noX ((ev r m).bind fun (x, m1) => isB x fun b => .ok (b, m1))).bind fun (b, m1) => f b m1) En) (k : ∀ as1 m1 b H1, Ext as H as1 H1 → HS K as1 m1 H1 → SR K as1 H1 s r → PostF K W as1 H1 (f b m1) En → P b H1) : RTe K ev s H P := by
  refine ⟨as, r, m, hs, sr, ?_⟩
  dsimp only
  cases e : ev r m with
  | exc _ _ _ => rw [e] at h; exact h.elim
  | err => rw [e] at h; exact h.elim
  | ok xm =>
    obtain ⟨x, m1⟩ := xm
    rw [e] at h
    cases x <;> first | exact h.elim | skip
    rename_i b
    intro as1 b' H1 e1 hs1 eb
    subst eb
    exact k as1 m1 b' H1 e1 hs1 (sr.ext e1) (PostF.later e1 h)
/-- what stands now -/
theorem PostF.here {fl : Fl} {r : Fr} {σ : St} (h : PostF K W as H (.ok (fl, r, m)) En) (hs : HS K as m H) (sr : SR K as H σ r) : Fin K as σ H En fl := h as σ H (Ext.refl _ _) hs sr
/-- while -/
theorem while_D {ev : Fr → Store → RD} {body : Fr → Store → RS} {σ : St} {r : Fr} (hs : HS K as m H) (sr : SR K as H σ r) (h : PostF K W as H (loopW (fun r m => noX ((ev r m).bind fun (x, m1) => isB x fun k => .ok (k, m1))) body r m) En) :
    tWhile (RTe K ev) (RSs K W body) En σ H := by
  unfold loopW at h
  split at h
  · rename_i hn
    refine ⟨fun k σ1 H1 => ∃ as1 r1 m1, HS K as1 m1 H1 ∧ SR K as1 H1 σ1 r1 ∧ PostF K W as1 H1 (loopN (fun r m => noX ((ev r m).bind fun (x, m1) => isB x fun k => .ok (k, m1))) body k r1 m1) En, ⟨_, as, r, m, hs, sr, h⟩, ?_⟩
    rintro k σ1 H1 ⟨as1, r1, m1, hs1, sr1, q⟩
    cases k with
    | zero => exact q.elim
    | succ k =>
      rw [loopN] at q
      refine test_ofF (En := En) (f := fun b m1 => if b then (body r1 m1).bind fun (fl, r', m') => match fl with
        | .next => loopN (fun r m => noX ((ev r m).bind fun (x, m1) => isB x fun k => .ok (k, m1))) body k r' m'
        | .cont => loopN (fun r m => noX ((ev r m).bind fun (x, m1) => isB x fun k => .ok (k, m1))) body k r' m'
        | .brk => .ok (.next, r', m')
        | .ret d => .ok (.ret d, r', m') else .ok (.next, r1, m1)) hs1 sr1 q fun as2 m2 b H2 e2 hs2 sr2 q2 => ?_
      cases b with
      | false => exact PostF.here (W := W) q2 hs2 sr2
      | true =>
        refine ⟨_, fun σ' H' w => ⟨k, Nat.lt_succ_self k, w⟩, as2, r1, m2, hs2, sr2, PostF.seq q2 fun fl r3 m3 as3 σ3 H3 e3 hs3 sr3 q3 => ?_⟩
        cases fl with
        | next => exact ⟨as3, r3, m3, hs3, sr3, q3⟩
        | cont => exact ⟨as3, r3, m3, hs3, sr3, q3⟩
        | brk => exact PostF.here (W := W) q3 hs3 sr3
        | ret d => exact PostF.here (W := W) q3 hs3 sr3
  · exact h.elim
end
section
variable {X : Cx} {W : WX} {c : Cc} {g : G} {tb : List (Str × String)} {p : Pos}
abbrev EvS (X : Cx) (W : WX) (g : G) (s : S) (x : Stmt) : Prop := PS X x (RSs X.K W (evS g s))
abbrev EvSs (X : Cx) (W : WX) (g : G) (s : Ss) (x : List Stmt) : Prop := PSs X x (RSs X.K W (evSs g s))
abbrev EvX (X : Cx) (W : WX) (g : G) (e : E) (x : Expr) : Prop := PE X x (REX X.K W (rz e) (evE g e))
theorem evX_of {e : E} {x : Expr} (h : EvE X g e x) (k : rz e = true → PE X x (RXE X.K W (evE g e))) : EvX X W g e x := ⟨fun pins s σ H Q I hw => hw.elim (h.run pins s σ H Q I) fun ⟨z, q⟩ => (k z).run pins s σ H Q I q⟩
theorem sw_no {x : Expr} {t : Expr} {l : Nat} {env : PySem.Env} (h : isComp x = false) : swapsWith x (some t) l env = pure false := by
  cases x <;> first | rfl | (simp [isComp] at h)
theorem sw_noN {x : Expr} {l : Nat} {env : PySem.Env} (h : isComp x = false) : swapsWith x none l env = pure false := by
  cases x <;> first | rfl | (simp [isComp] at h)
theorem sw_sole {x : Expr} {t : Expr} {l : Nat} {env : PySem.Env} (h : isComp x = false) : swapsWithSole [t] x l env = pure false := by
  unfold swapsWithSole
  exact sw_no h
theorem sto1 (hx : XC X c) {i : Nat} {x : Str} (h1 : c.N[i]? = some x) (h2 : sto c x = true) : X.N[i]? = some x ∧ Loc X.env.scope x ∧ (X.fn x = true ∨ X.env.scope.names.lookup x = some .local) := ⟨by rw [hx.N]; exact h1, (sto_of hx h2).1, (sto_of hx h2).2⟩
theorem asg_name {i : Nat} {x : D} {r : Fr} {m1 m2 : Store} {as : Pl} {H : Hp} {En : Ends} (h : PostF X.K W as H ((ofO (asgT m1 (.name i) x r)).bind fun r' => .ok (.next, r', m2)) En) {σ : St} {v : V} (hs : HS X.K as m2 H) (sr : SR X.K as H σ r) (rv : Rep X.K as H v x) : gName i v σ H En.nx := by
  obtain ⟨r', e, h⟩ := h.ofO
  simp only [asgT] at e
  split at e
  · cases e
    exact h.here hs (sr.set rv i)
  · cases e
theorem sw_cel {v : Expr} {x : Str} {px : Pos} {l : Nat} {env : PySem.Env} (h : env.kindOf x ≠ some .local) : swapsWith v (some (.Name x px)) l env = pure false := by
  have e : (env.kindOf x == some .local) = false := by
    cases q : env.kindOf x == some .local with
    | false => rfl
    | true => exact absurd (by simpa using q) h
  unfold swapsWith
  cases v <;> first | rfl | (simp only [e, Bool.and_false, Bool.false_and])
theorem sw_tp {v : Expr} {ts : List Expr} {k : Nat} {px : Pos} {l : Nat} {env : PySem.Env} : swapsWith v (some (.Tuple ts k px)) l env = pure false := by
  unfold swapsWith
  cases v <;> rfl
/-- a name kept in a cell -/
def swNo (c : Cc) (x : Str) : Bool := decide (c.sc.names.lookup x ≠ some .local)
theorem st_asgC (hx : XC X c) {i : Nat} {x : Str} {px : Pos} {e : E} {v : Expr} (h1 : c.N[i]? = some x) (h2 : sto c x = true) (he : EvX X W g e v) (hn : swNo c x = true) : EvS X W g (.asg (.name i) e) (.Assign [.Name x px] v p) := by
  obtain ⟨a1, a2, a3⟩ := sto1 hx h1 h2
  refine PS.imp (ps_set hx.nd a1 a2 he (sw_cel (by
    show X.env.scope.names.lookup x ≠ _
    rw [hx.sc]; simpa [swNo] using hn)) a3) fun En s H ⟨as, r, m, hs, sr, h⟩ => ?_
  rw [evS] at h
  exact REf.firstX hs sr h fun as1 m1 v x H1 e1 hs1 sr1 rp q => asg_name q hs1 sr1 rp
theorem st_asg (hx : XC X c) {i : Nat} {x : Str} {px : Pos} {e : E} {v : Expr} (h1 : c.N[i]? = some x) (h2 : sto c x = true) (he : EvX X W g e v) (hn : isComp v = false) : EvS X W g (.asg (.name i) e) (.Assign [.Name x px] v p) := by
  obtain ⟨a1, a2, a3⟩ := sto1 hx h1 h2
  refine PS.imp (ps_set hx.nd a1 a2 he (sw_no hn) a3) fun En s H ⟨as, r, m, hs, sr, h⟩ => ?_
  rw [evS] at h
  exact REf.firstX hs sr h fun as1 m1 v x H1 e1 hs1 sr1 rp q => asg_name q hs1 sr1 rp
theorem st_asgLc (hx : XS X c) (hg : XG X g tb) {i : Nat} {x : Str} {px q : Pos} {f : Bool} {t : T} {own : List Nat} {it : I} {k : Oe} {e : E} {el tg iter : Expr} {ifs : List Expr} {sc : Scope} (h1 : c.N[i]? = some x) (hl : c.sc.names.lookup x = some .local)
    (hq : (px.line == q.line) = true) (ha : (sc.names.any fun (n, k) => n == x && (k == .local || k == .cell)) = false) (h : chkE tb c (.lc f t own it k e) (.ListComp el [⟨tg, iter, ifs, 0⟩] sc q) = true) :
    EvS X W g (.asg (.name i) (.lc f t own it k e)) (.Assign [.Name x px] (.ListComp el [⟨tg, iter, ifs, 0⟩] sc q) p) := by
  have hc := hx.toXC
  simp only [chkE, Bool.and_eq_true, decide_eq_true_eq, List.all_eq_true] at h
  obtain ⟨⟨⟨⟨⟨⟨⟨⟨gcm, g1⟩, g2⟩, g3⟩, g4⟩, g5⟩, g6⟩, g7⟩, g8⟩ := h
  have hi := sI it c tg iter X hc hg g5
  have hgT : ∀ (s : Shared) (H : Hp) (C : Addr) (cl : List (Str × Addr)) (fp : List Addr), PG (X.blk s H sc (compEnvC sc cl C X.env) fp) tg (RG X.K t) := fun s H C cl fp => pg_T (hc.blk sc s H C cl fp) t tg g4
  have htT : ∀ (s : Shared) (H : Hp) (C : Addr) (cl : List (Str × Addr)) (fp : List Addr), PTs (X.blk s H sc (compEnvC sc cl C X.env) fp) ifs (RT X.K (evC g k)) := fun s H C cl fp => sC k _ ifs _ (hc.blk sc s H C cl fp) (hg.blk sc s H C cl fp) g6
  have heT : ∀ (s : Shared) (H : Hp) (C : Addr) (cl : List (Str × Addr)) (fp : List Addr), PE (X.blk s H sc (compEnvC sc cl C X.env) fp) el (RE X.K (evE g e)) := fun s H C cl fp => (sE e _ el _ (hc.blk sc s H C cl fp) (hg.blk sc s H C cl fp) g7).1
  have red := (ev_lc (p := q) (f := f) hc gcm g1 g2 g3 hi (foldSet g8) hgT htT heT).2
  have blk : BlkOk X.N X.env.scope sc (own.filterMap fun n => (c.N[n]?).map (·, n)) := by rw [hc.N, hc.sc]; exact blkOk_by g2
  have hl' : X.env.scope.names.lookup x = some .local := by rw [hc.sc]; exact hl
  refine PS.imp (ps_setLc (hc.calm gcm) hc.nd (by rw [hc.N]; exact h1) hl' (sw_true hx.kind hl' hq ha) hi blk hgT htT heT (foldSet g8)) fun En s H ⟨as, r, m, hs, sr, h⟩ => ?_
  rw [evS, show rz (.lc f t own it k e) = false from rfl, atF_no] at h
  exact red s H _ (REf.first hs sr h fun as1 m1 v x H1 e1 hs1 sr1 rp q => asg_name q hs1 sr1 rp)
theorem swN_tup {ts vs : List Expr} {a b d : Nat} {pa pb : Pos} {env : PySem.Env} (h : vs.all (foldedForSure 8) = true) : swappedStores [.Tuple ts a pa] (.Tuple vs b pb) env = pure none := by
  unfold swappedStores
  simp only [h, if_true]
  repeat' split
  all_goals first | rfl | simp_all
theorem swN_not {ts : List Expr} {v : Expr} {a : Nat} {pa : Pos} {env : PySem.Env} (h : isTup v = false) : swappedStores [.Tuple ts a pa] v env = pure none := by
  cases v <;> first | rfl | (simp [isTup] at h)
theorem filt_lt {α β : Type} {f : α → Option β} : ∀ {l : List α} {a : α}, a ∈ l → f a = none → (l.filterMap f).length < l.length
  | [], a, h, _ => by simp at h
  | b :: l, a, h, e => by
    rw [List.filterMap_cons]
    rcases List.mem_cons.mp h with rfl | h
    · rw [e]
      exact Nat.lt_succ_of_le (List.length_filterMap_le _ _)
    · have := filt_lt h e
      split
      · simp only [List.length_cons]; omega
      · simp only [List.length_cons]; omega
theorem swN_cell {ts vs : List Expr} {a b : Nat} {pa pb px : Pos} {x : Str} {env : PySem.Env} (hm : Expr.Name x px ∈ ts) (hx : env.kindOf x ≠ some .local) : swappedStores [.Tuple ts a pa] (.Tuple vs b pb) env = pure none := by
  have hlt : (ts.filterMap fun
    | .Name id pos => if env.kindOf id == some .local && pos.line == (ts.head?.map (·.pos.line)).getD 0 then some id else none
    | _ => none).length ≠ ts.length := Nat.ne_of_lt (filt_lt hm (by
      have : (env.kindOf x == some NameKind.local) = false := by simpa using hx
      simp [this]))
  unfold swappedStores
  dsimp only
  split
  · rfl
  · split
    · rfl
    · rw [if_pos]
      simp only [Bool.or_eq_true, bne_iff_ne]
      exact .inl hlt
theorem swN_len {ts : List Expr} {v : Expr} {a : Nat} {pa : Pos} {env : PySem.Env} (h : 4 ≤ ts.length) : swappedStores [.Tuple ts a pa] v env = pure none := by
  cases ev : isTup v with
  | false => exact swN_not ev
  | true =>
    cases v <;> first | (simp [isTup] at ev; done) | skip
    unfold swappedStores
    dsimp only
    rw [if_pos]
    have h2 : (ts.length == 2) = false := by simp; omega
    have h3 : (ts.length == 3) = false := by simp; omega
    simp [h2, h3]
def cellIn (c : Cc) (es : List Expr) : Bool := es.any fun
  | .Name x _ => !decide (c.sc.names.lookup x = some .local)
  | _ => false
theorem cellIn_of {es : List Expr} (h : cellIn c es = true) : ∃ x p, Expr.Name x p ∈ es ∧ c.sc.names.lookup x ≠ some .local := by
  unfold cellIn at h
  rw [List.any_eq_true] at h
  obtain ⟨e, he, h⟩ := h
  cases e <;> first | (simp at h; done) | skip
  rename_i x p
  exact ⟨x, p, he, by simpa using h⟩
theorem st_asgT (hx : XC X c) (hcm : c.cm = true) {ts : List T} {es : List Expr} {k : Nat} {tp : Pos} {e : E} {v : Expr} (h1 : chkTs c ts es = true) (he : EvX X W g e v) (ht : isTup v = false ∨ allFold v = true ∨ cellIn c es = true ∨ 4 ≤ es.length) : EvS X W g (.asg (.tup ts) e) (.Assign [.Tuple es k tp] v p) := by
  have hg := pg_T hx (.tup ts) (.Tuple es k tp) (by rw [chkT, hcm, h1]; rfl)
  have hw : swappedStores [.Tuple es k tp] v X.env = pure none := by
    rcases ht with ht | ht | ht | ht
    · exact swN_not ht
    · cases v <;> first | exact swN_tup (d := 0) ht | (simp [allFold] at ht)
    · cases ev : isTup v with
      | false => exact swN_not ev
      | true =>
        obtain ⟨x, px, h1, h2⟩ := cellIn_of ht
        cases v <;> first | (simp [isTup] at ev; done) | skip
        refine swN_cell h1 ?_
        show X.env.scope.names.lookup x ≠ _
        rw [hx.sc]; exact h2
    · exact swN_len ht
  refine PS.imp (ps_asg he hg (by unfold swapsWithSole; exact sw_tp) hw rfl) fun En s H ⟨as, r, m, hs, sr, h⟩ => ?_
  rw [evS] at h
  refine REf.firstX hs sr h fun as1 m1 v x H1 e1 hs1 sr1 rp q => ?_
  obtain ⟨r', e2, q⟩ := PostF.ofO q
  exact ⟨as1, m1, r, x, r', hs1, sr1, rp, e2, fun σ' s' _ => q.here hs1 s'⟩
theorem swap2 {x y : Str} {px py pt pt2 : Pos} {a b : Expr} {kt k2 : Nat} {env : PySem.Env} (hk : env.scope.kind = .function) (hx : env.scope.names.lookup x = some .local) (hy : env.scope.names.lookup y = some .local) (hl : (py.line == px.line) = true) (hxy : x ≠ y)
    (ha : unStar a = true) (hb : unStar b = true) (hf : (foldedForSure 8 a && foldedForSure 8 b) = false) (hd : (constantsAlone 8 a && constantsAlone 8 b) = false) :
    swappedStores [.Tuple [.Name x px, .Name y py] kt pt] (.Tuple [a, b] k2 pt2) env = pure (some [x, y]) := by
  have kx : env.kindOf x = some .local := hx
  have ky : env.kindOf y = some .local := hy
  have hB : env.blockKind = .function := by unfold Env.blockKind; rw [hk]; rfl
  have sa : (match a with | .Starred .. => true | _ => false) = false := by cases a <;> first | rfl | (simp [unStar] at ha)
  have sb : (match b with | .Starred .. => true | _ => false) = false := by cases b <;> first | rfl | (simp [unStar] at hb)
  have ed : ([x, y] : List Str).eraseDups = [x, y] := by
    have : (y == x) = false := by simpa using Ne.symm hxy
    simp [List.eraseDups_cons, hxy, this, Ne.symm hxy]
  unfold swappedStores
  simp [hB, kx, ky, hl, Expr.pos, ed, sa, sb, List.filterMap, hf, hd]
  rintro (h | h)
  · cases a <;> first | exact absurd h Bool.false_ne_true | (simp [unStar] at ha)
  · cases b <;> first | exact absurd h Bool.false_ne_true | (simp [unStar] at hb)
theorem swap3 {x y z : Str} {px py pz pt pt2 : Pos} {a b d : Expr} {kt k2 : Nat} {env : PySem.Env} (hk : env.scope.kind = .function) (hx : env.scope.names.lookup x = some .local) (hy : env.scope.names.lookup y = some .local) (hz : env.scope.names.lookup z = some .local) (hl : (py.line == px.line) = true) (hl2 : (pz.line == px.line) = true)
    (hxy : x ≠ y) (hxz : x ≠ z) (hyz : y ≠ z) (ha : unStar a = true) (hb : unStar b = true) (hc : unStar d = true) (hf : (foldedForSure 8 a && foldedForSure 8 b && foldedForSure 8 d) = false) (hd : (constantsAlone 8 a && constantsAlone 8 b && constantsAlone 8 d) = false) :
    swappedStores [.Tuple [.Name x px, .Name y py, .Name z pz] kt pt] (.Tuple [a, b, d] k2 pt2) env = pure (some [x, y, z]) := by
  have kx : env.kindOf x = some .local := hx
  have ky : env.kindOf y = some .local := hy
  have kz : env.kindOf z = some .local := hz
  have hB : env.blockKind = .function := by unfold Env.blockKind; rw [hk]; rfl
  have ed : ([x, y, z] : List Str).eraseDups = [x, y, z] := by
    have h1 : (y == x) = false := by simpa using Ne.symm hxy
    have h2 : (z == x) = false := by simpa using Ne.symm hxz
    have h3 : (z == y) = false := by simpa using Ne.symm hyz
    simp [List.eraseDups_cons, hxy, h1, h2, h3, Ne.symm hxy, Ne.symm hxz, Ne.symm hyz]
  rw [Bool.and_assoc] at hf hd
  unfold swappedStores
  simp [hB, kx, ky, kz, hl, hl2, Expr.pos, ed, List.filterMap, hf, hd]
  rintro (h | h | h)
  · cases a <;> first | exact absurd h Bool.false_ne_true | (simp [unStar] at ha)
  · cases b <;> first | exact absurd h Bool.false_ne_true | (simp [unStar] at hb)
  · cases d <;> first | exact absurd h Bool.false_ne_true | (simp [unStar] at hc)
theorem unStar_of {e : E} {x : Expr} (h : chkE tb c e x = true) : unStar x = true := by
  cases x <;> first | rfl | (cases e <;> simp [chkE] at h)
theorem us_of {a : Expr} {xs : List Expr} {es : Es} (h : chkEs tb c es (a :: xs) = true) : unStar a = true ∧ ∃ es', chkEs tb c es' xs = true := by
  cases es with
  | nil => simp [chkEs] at h
  | cons e es => rw [chkEs, Bool.and_eq_true] at h; exact ⟨unStar_of h.1, es, h.2⟩
theorem loc_of (hx : XC X c) {i : Nat} {x : Str} (h : locC c i x = true) : X.N[i]? = some x ∧ X.env.scope.names.lookup x = some .local := by
  simp only [locC, Bool.and_eq_true, decide_eq_true_eq] at h
  exact ⟨by rw [hx.N]; exact h.1, by rw [hx.sc]; exact h.2⟩
theorem st_par2 (hx : XS X c) (hcm : c.cm = true) {i j : Nat} {x y : Str} {px py pt pt2 : Pos} {a b : Expr} {kt k2 : Nat} {es : Es} (h1 : locC c i x = true) (h2 : locC c j y = true) (hij : i ≠ j) (hxy : x ≠ y) (hl : (py.line == px.line) = true)
    (he : chkEs tb c es [a, b] = true) (ha : EvA X g es [a, b]) (hf : (foldedForSure 8 a && foldedForSure 8 b) = false) (hd : (constantsAlone 8 a && constantsAlone 8 b) = false) : EvS X W g (.par [i, j] es) (.Assign [.Tuple [.Name x px, .Name y py] kt pt] (.Tuple [a, b] k2 pt2) p) := by
  have hc := hx.toXC
  obtain ⟨a1, a2⟩ := loc_of hc h1
  obtain ⟨b1, b2⟩ := loc_of hc h2
  have us : unStar a = true ∧ unStar b = true := by
    obtain ⟨u1, e1, z1⟩ := us_of he
    exact ⟨u1, (us_of z1).1⟩
  refine PS.imp (ps_par (hc.calm hcm) hc.nd a1 b1 hij a2 b2 ha (swap2 hx.kind a2 b2 hl hxy us.1 us.2 hf hd) rfl) fun En s H ⟨as, r, m, hs, sr, h⟩ => ?_
  rw [evS] at h
  refine RAf.first hs sr h fun as1 m1 v x H1 e1 hs1 sr1 rp q => ?_
  obtain ⟨r', e, q⟩ := PostF.ofO q
  match x, rp, e with
  | [], _, e => simp [setEach] at e
  | [d1], _, e => simp only [setEach] at e; split at e <;> cases e
  | [d1, d2], rp, e =>
    obtain ⟨v, w, rfl, r1, r2⟩ := rp.two'
    simp only [setEach] at e
    split at e
    · split at e
      · cases e
        exact ⟨v, w, rfl, q.here hs1 ((sr1.set r1 i).set r2 j)⟩
      · cases e
    · cases e
  | _ :: _ :: _ :: _, _, e => simp only [setEach] at e; split at e <;> (try split at e) <;> cases e
theorem st_par3 (hx : XS X c) (hcm : c.cm = true) {i j l : Nat} {x y z : Str} {px py pz pt pt2 : Pos} {a b d : Expr} {kt k2 : Nat} {es : Es} (h1 : locC c i x = true) (h2 : locC c j y = true) (h3 : locC c l z = true) (hij : i ≠ j) (hil : i ≠ l) (hjl : j ≠ l) (hxy : x ≠ y) (hxz : x ≠ z) (hyz : y ≠ z) (hl : (py.line == px.line) = true) (hl2 : (pz.line == px.line) = true)
    (he : chkEs tb c es [a, b, d] = true) (ha : EvA X g es [a, b, d]) (hf : (foldedForSure 8 a && foldedForSure 8 b && foldedForSure 8 d) = false) (hd : (constantsAlone 8 a && constantsAlone 8 b && constantsAlone 8 d) = false) : EvS X W g (.par [i, j, l] es) (.Assign [.Tuple [.Name x px, .Name y py, .Name z pz] kt pt] (.Tuple [a, b, d] k2 pt2) p) := by
  have hc := hx.toXC
  obtain ⟨a1, a2⟩ := loc_of hc h1
  obtain ⟨b1, b2⟩ := loc_of hc h2
  obtain ⟨d1, d2⟩ := loc_of hc h3
  have us : unStar a = true ∧ unStar b = true ∧ unStar d = true := by
    obtain ⟨u1, e1, z1⟩ := us_of he
    obtain ⟨u2, e2, z2⟩ := us_of z1
    exact ⟨u1, u2, (us_of z2).1⟩
  refine PS.imp (ps_par3 (hc.calm hcm) hc.nd a1 b1 d1 hij hil hjl a2 b2 d2 ha (swap3 hx.kind a2 b2 d2 hl hl2 hxy hxz hyz us.1 us.2.1 us.2.2 hf hd) rfl) fun En s H ⟨as, r, m, hs, sr, h⟩ => ?_
  rw [evS] at h
  refine RAf.first hs sr h fun as1 m1 v x H1 e1 hs1 sr1 rp q => ?_
  obtain ⟨r', e, q⟩ := PostF.ofO q
  match x, rp, e with
  | [], _, e => simp [setEach] at e
  | [d1], _, e => simp only [setEach] at e; split at e <;> cases e
  | [d1, d2], _, e => simp only [setEach] at e; split at e <;> (try split at e) <;> cases e
  | [d1, d2, d3], rp, e =>
    cases rp with
    | cons r1 t =>
      obtain ⟨w, u, rfl, r2, r3⟩ := t.two'
      simp only [setEach] at e
      split at e
      · split at e
        · split at e
          · cases e
            exact ⟨_, w, u, rfl, q.here hs1 (((sr1.set r1 i).set r2 j).set r3 l)⟩
          · cases e
        · cases e
      · cases e
  | _ :: _ :: _ :: _ :: _, _, e => simp only [setEach] at e; split at e <;> (try split at e) <;> (try split at e) <;> cases e
theorem noSlc_of {e : E} {x : Expr} (h : chkE tb c e x = true) : noSlc x = true := by
  cases x <;> first | rfl | (cases e <;> simp [chkE] at h)
theorem st_seti (hx : XC X c) {a i e : E} {o s v : Expr} {tp : Pos} (he : EvE X g e v) (ha : EvE X g a o) (hi : EvE X g i s) (hn : isComp v = false) (hsl : noSlc s = true) : EvS X W g (.seti a i e) (.Assign [.Subscript o s tp] v p) := by
  have hA : ∀ u : Value, assign (.Subscript o s tp) X.env u = (do
      let ov ← holding [u] (eval o X.env)
      let iv ← holding [u, ov] (eval s X.env)
      standAt tp
      holding [u, ov, iv] (setItem ov iv u)
      release [u, ov, iv] []) := fun u => by cases s <;> first | rfl | (simp [noSlc] at hsl)
  refine PS.imp (ps_asg he (pg_sub ha hi (set_D (by have := hx.room; omega)) hA) (sw_sole hn) (by rfl) (by rfl)) fun En s H ⟨as, r, m, hs, sr, h⟩ => ?_
  rw [evS] at h
  refine REf.first hs sr h fun as1 m1 v x H1 e1 hs1 sr1 rp q => REf.first hs1 sr1 q fun as2 m2 w y H2 e2 hs2 sr2 rp2 q2 => REf.first hs2 sr2 q2 fun as3 m3 u z H3 e3 hs3 sr3 rp3 q3 => ?_
  dsimp only at q3
  cases es : setD y z x m3 with
  | exc _ _ _ => rw [es] at q3; exact q3.elim
  | err => rw [es] at q3; exact q3.elim
  | ok m4 =>
    rw [es] at q3
    exact ⟨as3, m3, y, z, x, hs3, rp2.ext e3, rp3, (rp.ext e2).ext e3, m4, es, fun as4 H4 e4 hs4 => q3 as4 _ H4 e4 hs4 (sr3.ext e4)⟩
theorem swN_sub {o1 s1 o2 s2 v : Expr} {t1 t2 tp : Pos} {k : Nat} {env : PySem.Env} : swappedStores [.Tuple [.Subscript o1 s1 t1, .Subscript o2 s2 t2] k tp] v env = pure none := by
  cases ev : isTup v with
  | false => exact swN_not ev
  | true =>
    cases v <;> first | (simp [isTup] at ev; done) | skip
    unfold swappedStores
    dsimp only
    split
    · rfl
    · split
      · rfl
      · rw [if_pos]
        simp
theorem st_swp (hx : XC X c) (hcm : c.cm = true) {a i b j e : E} {o1 s1 o2 s2 v : Expr} {t1 t2 tp : Pos} {k : Nat} (he : EvE X g e v) (ha : EvE X g a o1) (hi : EvE X g i s1) (hb : EvE X g b o2) (hj : EvE X g j s2) (hs1 : noSlc s1 = true) (hs2 : noSlc s2 = true) :
    EvS X W g (.swp a i b j e) (.Assign [.Tuple [.Subscript o1 s1 t1, .Subscript o2 s2 t2] k tp] v p) := by
  have hA : ∀ {o s : Expr} {tp : Pos}, noSlc s = true → ∀ u : Value, assign (.Subscript o s tp) X.env u = (do
      let ov ← holding [u] (eval o X.env)
      let iv ← holding [u, ov] (eval s X.env)
      standAt tp
      holding [u, ov, iv] (setItem ov iv u)
      release [u, ov, iv] []) := fun {o s tp} hsl u => by cases s <;> first | rfl | (simp [noSlc] at hsl)
  have hu : X.A.units + 1 < cLine := by have := hx.room; omega
  refine PS.imp (ps_asg he (pg_tup (n := 2) (hx.calm hcm) (pgs_cons (pg_sub ha hi (set_D hu) (hA hs1)) (pgs_cons (pg_sub hb hj (set_D hu) (hA hs2)) pgs_nil))) (by unfold swapsWithSole; exact sw_tp) swN_sub rfl) fun En s H ⟨as, r, m, hs, sr, h⟩ => ?_
  rw [evS] at h
  refine REf.first hs sr h fun as1 m1 v1 x1 H1 e1 hs1 sr1 rp q => ?_
  dsimp only at q
  unfold pr2 at q
  split at q
  · rename_i xs
    split at q
    · rename_i d1 d2
      obtain ⟨ad, vs, rfl, hq, rs⟩ := tup_rep rp
      cases rs with
      | cons r1 rs =>
        cases rs with
        | cons r2 rs =>
          cases rs
          refine ⟨ad, _, rfl, hq, rfl, _, _, rfl, ?_⟩
          refine REf.first hs1 sr1 q fun as2 m2 w y H2 e2 hs2 sr2 rp2 q2 => REf.first hs2 sr2 q2 fun as3 m3 u z H3 e3 hs3 sr3 rp3 q3 => ?_
          dsimp only at q3
          cases es : setD y z d1 m3 with
          | exc _ _ _ => rw [es] at q3; exact q3.elim
          | err => rw [es] at q3; exact q3.elim
          | ok m4 =>
            rw [es] at q3
            refine ⟨as3, m3, y, z, d1, hs3, rp2.ext e3, rp3, (r1.ext e2).ext e3, m4, es, fun as4 H4 e4 hs4 => ?_⟩
            have q4 := PostF.later e4 q3
            refine ⟨_, _, rfl, ?_⟩
            refine REf.first hs4 (sr3.ext e4) q4 fun as5 m5 w' y' H5 e5 hs5 sr5 rp5 q5 => REf.first hs5 sr5 q5 fun as6 m6 u' z' H6 e6 hs6 sr6 rp6 q6 => ?_
            dsimp only at q6
            cases es2 : setD y' z' d2 m6 with
            | exc _ _ _ => rw [es2] at q6; exact q6.elim
            | err => rw [es2] at q6; exact q6.elim
            | ok m7 =>
              rw [es2] at q6
              refine ⟨as6, m6, y', z', d2, hs6, rp5.ext e6, rp6, ((((r2.ext e2).ext e3).ext e4).ext e5).ext e6, m7, es2, fun as7 H7 e7 hs7 => ⟨rfl, ?_⟩⟩
              exact q6 as7 _ H7 e7 hs7 (sr6.ext e7)
    · exact q.elim
  · exact q.elim
theorem st_aug (hx : XC X c) {i : Nat} {o : BOp} {x : Str} {xp : Pos} {e : E} {v : Expr} {op : Operator} (h1 : c.N[i]? = some x) (h2 : sto c x = true) (he : EvE X g e v) (ho : (o = .add ∧ op = .Add) ∨ (o = .sub ∧ op = .Sub)) : EvS X W g (.aug i o e) (.AugAssign (.Name x xp) op v p) := by
  obtain ⟨a1, a2, a3⟩ := sto1 hx h1 h2
  have fin : ∀ {f : Int → Int → Int} {op : Operator}, (∀ i j m, binD false o (.int i) (.int j) m = .ok (.int (f i j), m)) → PIp X op (ipI f) → EvS X W g (.aug i o e) (.AugAssign (.Name x xp) op v p) := fun {f op} hf hp => by
    refine PS.imp (ps_aug hx.nd a1 a2 he hp a3) fun En s H ⟨as, r, m, hs, sr, h⟩ => ?_
    rw [evS] at h
    split at h
    · rename_i d ed
      obtain ⟨w, ew, rw'⟩ := sr.at_ i d ed
      refine ⟨w, ew, REf.first hs sr h fun as1 m1 v x H1 e1 hs1 sr1 rp q => ?_⟩
      dsimp only at q
      cases d <;> first | exact q.elim | skip
      cases x <;> first | exact q.elim | skip
      rw [hf] at q
      exact ⟨_, _, int_rep rw', int_rep rp, PostF.here q hs1 (sr1.set (.int _) i)⟩
    · exact h.elim
  rcases ho with ⟨rfl, rfl⟩ | ⟨rfl, rfl⟩
  · exact fin (f := fun i j => i + j) (fun _ _ _ => rfl) ip_add
  · exact fin (f := fun i j => i - j) (fun _ _ _ => rfl) ip_sub
theorem isDL_of {x : D} {m : Store} (h : isDL x m = true) : ∃ l kvs, x = .loc l ∧ m[l]? = some (.dct kvs) := by
  unfold isDL at h
  split at h
  · split at h
    · rename_i l _ kvs e; exact ⟨l, kvs, rfl, e⟩
    · cases h
  · cases h
theorem ixD_dct {l : Nat} {kvs : List (Key × D)} {y : D} {m : Store} (e : m[l]? = some (.dct kvs)) : ixD (.loc l) y m = ixK kvs y m := by
  show ixC (.loc l) y m = _
  have e1 : dctV m (.loc l) = some kvs := by simp [dctV, e]
  simp [ixC, e1]
theorem st_augi (hx : XC X c) {a i e : E} {o : BOp} {oe s v : Expr} {tp : Pos} {op : Operator} (he : EvE X g e v) (ha : EvE X g a oe) (hi : EvE X g i s) (hsl : noSlc s = true) (ho : (o = .add ∧ op = .Add) ∨ (o = .sub ∧ op = .Sub)) : EvS X W g (.augi a i o e) (.AugAssign (.Subscript oe s tp) op v p) := by
  have hu : X.A.units + 1 < cLine := by have := hx.room; omega
  have hA : ∀ ov iv new, augStore s ov iv new = (do holding [new, ov, iv] (setItem ov iv new); release [new, ov, iv] []; pure .next) := fun ov iv new => by cases s <;> first | rfl | (simp [noSlc] at hsl)
  have fin : ∀ {f : Int → Int → Int} {op : Operator} {rd : V → V → Hp → VK → Prop}, (∀ i j m, binD false o (.int i) (.int j) m = .ok (.int (f i j), m)) → InOp X op rd → (∀ i j H Q, Q (.int (f i j)) H → rd (.int i) (.int j) H Q) → EvS X W g (.augi a i o e) (.AugAssign (.Subscript oe s tp) op v p) := fun {f op rd} hf hp hr => by
    refine PS.imp (ps_daug hu ha hi he hp hA) fun En σ H ⟨as, r, m, hs, sr, h⟩ => ?_
    rw [evS] at h
    refine REf.first hs sr h fun as1 m1 vx x H1 e1 hs1 sr1 rp q => REf.first hs1 sr1 q fun as2 m2 vy y H2 e2 hs2 sr2 rp2 q2 => ?_
    obtain ⟨dl, q2⟩ := PostF.needs q2
    obtain ⟨l, kvs, rfl, em⟩ := isDL_of dl
    have rp' := rp.ext e2
    obtain ⟨p, vs, rfl, hl, hH, rk⟩ := loc_dict hs2 rp' em
    rw [ixD_dct em] at q2
    unfold ixK at q2
    split at q2
    · rename_i k ek
      split at q2
      · rename_i z ez
        rw [noX_ok, bind_ok] at q2
        dsimp only at q2
        obtain ⟨vz, hz, rz⟩ := repk_dget rk ez
        have ey := key_rep rp2 ek
        subst ey
        refine ⟨p, vz, rfl, .inl ⟨vs, k, .inl hH, rfl, hz.symm⟩, REf.first hs2 sr2 q2 fun as3 m3 vw w H3 e3 hs3 sr3 rp3 q3 => ?_⟩
        dsimp only at q3
        have dl3 := (PostF.needs q3).1
        replace q3 := (PostF.needs q3).2
        obtain ⟨l', kvs3, el3, em3⟩ := isDL_of dl3
        clear dl3
        cases el3
        cases z <;> first | exact q3.elim | skip
        cases w <;> first | exact q3.elim | skip
        rename_i zi wi
        rw [hf, noX_ok, bind_ok] at q3
        dsimp only at q3
        rw [int_rep rz, int_rep rp3]
        refine hr _ _ _ _ ?_
        have rl := rp'.ext e3
        cases es : setD (.loc l) y (.int (f zi wi)) m3 with
        | exc _ _ _ => rw [es] at q3; exact q3.elim
        | err => rw [es] at q3; exact q3.elim
        | ok m4 =>
          rw [es] at q3
          unfold setD at es
          dsimp only at es
          rw [em3] at es
          dsimp only at es
          have e5 := em3
          obtain ⟨b, ws, e6, hl3, hH3, rk3⟩ := loc_dict hs3 rl e5
          cases e6
          unfold setK at es
          rw [ek] at es
          dsimp only at es
          unfold need at es
          split at es
          · rename_i hz3
            cases es
            exact ⟨_, .k hH3 (by rw [repk_len rk3]; exact hz3), q3 as3 _ _ (Ext.put hl3) (hs3.put hl3 ⟨_, upd_same, (repk_put rk3 k (.int _)).ext (Ext.put hl3)⟩) (sr3.ext (Ext.put hl3))⟩
          · cases es
      · exact q2.elim
    · exact q2.elim
  rcases ho with ⟨rfl, rfl⟩ | ⟨rfl, rfl⟩
  · exact fin (f := fun i j => i + j) (fun _ _ _ => rfl) in_add fun i j H Q q => ⟨i, j, rfl, rfl, q⟩
  · exact fin (f := fun i j => i - j) (fun _ _ _ => rfl) in_sub fun i j H Q q => ⟨i, j, rfl, rfl, q⟩
theorem st_expr {e : E} {v : Expr} (he : EvX X W g e v) (hn : isComp v = false) : EvS X W g (.expr e) (.Expr v p) := by
  refine PS.imp (ps_expr he (sw_noN hn)) fun En s H ⟨as, r, m, hs, sr, h⟩ => ?_
  rw [evS] at h
  exact REf.firstX hs sr h fun as1 m1 v x H1 e1 hs1 sr1 rp q => q.here hs1 sr1
theorem st_ret {e : E} {v : Expr} (he : EvX X W g e v) : EvS X W g (.ret e) (.Return (some v) p) := by
  refine PS.imp (ps_ret he) fun En s H ⟨as, r, m, hs, sr, h⟩ => ?_
  rw [evS] at h
  exact REf.firstX hs sr h fun as1 m1 v x H1 e1 hs1 sr1 rp q => q.here hs1 sr1 _ rp
theorem st_retN : EvS X W g .retN (.Return none p) := by
  refine PS.imp ps_retN fun En s H ⟨as, r, m, hs, sr, h⟩ => ?_
  rw [evS] at h
  exact h.here hs sr _ .non
theorem st_if {k : E} {a b : Ss} {t : Expr} {x y : List Stmt} (hk : EvT X g k t) (ha : EvSs X W g a x) (hb : EvSs X W g b y) : EvS X W g (.if_ k a b) (.If t x y p) := by
  refine PS.imp (ps_if hk ha hb) fun En s H ⟨as, r, m, hs, sr, h⟩ => ?_
  rw [evS] at h
  refine test_ofF (En := En) (f := fun k m1 => if k = true then evSs g a r m1 else evSs g b r m1) hs sr h fun as1 m1 b H1 e1 hs1 sr1 q => ?_
  cases b with
  | true => exact ⟨as1, r, m1, hs1, sr1, q⟩
  | false => exact ⟨as1, r, m1, hs1, sr1, q⟩
theorem st_while (hx : XS X c) {k : E} {b : Ss} {t : Expr} {x : List Stmt} (hk : EvT X g k t) (hb : EvSs X W g b x) : EvS X W g (.while_ k b) (.While t x [] p) := by
  refine PS.imp (ps_while hx.own hk hb) fun En s H ⟨as, r, m, hs, sr, h⟩ => ?_
  rw [evS] at h
  exact while_D hs sr h
theorem st_for (hx : XS X c) (hcm : c.cm = true) {t : T} {i : I} {b : Ss} {tg it : Expr} {x : List Stmt} (ht : PG X tg (RG X.K t)) (hi : EvI X g i tg it) (hb : EvSs X W g b x) (hn : noSet it = true) : EvS X W g (.for_ t i b) (.For tg it x [] p) := by
  refine PS.imp (ps_for hx.own (hx.calm hcm) hi ht hb (foldSet hn)) fun En s H ⟨as, r, m, hs, sr, h⟩ => ?_
  rw [evS] at h
  refine ⟨as, r, m, hs, sr, (PostF.bind (rel := Walked X.K) h).mono fun J H1 ⟨as1, m1, src, e1, hs1, wk, q⟩ => ?_⟩
  exact for_D hs1 (sr.ext e1) wk q
theorem PS.or {X : Cx} {x : Stmt} {t t' : TS} (h : PS X x t) (h' : PS X x t') : PS X x (fun D s H => t D s H ∨ t' D s H) := ⟨fun pins s σ H D I hw => hw.elim (h.run pins s σ H D I) (h'.run pins s σ H D I)⟩
theorem noX_F {K : PySem.W.Frag} {as : Pl} {H : Hp} {R : RS} {En : Ends} (h : PostF K W as H (noX R) En) : PostF K W as H R En := by
  cases R with
  | ok p => exact h
  | exc _ _ _ _ => exact h.elim
  | err => exact h
theorem nx_forD {r : Fr} {m : Store} {t : T} {i : Nat} {v : Option Bool} {b : Ss} {kvs : List (Key × D)} (er : r[i]? = some (some (.dct kvs))) : ∀ cn fs r' m', evS g (.forD t i v b) r m ≠ .exc cn fs r' m' := fun cn fs r' m' => by
  rw [evS, er]
  dsimp only
  cases (loopF (fun _ => True) (fun x r m => (ofO (asgT m t x r)).bind fun r' => evSs g b r' m) (dItems v kvs) r m) <;> exact fun z => nomatch z
/-- a walk over a dict -/
theorem st_forD (hx : XS X c) (hcm : c.cm = true) {t : T} {i : Nat} {v : Option Bool} {b : Ss} {tg it : Expr} {x : List Stmt} (ht : PG X tg (RG X.K t)) (hi : PI X tg it (RDct X.K i v)) (hb : EvSs X W g b x) (hn : noSet it = true) : EvS X W g (.forD t i v b) (.For tg it x [] p) := by
  have whole := ps_for (pos := p) hx.own (hx.calm hcm) hi ht hb (foldSet hn)
  let RA : TS := fun En s H => ∃ as r m kvs d od ks, HS X.K as m H ∧ SR X.K as H s r ∧ r[i]? = some (some (.dct kvs)) ∧ s[i]? = some (some (.ref d)) ∧ H d = some (.frz od (.dK ks)) ∧ d ∉ as.all ∧ RepK X.K as H ks kvs ∧ PostF X.K W as H (evS g (.forD t i v b) r m) En
  have A : PS X (.For tg it x [] p) RA := PS.imp whole fun En s H ⟨as, r, m, kvs, d, od, ks, hs, sr, er, g1, g2, g3, g4, h⟩ => by
    rw [evS, er] at h
    refine ⟨as, r, m, kvs, d, od, ks, hs, sr, g1, g2, g3, g4, fun as1 J H1 e1 hs1 wk => ?_⟩
    exact for_D hs1 (sr.ext e1) wk (noX_F (PostF.later e1 h))
  refine PS.imp (PS.or A (ps_lock A)) fun En s H ⟨as, r, m, hs, sr, h⟩ => ?_
  have er : ∃ kvs, r[i]? = some (some (.dct kvs)) := by
    rw [evS] at h
    split at h
    · rename_i kvs er; exact ⟨kvs, er⟩
    · exact h.elim
  obtain ⟨kvs, er⟩ := er
  obtain ⟨d, ks, g1, g2, g3, g4⟩ := slot_dct sr er
  rcases g4 with g4 | ⟨od, g4⟩
  · refine .inr ⟨d, _, g4, trivial, fun od => ?_⟩
    have sm : ∀ b, b ≠ d → (upd H d (.frz od (.dK ks))) b = H b := fun b q => upd_ne q
    have r1 : Rd H d (.dK ks) := .inl g4
    have r2 : Rd (upd H d (.frz od (.dK ks))) d (.dK ks) := .inr ⟨od, upd_same⟩
    exact ⟨as, r, m, kvs, d, od, ks, hs.swap r1 r2 sm g2, sr.swap r1 r2 sm, er, g1, upd_same, g2, g3.swap r1 r2 sm, lock_F (nx_forD er) g4 g2 h⟩
  · exact .inl ⟨as, r, m, kvs, d, od, ks, hs, sr, er, g1, g4, g2, g3, h⟩
theorem st_nil : EvSs X W g .nil [] := by
  refine PSs.imp pss_nil fun En s H ⟨as, r, m, hs, sr, h⟩ => ?_
  rw [evSs] at h
  exact h.here hs sr
theorem st_cons {s : S} {ss : Ss} {x : Stmt} {xs : List Stmt} (h1 : EvS X W g s x) (h2 : EvSs X W g ss xs) : EvSs X W g (.cons s ss) (x :: xs) := by
  refine PSs.imp (pss_cons h1 h2) fun En σ H ⟨as, r, m, hs, sr, h⟩ => ?_
  rw [evSs] at h
  refine ⟨as, r, m, hs, sr, PostF.seq h fun fl r2 m2 as2 σ2 H2 e2 hs2 sr2 q => ?_⟩
  cases fl with
  | next => exact ⟨as2, r2, m2, hs2, sr2, q⟩
  | brk => exact q.here hs2 sr2
  | cont => exact q.here hs2 sr2
  | ret d => exact q.here hs2 sr2
theorem takes_no {X : Cx} : Takes X (fun _ _ _ _ => False) := fun u s' ⟨_, _, _, _, _, _, _, _, _, _, _, _, _, _, _, _, w⟩ => w.elim
theorem st_raise0 (hx : XS X c) (hcm : c.cm = true) (tk : Takes X W) (T : XX X.prog X.w X.K X.mg X.base g) {cn : String} {m : Str} {j : Nat} {p1 p2 p3 : Pos} (h2 : gl c (Str.ofString cn) = true) (h3 : okNm (Str.ofString cn) = true) :
    EvS X W g (.raise0 cn m) (.Raise (some (.Call (.Name (Str.ofString cn) p1) [.Constant (.str m) j p2] [] p3)) none p) := by
  simp only [okNm, Bool.and_eq_true, Bool.not_eq_true'] at h3
  refine ⟨fun pins s σ H D I ⟨as, r, m', hs, sr, h⟩ => ?_⟩
  rw [evS] at h
  split at h <;> try exact h.elim
  rename_i hi
  refine (ps_raise (W := W) (hx.calm hcm) tk (pmk0 T hi (gl_of hx.toXC h2) h3.1.1)).run pins s σ H D I fun C hC => ?_
  exact h as σ H (.ref C) none (Ext.refl _ _) hs sr ⟨C, rfl, hC, .inl ⟨rfl, rfl⟩⟩
theorem st_raise1 (hx : XS X c) (hcm : c.cm = true) (tk : Takes X W) (T : XX X.prog X.w X.K X.mg X.base g) {cn : String} {e : E} {y : Expr} {p1 p3 : Pos} (h2 : gl c (Str.ofString cn) = true) (h3 : okNm (Str.ofString cn) = true) (hc : chkE tb c e y = true) (he : EvE X g e y) :
    EvS X W g (.raise1 cn e) (.Raise (some (.Call (.Name (Str.ofString cn) p1) [y] [] p3)) none p) := by
  simp only [okNm, Bool.and_eq_true, Bool.not_eq_true'] at h3
  have sy : starEach [y] X.env = (false, eval y X.env) :: starEach [] X.env := by
    cases y <;> first | rfl | (cases e <;> simp [chkE] at hc)
  refine ⟨fun pins s σ H D I ⟨as, r, m', hs, sr, h⟩ => ?_⟩
  rw [evS] at h
  cases hi : g.init cn with
  | none =>
    exfalso
    cases ee : evE g e r m' with
    | ok q => rw [ee, hi] at h; exact h
    | exc _ _ _ _ => rw [ee] at h; exact h
    | err => rw [ee] at h; exact h
  | some o =>
    cases o with
    | none =>
      exfalso
      cases ee : evE g e r m' with
      | ok q => rw [ee, hi] at h; exact h
      | exc _ _ _ _ => rw [ee] at h; exact h
      | err => rw [ee] at h; exact h
    | some f =>
      rw [hi] at h
      refine (ps_raise (W := W) (hx.calm hcm) tk (pmk1 T (hx.rm hcm) hi (gl_of hx.toXC h2) h3.1.1 he sy)).run pins s σ H D I ?_
      refine REf.first (En := D) hs sr h fun as1 m1 v x H1 e1 hs1 sr1 rp q C d hC hd => ?_
      have nx := hs1.freshA hd
      refine q as1 σ _ (.ref C) (some d) (Ext.new hd) (hs1.new hd) (sr1.ext (Ext.new hd)) ⟨C, rfl, hC, .inr ⟨d, [(f, v)], rfl, upd_same, nx, rfl, .cons (rp.ext (Ext.new hd)) .nil⟩⟩
/-- what a def may let out, whatever takes it -/
def XGY (X : Cx) (g : G) (tb : List (Str × String)) : Prop := ∀ x n, (x, n) ∈ tb → ∃ f, X.mg x = some (.ref f) ∧ PySem.W.keepIn X.K (.ref f) = true ∧ ∀ X', Like X X' → ∀ W, Takes X' W → CallX X' W f (g.fn n)
theorem XGY.here (h : XGY X g tb) (tk : Takes X W) : XGX X W g tb := fun x n hn => let ⟨f, h1, h2, h3⟩ := h x n hn; ⟨f, h1, h2, h3 X ⟨rfl, rfl, rfl, rfl, rfl, rfl⟩ W tk⟩
theorem XS.tr (hx : XS X c) {pn : List (Addr × Obj)} {xe : Value → Shared → Prop} (own : PassesOwn (model X.prog X.w) X.A X.env xe) : XS (X.tr pn xe) c :=
  { N := hx.N, nd := hx.nd, sc := hx.sc, fn := hx.fn, calm := hx.calm, room := hx.room, gd := hx.gd, kind := hx.kind, own := own, stk := hx.stk, fr := hx.fr, ex := hx.ex, rm := hx.rm }
theorem XG.tr (hg : XG X g tb) {pn : List (Addr × Obj)} {xe : Value → Shared → Prop} : XG (X.tr pn xe) g tb := ⟨hg.bl, hg.xx, hg.con, hg.calls⟩
theorem XS.suite (hx : XS X c) {a : Addr} {pn : List (Addr × Obj)} : XS (X.suite a pn) { c with cm := false } :=
  { N := hx.N, nd := hx.nd, sc := hx.sc, fn := hx.fn, calm := fun z => (nomatch z), room := hx.room, gd := hx.gd, kind := hx.kind, own := PassesOwn.never, stk := hx.stk, fr := hx.fr, ex := hx.ex, rm := fun z => (nomatch z) }
theorem XG.suite (hg : XG X g tb) {a : Addr} {pn : List (Addr × Obj)} : XG (X.suite a pn) g [] := ⟨hg.bl, hg.xx, hg.con, fun x n hn => nomatch hn⟩
theorem SR.gone {K : PySem.W.Frag} {as : Pl} {H : Hp} {σ : St} {r : Fr} (h : SR K as H σ r) (i : Nat) : SR K as H (σ.set i none) (r.set i none) := by
  refine ⟨by simp [h.len], fun k d e => ?_⟩
  by_cases q : k = i
  · subst q
    by_cases hl : k < r.length
    · rw [List.getElem?_set_self hl] at e; cases e
    · rw [List.getElem?_eq_none (by simpa using hl)] at e; cases e
  · rw [List.getElem?_set_ne (Ne.symm q)] at e ⊢
    exact h.at_ k d e
/-- try .. except C as n -/
theorem st_try (hx : XS X c) (hcm : c.cm = true) (hg : XG X g tb) (hY : XGY X g tb) (tk : Takes X W) {b h : Ss} {cn : String} {i : Nat} {n : Str} {body suite : List Stmt} {st : Stmt} {np p2 : Pos} (h1 : c.N[i]? = some n) (h2 : c.sc.names.lookup n = some .local) (h3 : gl c (Str.ofString cn) = true) (h4 : okNm (Str.ofString cn) = true)
    (hb : ∀ (W : WX) (X' : Cx), X'.K = X.K → XS X' c → XG X' g tb → XGY X' g tb → Takes X' W → EvSs X' W g b body) (hsu : ∀ (X' : Cx), X'.K = X.K → XS X' { c with cm := false } → XG X' g [] → EvSs X' (fun _ _ _ _ => False) g h (st :: suite)) :
    EvS X W g (.try_ b cn i h) (.Try body [.ExceptHandler (some (.Name (Str.ofString cn) np)) (some n) (st :: suite) p2] [] [] p) := by
  simp only [okNm, Bool.and_eq_true, Bool.not_eq_true'] at h4
  refine ⟨fun pins s σ H D I ⟨as, r, m, hs, sr, hh⟩ => ?_⟩
  rw [evS] at hh
  obtain ⟨hcc, hh⟩ := PostF.needs hh
  obtain ⟨Cc, cv, _, _, hcv, _, _⟩ := hg.xx.sub cn cn true hcc
  have named : Names X (Str.ofString cn) cv := by
    refine ⟨gl_of hx.toXC h3, h4.1.1, ?_⟩
    rcases hcv with ⟨A, hm, rfl⟩ | ⟨hm, rfl, rfl⟩
    · exact .inl hm
    · exact .inr ⟨hm, PyProof.Rows.Boot.«ValueError», by decide⟩
  have hN : X.N[i]? = some n := by rw [hx.N]; exact h1
  have hL : X.env.kindOf n = some .local := by show X.env.scope.names.lookup n = _; rw [hx.sc]; exact h2
  refine (ps_try_D (tb := fun W' => RSs X.K W' (evSs g b)) (ts := RSs X.K (fun _ _ _ _ => False) (evSs g h)) (Wout := W) hx.stk hx.fr hx.ex hx.nd hN hL named tk
    (fun W' pn xe tk' own => hb W' (X.tr pn xe) rfl (hx.tr own) hg.tr hY tk') (fun a pn => hsu (X.suite a pn) rfl hx.suite hg.suite)).run pins s σ H D I ?_
  refine ⟨as, r, m, hs, sr, ?_⟩
  cases eb : evSs g b r m with
  | err => rw [eb] at hh; exact hh.elim
  | ok q => rw [eb] at hh; exact hh
  | exc cx fs r' m' =>
    rw [eb] at hh
    dsimp only at hh
    intro as1 σ1 H1 cls d e1 hs1 sr1 xr
    obtain ⟨C, rfl, hC, xd⟩ := xr
    cases hsub : g.sub cx cn with
    | none => rw [hsub] at hh; exact hh.elim
    | some k =>
      obtain ⟨C', cv', k1, _, k3, _, k5⟩ := hg.xx.sub cx cn k hsub
      cases clsK_eq hC k1
      have ecv : cv' = cv := by
        rcases hcv with ⟨A, hm, rfl⟩ | ⟨hm, q, rfl⟩ <;> rcases k3 with ⟨A', hm', rfl⟩ | ⟨hm', q', rfl⟩
        · rw [hm] at hm'; cases hm'; rfl
        · rw [hm] at hm'; cases hm'
        · rw [hm] at hm'; cases hm'
        · rfl
      subst ecv
      refine ⟨k, k5, fun hk => ?_, fun hk => ?_⟩
      · subst hk
        rw [hsub] at hh
        dsimp only at hh
        obtain ⟨hlt, hh⟩ := PostF.needs hh
        refine ⟨C, rfl, fun a ha => ?_⟩
        have nl := hs1.fresh ha
        have ex2 : Ext as1 H1 (as1.app [a]) (upd H1 a (exT a C d)) := Ext.newL ha nl
        have hs2 : HS X.K (as1.app [a]) (m' ++ [.exn cx fs]) (upd H1 a (exT a C d)) := hs1.newL ha ⟨C, d, upd_same, hC, xd.ext ex2⟩
        have rl : Rep X.K (as1.app [a]) (upd H1 a (exT a C d)) (.ref a) (.loc m'.length) := .loc (by rw [← hs1.len]; simp [Pl.app])
        refine ⟨as1.app [a], _, _, hs2, (sr1.ext ex2).set rl i, ?_⟩
        cases es : evSs g h (r'.set i (some (.loc m'.length))) (m' ++ [.exn cx fs]) with
        | err => rw [es] at hh; exact hh.elim
        | exc _ _ _ _ => rw [es] at hh; exact hh.elim
        | ok q =>
          obtain ⟨fl, r2, m2⟩ := q
          rw [es] at hh
          intro as3 σ3 H3 e3 hs3 sr3
          have fin := hh as3 (σ3.set i none) H3 ((e1.trans ex2).trans e3) hs3 (sr3.gone i)
          cases fl with
          | next => exact fin
          | brk => exact fin
          | cont => exact fin
          | ret dd => exact fin
      · subst hk
        rw [hsub] at hh
        exact hh as1 σ1 H1 (.ref C) d e1 hs1 sr1 ⟨C, rfl, hC, xd⟩
end
end DV

end
section
set_option Elab.async false
set_option linter.all false
set_option maxRecDepth 100000
set_option autoImplicit false
set_option maxHeartbeats 1000000
/-! All statements. -/
namespace DV
open PySem PySem.Spec PyProof.Rows L2
/-! ### the check -/
def asAsg : Stmt → Option (Expr × Expr)
  | .Assign [t] v _ => some (t, v)
  | _ => none
def asNm : Expr → Option (Str × Pos)
  | .Name x p => some (x, p)
  | _ => none
def asTp : Expr → Option (List Expr)
  | .Tuple es _ _ => some es
  | _ => none
def asSub : Expr → Option (Expr × Expr)
  | .Subscript o s _ => some (o, s)
  | _ => none
theorem asAsg_eq {x : Stmt} {t v : Expr} (h : asAsg x = some (t, v)) : ∃ p, x = .Assign [t] v p := by
  unfold asAsg at h
  split at h
  · cases h; exact ⟨_, rfl⟩
  · cases h
theorem asNm_eq {e : Expr} {x : Str} {p : Pos} (h : asNm e = some (x, p)) : e = .Name x p := by
  unfold asNm at h
  split at h
  · cases h; rfl
  · cases h
theorem asTp_eq {e : Expr} {es : List Expr} (h : asTp e = some es) : ∃ k p, e = .Tuple es k p := by
  unfold asTp at h
  split at h
  · cases h; exact ⟨_, _, rfl⟩
  · cases h
theorem asSub_eq {e o s : Expr} (h : asSub e = some (o, s)) : ∃ p, e = .Subscript o s p := by
  unfold asSub at h
  split at h
  · cases h; exact ⟨_, rfl⟩
  · cases h
def chkA1 (tb : List (Str × String)) (c : Cc) (i : Nat) (e : E) (tg v : Expr) : Bool := match asNm tg with
  | some (x, px) => decide (c.N[i]? = some x) && sto c x && chkE tb c e v && (!isComp v || (swNo c x || (swYes c x px v && isLc e)))
  | none => false
def chkA2 (tb : List (Str × String)) (c : Cc) (ts : List T) (e : E) (tg v : Expr) : Bool := match asTp tg with
  | some es => c.cm && chkTs c ts es && chkE tb c e v && (!isTup v || (allFold v || (cellIn c es || decide (4 ≤ es.length))))
  | none => false
def chkP2 (tb : List (Str × String)) (c : Cc) (i j : Nat) (es : Es) (t u a b : Expr) : Bool := match asNm t, asNm u with
  | some (x, px), some (y, py) => locC c i x && locC c j y && decide (i ≠ j) && decide (x ≠ y) && (py.line == px.line) && chkEs tb c es [a, b] && !(foldedForSure 8 a && foldedForSure 8 b) && !(constantsAlone 8 a && constantsAlone 8 b)
  | _, _ => false
def chkP3 (tb : List (Str × String)) (c : Cc) (i j l : Nat) (es : Es) (t u w a b d : Expr) : Bool := match asNm t, asNm u, asNm w with
  | some (x, px), some (y, py), some (z, pz) => locC c i x && locC c j y && locC c l z && decide (i ≠ j) && decide (i ≠ l) && decide (j ≠ l) && decide (x ≠ y) && decide (x ≠ z) && decide (y ≠ z)
      && (py.line == px.line) && (pz.line == px.line) && chkEs tb c es [a, b, d] && !(foldedForSure 8 a && foldedForSure 8 b && foldedForSure 8 d) && !(constantsAlone 8 a && constantsAlone 8 b && constantsAlone 8 d)
  | _, _, _ => false
def chkPl (tb : List (Str × String)) (c : Cc) (es : Es) : List Nat → List Expr → List Expr → Bool
  | [i, j], [t, u], [a, b] => chkP2 tb c i j es t u a b
  | [i, j, l], [t, u, w], [a, b, d] => chkP3 tb c i j l es t u w a b d
  | _, _, _ => false
def chkPr (tb : List (Str × String)) (c : Cc) (is : List Nat) (es : Es) (tg v : Expr) : Bool := match asTp tg, asTp v with
  | some ts, some vs => c.cm && chkPl tb c es is ts vs
  | _, _ => false
def chkSt (tb : List (Str × String)) (c : Cc) (a i e : E) (tg v : Expr) : Bool := match asSub tg with
  | some (o, s) => chkE tb c e v && chkE tb c a o && chkE tb c i s && !isComp v
  | none => false
def chkSw (tb : List (Str × String)) (c : Cc) (a i b j e : E) (tg v : Expr) : Bool := match asTp tg with
  | some [t, u] => (match asSub t, asSub u with
    | some (o1, s1), some (o2, s2) => c.cm && chkE tb c e v && chkE tb c a o1 && chkE tb c i s1 && chkE tb c b o2 && chkE tb c j s2
    | _, _ => false)
  | _ => false
def augOk : BOp → Operator → Bool
  | .add, .Add => true
  | .sub, .Sub => true
  | _, _ => false
def onAsg (x : Stmt) (k : Expr → Expr → Bool) : Bool := match asAsg x with
  | some (t, v) => k t v
  | none => false
theorem onAsg_of {x : Stmt} {k : Expr → Expr → Bool} (h : onAsg x k = true) : ∃ t v p, x = .Assign [t] v p ∧ k t v = true := by
  unfold onAsg at h
  split at h
  · rename_i t v e
    obtain ⟨p, rfl⟩ := asAsg_eq e
    exact ⟨t, v, p, rfl, h⟩
  · cases h
def asStr : Expr → Option Str
  | .Constant (.str m) _ _ => some m
  | _ => none
def asCall1 : Expr → Option (Str × Expr)
  | .Call f xs [] _ => match asNm f, xs with
    | some (y, _), [z] => some (y, z)
    | _, _ => none
  | _ => none
def asRaise : Stmt → Option (Str × Expr)
  | .Raise (some e) none _ => asCall1 e
  | _ => none
def asHand : ExceptHandler → Option (Str × Str × Stmt × List Stmt)
  | .ExceptHandler (some e) (some n) (st :: su) _ => match asNm e with
    | some (y, _) => some (y, n, st, su)
    | none => none
  | _ => none
def asTry : Stmt → Option (List Stmt × Str × Str × Stmt × List Stmt)
  | .Try bd [h] [] [] _ => match asHand h with
    | some (y, n, st, su) => some (bd, y, n, st, su)
    | none => none
  | _ => none
theorem asStr_eq {e : Expr} {m : Str} (h : asStr e = some m) : ∃ j p, e = .Constant (.str m) j p := by
  unfold asStr at h
  split at h
  · cases h; exact ⟨_, _, rfl⟩
  · cases h
theorem asCall1_eq {e z : Expr} {y : Str} (h : asCall1 e = some (y, z)) : ∃ p q, e = .Call (.Name y p) [z] [] q := by
  unfold asCall1 at h
  split at h
  · split at h
    · rename_i e1
      cases h
      obtain rfl := asNm_eq e1
      exact ⟨_, _, rfl⟩
    · cases h
  · cases h
theorem asRaise_eq {x : Stmt} {z : Expr} {y : Str} (h : asRaise x = some (y, z)) : ∃ p q t, x = .Raise (some (.Call (.Name y p) [z] [] q)) none t := by
  unfold asRaise at h
  split at h
  · obtain ⟨p, q, rfl⟩ := asCall1_eq h
    exact ⟨_, _, _, rfl⟩
  · cases h
theorem asHand_eq {x : ExceptHandler} {y n : Str} {st : Stmt} {su : List Stmt} (h : asHand x = some (y, n, st, su)) : ∃ p q, x = .ExceptHandler (some (.Name y p)) (some n) (st :: su) q := by
  unfold asHand at h
  split at h
  · split at h
    · rename_i e1
      cases h
      obtain rfl := asNm_eq e1
      exact ⟨_, _, rfl⟩
    · cases h
  · cases h
theorem asTry_eq {x : Stmt} {bd : List Stmt} {y n : Str} {st : Stmt} {su : List Stmt} (h : asTry x = some (bd, y, n, st, su)) : ∃ p q t, x = .Try bd [.ExceptHandler (some (.Name y p)) (some n) (st :: su) q] [] [] t := by
  unfold asTry at h
  split at h
  · split at h
    · rename_i e1
      cases h
      obtain ⟨p, q, rfl⟩ := asHand_eq e1
      exact ⟨_, _, _, rfl⟩
    · cases h
  · cases h
mutual
def chkS (tb : List (Str × String)) (c : Cc) : S → Stmt → Bool
  | .asg t e, x => onAsg x fun tg v => match t with
    | .name i => chkA1 tb c i e tg v
    | .tup ts => chkA2 tb c ts e tg v
  | .par is es, x => onAsg x fun tg v => chkPr tb c is es tg v
  | .seti a i e, x => onAsg x fun tg v => chkSt tb c a i e tg v
  | .swp a i b j e, x => onAsg x fun tg v => chkSw tb c a i b j e tg v
  | .aug i o e, x => match x with
    | .AugAssign t op v _ => (match asNm t with | some (y, _) => decide (c.N[i]? = some y) && sto c y | none => false) && chkE tb c e v && augOk o op
    | _ => false
  | .augi a i o e, x => match x with
    | .AugAssign t op v _ => match asSub t with
      | some (y, s) => chkE tb c a y && chkE tb c i s && chkE tb c e v && noSlc s && augOk o op
      | none => false
    | _ => false
  | .expr e, x => match x with
    | .Expr v _ => chkE tb c e v && !isComp v
    | _ => false
  | .ret e, x => match x with
    | .Return (some v) _ => chkE tb c e v
    | _ => false
  | .retN, x => match x with
    | .Return none _ => true
    | _ => false
  | .if_ k a b, x => match x with
    | .If t y z _ => chkE tb c k t && chkSs tb c a y && chkSs tb c b z
    | _ => false
  | .while_ k b, x => match x with
    | .While t y oe _ => chkE tb c k t && chkSs tb c b y && oe.isEmpty
    | _ => false
  | .for_ t i b, x => match x with
    | .For tg it y oe _ => c.cm && chkT c t tg && chkI tb c i tg it && noSet it && chkSs tb c b y && oe.isEmpty
    | _ => false
  | .forD t i v b, x => match x with
    | .For tg it y oe _ => c.cm && chkT c t tg && chkD c i v tg it && chkSs tb c b y && oe.isEmpty
    | _ => false
  | .pass, x => match x with
    | .Pass _ => true
    | _ => false
  | .brk, x => match x with
    | .Break _ => true
    | _ => false
  | .cont, x => match x with
    | .Continue _ => true
    | _ => false
  | .never, _ => true
  | .raise0 cn m, x => c.cm && (match asRaise x with
    | some (y, z) => decide (y = Str.ofString cn) && gl c y && okNm y && decide (asStr z = some m)
    | none => false)
  | .raise1 cn e, x => c.cm && (match asRaise x with
    | some (y, z) => decide (y = Str.ofString cn) && gl c y && okNm y && chkE tb c e z
    | none => false)
  | .try_ b cn i h, x => c.cm && (match asTry x with
    | some (bd, y, n, st, su) => decide (y = Str.ofString cn) && gl c y && okNm y && decide (c.N[i]? = some n) && decide (c.sc.names.lookup n = some .local) && chkSs tb c b bd && chkSs [] { c with cm := false } h (st :: su)
    | none => false)
def chkSs (tb : List (Str × String)) (c : Cc) : Ss → List Stmt → Bool
  | .nil, xs => xs.isEmpty
  | .cons s ss, xs => match xs with
    | x :: r => chkS tb c s x && chkSs tb c ss r
    | [] => false
end
variable {g : G} {tb : List (Str × String)}
theorem chk_lc {c : Cc} {e : E} {el : Expr} {gs : List Comprehension} {sc : Scope} {q : Pos} (h : chkE tb c e (.ListComp el gs sc q) = true) (hl : isLc e = true) : ∃ f t own it k e1 tg iter ifs, e = .lc f t own it k e1 ∧ gs = [⟨tg, iter, ifs, 0⟩] := by
  cases e <;> try (simp [isLc] at hl; done)
  rename_i f t own it k e1
  match gs, h with
  | [⟨tg, iter, ifs, 0⟩], h => exact ⟨f, t, own, it, k, e1, tg, iter, ifs, rfl, rfl⟩
theorem swYes_of {c : Cc} {x : Str} {px : Pos} {v : Expr} (h : swYes c x px v = true) : ∃ el gs sc q, v = .ListComp el gs sc q ∧ c.sc.names.lookup x = some .local ∧ (px.line == q.line) = true ∧ (sc.names.any fun (n, k) => n == x && (k == .local || k == .cell)) = false := by
  unfold swYes at h
  split at h
  · rename_i el gs sc q
    simp only [Bool.and_eq_true, decide_eq_true_eq, Bool.not_eq_true'] at h
    exact ⟨el, gs, sc, q, rfl, h.1.1, h.1.2, h.2⟩
  · cases h
section
variable {X : Cx} {W : WX} {c : Cc} {p : Pos}
theorem sEX (hx : XC X c) (hg : XG X g tb) (hY : XGY X g tb) (tk : Takes X W) {e : E} {v : Expr} (h : chkE tb c e v = true) : EvX X W g e v := evX_of (sE e c v X hx hg h).1 fun z => sX e c v X hx hg (hY.here tk) h z
theorem s_a1 (hx : XS X c) (hg : XG X g tb) (hY : XGY X g tb) (tk : Takes X W) {i : Nat} {e : E} {tg v : Expr} (h : chkA1 tb c i e tg v = true) : EvS X W g (.asg (.name i) e) (.Assign [tg] v p) := by
  unfold chkA1 at h
  split at h
  · rename_i x px ex
    obtain rfl := asNm_eq ex
    simp only [Bool.and_eq_true, decide_eq_true_eq, Bool.or_eq_true, Bool.not_eq_true'] at h
    obtain ⟨⟨⟨h1, h2⟩, h3⟩, h4⟩ := h
    rcases h4 with h4 | h5 | h4
    · exact st_asg hx.toXC h1 h2 (sEX hx.toXC hg hY tk h3) h4
    · exact st_asgC hx.toXC h1 h2 (sEX hx.toXC hg hY tk h3) h5
    · obtain ⟨el, gs, sc, q, rfl, z1, z2, z3⟩ := swYes_of h4.1
      obtain ⟨f, t, own, it, k, e1, tg, iter, ifs, rfl, rfl⟩ := chk_lc h3 h4.2
      exact st_asgLc hx hg h1 z1 z2 z3 h3
  · cases h
theorem s_a2 (hx : XS X c) (hg : XG X g tb) (hY : XGY X g tb) (tk : Takes X W) {ts : List T} {e : E} {tg v : Expr} (h : chkA2 tb c ts e tg v = true) : EvS X W g (.asg (.tup ts) e) (.Assign [tg] v p) := by
  unfold chkA2 at h
  split at h
  · rename_i es ex
    obtain ⟨k, tp, rfl⟩ := asTp_eq ex
    simp only [Bool.and_eq_true, Bool.or_eq_true, Bool.not_eq_true', decide_eq_true_eq] at h
    exact st_asgT hx.toXC h.1.1.1 h.1.1.2 (sEX hx.toXC hg hY tk h.1.2) h.2
  · cases h
theorem s_st (hx : XS X c) (hg : XG X g tb) {a i e : E} {tg v : Expr} (h : chkSt tb c a i e tg v = true) : EvS X W g (.seti a i e) (.Assign [tg] v p) := by
  unfold chkSt at h
  split at h
  · rename_i o s ex
    obtain ⟨tp, rfl⟩ := asSub_eq ex
    simp only [Bool.and_eq_true, Bool.not_eq_true'] at h
    obtain ⟨⟨⟨h1, h2⟩, h3⟩, h4⟩ := h
    exact st_seti hx.toXC (sE e c _ X hx.toXC hg h1).1 (sE a c _ X hx.toXC hg h2).1 (sE i c _ X hx.toXC hg h3).1 h4 (noSlc_of h3)
  · cases h
theorem s_sw (hx : XS X c) (hg : XG X g tb) {a i b j e : E} {tg v : Expr} (h : chkSw tb c a i b j e tg v = true) : EvS X W g (.swp a i b j e) (.Assign [tg] v p) := by
  unfold chkSw at h
  split at h
  · rename_i t u ex
    obtain ⟨k, tp, rfl⟩ := asTp_eq ex
    split at h
    · rename_i o1 s1 o2 s2 e1 e2
      obtain ⟨t1, rfl⟩ := asSub_eq e1
      obtain ⟨t2, rfl⟩ := asSub_eq e2
      simp only [Bool.and_eq_true] at h
      obtain ⟨⟨⟨⟨⟨hcm, h1⟩, h2⟩, h3⟩, h4⟩, h5⟩ := h
      exact st_swp hx.toXC hcm (sE e c _ X hx.toXC hg h1).1 (sE a c _ X hx.toXC hg h2).1 (sE i c _ X hx.toXC hg h3).1 (sE b c _ X hx.toXC hg h4).1 (sE j c _ X hx.toXC hg h5).1 (noSlc_of h3) (noSlc_of h5)
    · cases h
  · cases h
theorem s_p2 (hx : XS X c) (hg : XG X g tb) (hcm : c.cm = true) {i j : Nat} {es : Es} {t u a b : Expr} {k k2 : Nat} {tp vp : Pos} (h : chkP2 tb c i j es t u a b = true) : EvS X W g (.par [i, j] es) (.Assign [.Tuple [t, u] k tp] (.Tuple [a, b] k2 vp) p) := by
  unfold chkP2 at h
  split at h
  · rename_i x px y py e1 e2
    obtain rfl := asNm_eq e1
    obtain rfl := asNm_eq e2
    simp only [Bool.and_eq_true, decide_eq_true_eq, Bool.not_eq_true'] at h
    obtain ⟨⟨⟨⟨⟨⟨⟨h1, h2⟩, h3⟩, h4⟩, h5⟩, h6⟩, h7⟩, h8⟩ := h
    exact st_par2 hx hcm h1 h2 h3 h4 h5 h6 (sEs es c _ X hx.toXC hg h6) h7 h8
  · cases h
theorem s_p3 (hx : XS X c) (hg : XG X g tb) (hcm : c.cm = true) {i j l : Nat} {es : Es} {t u w a b d : Expr} {k k2 : Nat} {tp vp : Pos} (h : chkP3 tb c i j l es t u w a b d = true) : EvS X W g (.par [i, j, l] es) (.Assign [.Tuple [t, u, w] k tp] (.Tuple [a, b, d] k2 vp) p) := by
  unfold chkP3 at h
  split at h
  · rename_i x px y py z pz e1 e2 e3
    obtain rfl := asNm_eq e1
    obtain rfl := asNm_eq e2
    obtain rfl := asNm_eq e3
    simp only [Bool.and_eq_true, decide_eq_true_eq, Bool.not_eq_true'] at h
    obtain ⟨⟨⟨⟨⟨⟨⟨⟨⟨⟨⟨⟨⟨h1, h2⟩, h3⟩, h4⟩, h5⟩, h6⟩, h7⟩, h8⟩, h9⟩, h10⟩, h11⟩, h12⟩, h13⟩, h14⟩ := h
    exact st_par3 hx hcm h1 h2 h3 h4 h5 h6 h7 h8 h9 h10 h11 h12 (sEs es c _ X hx.toXC hg h12) h13 h14
  · cases h
theorem s_pr (hx : XS X c) (hg : XG X g tb) {is : List Nat} {es : Es} {tg v : Expr} (h : chkPr tb c is es tg v = true) : EvS X W g (.par is es) (.Assign [tg] v p) := by
  unfold chkPr at h
  split at h
  · rename_i ts vs e1 e2
    obtain ⟨k, tp, rfl⟩ := asTp_eq e1
    obtain ⟨k2, vp, rfl⟩ := asTp_eq e2
    rw [Bool.and_eq_true] at h
    obtain ⟨hcm, h⟩ := h
    unfold chkPl at h
    split at h
    · exact s_p2 hx hg hcm h
    · exact s_p3 hx hg hcm h
    · cases h
  · cases h
end
mutual
theorem sS : ∀ (s : S) (tb : List (Str × String)) (c : Cc) (x : Stmt) (X : Cx) (W : WX), XS X c → XG X g tb → XGY X g tb → Takes X W → chkS tb c s x = true → EvS X W g s x
  | .asg t e, tb, c, x, X, W, hx, hg, hY, tk, h => by
    unfold chkS at h
    obtain ⟨tg, v, p, rfl, h⟩ := onAsg_of h
    cases t with
    | name i => exact s_a1 hx hg hY tk h
    | tup ts => exact s_a2 hx hg hY tk h
  | .par is es, tb, c, x, X, W, hx, hg, hY, tk, h => by
    unfold chkS at h
    obtain ⟨tg, v, p, rfl, h⟩ := onAsg_of h
    exact s_pr hx hg h
  | .seti a i e, tb, c, x, X, W, hx, hg, hY, tk, h => by
    unfold chkS at h
    obtain ⟨tg, v, p, rfl, h⟩ := onAsg_of h
    exact s_st hx hg h
  | .swp a i b j e, tb, c, x, X, W, hx, hg, hY, tk, h => by
    unfold chkS at h
    obtain ⟨tg, v, p, rfl, h⟩ := onAsg_of h
    exact s_sw hx hg h
  | .aug i o e, tb, c, x, X, W, hx, hg, hY, tk, h => by
    unfold chkS at h
    split at h
    · rename_i t op v p
      rw [Bool.and_eq_true, Bool.and_eq_true] at h
      obtain ⟨⟨h1, h2⟩, h3⟩ := h
      split at h1
      · rename_i y yp ey
        obtain rfl := asNm_eq ey
        rw [Bool.and_eq_true, decide_eq_true_eq] at h1
        refine st_aug hx.toXC h1.1 h1.2 (sE e c v X hx.toXC hg h2).1 ?_
        unfold augOk at h3
        split at h3
        · exact .inl ⟨rfl, rfl⟩
        · exact .inr ⟨rfl, rfl⟩
        · cases h3
      · cases h1
    · cases h
  | .augi a i o e, tb, c, x, X, W, hx, hg, hY, tk, h => by
    unfold chkS at h
    split at h
    · rename_i t op v p
      split at h
      · rename_i y s ey
        obtain ⟨tp, rfl⟩ := asSub_eq ey
        simp only [Bool.and_eq_true] at h
        obtain ⟨⟨⟨⟨h1, h2⟩, h3⟩, h4⟩, h5⟩ := h
        refine st_augi hx.toXC (sE e c v X hx.toXC hg h3).1 (sE a c y X hx.toXC hg h1).1 (sE i c s X hx.toXC hg h2).1 h4 ?_
        unfold augOk at h5
        split at h5
        · exact .inl ⟨rfl, rfl⟩
        · exact .inr ⟨rfl, rfl⟩
        · cases h5
      · cases h
    · cases h
  | .expr e, tb, c, x, X, W, hx, hg, hY, tk, h => by
    unfold chkS at h
    split at h
    · rw [Bool.and_eq_true, Bool.not_eq_true'] at h
      exact st_expr (sEX hx.toXC hg hY tk h.1) h.2
    · cases h
  | .ret e, tb, c, x, X, W, hx, hg, hY, tk, h => by
    unfold chkS at h
    split at h
    · exact st_ret (sEX hx.toXC hg hY tk h)
    · cases h
  | .retN, tb, c, x, X, W, hx, hg, hY, tk, h => by
    unfold chkS at h
    split at h
    · exact st_retN
    · cases h
  | .if_ k a b, tb, c, x, X, W, hx, hg, hY, tk, h => by
    unfold chkS at h
    split at h
    · rw [Bool.and_eq_true, Bool.and_eq_true] at h
      exact st_if (sE k c _ X hx.toXC hg h.1.1).2 (sSs a tb c _ X W hx hg hY tk h.1.2) (sSs b tb c _ X W hx hg hY tk h.2)
    · cases h
  | .while_ k b, tb, c, x, X, W, hx, hg, hY, tk, h => by
    unfold chkS at h
    split at h
    · rw [Bool.and_eq_true, Bool.and_eq_true, List.isEmpty_iff] at h
      obtain ⟨⟨h1, h2⟩, rfl⟩ := h
      exact st_while hx (sE k c _ X hx.toXC hg h1).2 (sSs b tb c _ X W hx hg hY tk h2)
    · cases h
  | .for_ t i b, tb, c, x, X, W, hx, hg, hY, tk, h => by
    unfold chkS at h
    split at h
    · rw [Bool.and_eq_true, Bool.and_eq_true, Bool.and_eq_true, Bool.and_eq_true, Bool.and_eq_true, List.isEmpty_iff] at h
      obtain ⟨⟨⟨⟨⟨hcm, h1⟩, h2⟩, h3⟩, h4⟩, rfl⟩ := h
      exact st_for hx hcm (pg_T hx.toXC t _ h1) (sI i c _ _ X hx.toXC hg h2) (sSs b tb c _ X W hx hg hY tk h4) h3
    · cases h
  | .forD t i v b, tb, c, x, X, W, hx, hg, hY, tk, h => by
    unfold chkS at h
    split at h
    · rw [Bool.and_eq_true, Bool.and_eq_true, Bool.and_eq_true, Bool.and_eq_true, List.isEmpty_iff] at h
      obtain ⟨⟨⟨⟨hcm, h1⟩, h2⟩, h3⟩, rfl⟩ := h
      exact st_forD hx hcm (pg_T hx.toXC t _ h1) (ev_dI hx.toXC h2) (sSs b tb c _ X W hx hg hY tk h3) (chkD_set h2)
    · cases h
  | .pass, tb, c, x, X, W, hx, hg, hY, tk, h => by
    unfold chkS at h
    split at h
    · exact PS.imp ps_pass fun En s H ⟨as, r, m, hs, sr, h⟩ => by rw [evS] at h; exact h.here hs sr
    · cases h
  | .brk, tb, c, x, X, W, hx, hg, hY, tk, h => by
    unfold chkS at h
    split at h
    · exact PS.imp ps_break fun En s H ⟨as, r, m, hs, sr, h⟩ => by rw [evS] at h; exact h.here hs sr
    · cases h
  | .cont, tb, c, x, X, W, hx, hg, hY, tk, h => by
    unfold chkS at h
    split at h
    · exact PS.imp ps_continue fun En s H ⟨as, r, m, hs, sr, h⟩ => by rw [evS] at h; exact h.here hs sr
    · cases h
  | .raise0 cn m, tb, c, x, X, W, hx, hg, hY, tk, h => by
    unfold chkS at h
    rw [Bool.and_eq_true] at h
    obtain ⟨hcm, h⟩ := h
    split at h
    · rename_i y z e
      simp only [Bool.and_eq_true, decide_eq_true_eq] at h
      obtain ⟨⟨⟨rfl, h2⟩, h3⟩, h4⟩ := h
      obtain ⟨p, q, t, rfl⟩ := asRaise_eq e
      obtain ⟨j, p2, rfl⟩ := asStr_eq h4
      exact st_raise0 hx hcm tk hg.xx h2 h3
    · cases h
  | .raise1 cn e, tb, c, x, X, W, hx, hg, hY, tk, h => by
    unfold chkS at h
    rw [Bool.and_eq_true] at h
    obtain ⟨hcm, h⟩ := h
    split at h
    · rename_i y z ex
      simp only [Bool.and_eq_true, decide_eq_true_eq] at h
      obtain ⟨⟨⟨rfl, h2⟩, h3⟩, h4⟩ := h
      obtain ⟨p, q, t, rfl⟩ := asRaise_eq ex
      exact st_raise1 hx hcm tk hg.xx h2 h3 h4 (sE e c _ X hx.toXC hg h4).1
    · cases h
  | .try_ b cn i hd, tb, c, x, X, W, hx, hg, hY, tk, h => by
    unfold chkS at h
    rw [Bool.and_eq_true] at h
    obtain ⟨hcm, h⟩ := h
    split at h
    · rename_i bd y n st su ex
      simp only [Bool.and_eq_true, decide_eq_true_eq] at h
      obtain ⟨⟨⟨⟨⟨⟨rfl, h3⟩, h4⟩, h1⟩, h2⟩, h5⟩, h6⟩ := h
      obtain ⟨p, q, t, rfl⟩ := asTry_eq ex
      exact st_try hx hcm hg hY tk h1 h2 h3 h4 (fun W' X' _ hx' hg' hY' tk' => sSs b tb c bd X' W' hx' hg' hY' tk' h5) (fun X' _ hx' hg' => sSs hd [] _ (st :: su) X' _ hx' hg' (fun x n hn => nomatch hn) takes_no h6)
    · cases h
  | .never, tb, c, x, X, W, hx, hg, hY, tk, h => ⟨fun _ _ _ _ _ _ ⟨as, r, m, hs, sr, h⟩ => by rw [evS] at h; exact h.elim⟩
theorem sSs : ∀ (s : Ss) (tb : List (Str × String)) (c : Cc) (x : List Stmt) (X : Cx) (W : WX), XS X c → XG X g tb → XGY X g tb → Takes X W → chkSs tb c s x = true → EvSs X W g s x
  | .nil, tb, c, x, X, W, hx, hg, hY, tk, h => by
    unfold chkSs at h
    rw [List.isEmpty_iff] at h
    subst h
    exact st_nil
  | .cons s ss, tb, c, x, X, W, hx, hg, hY, tk, h => by
    unfold chkSs at h
    split at h
    · rw [Bool.and_eq_true] at h
      exact st_cons (sS s tb c _ X W hx hg hY tk h.1) (sSs ss tb c _ X W hx hg hY tk h.2)
    · cases h
end
end DV

end
section
set_option Elab.async false
set_option linter.all false
set_option maxRecDepth 100000
set_option autoImplicit false
set_option maxHeartbeats 1000000
/-! Defs: a call keeps what the evaluator says. -/
namespace DV
open PySem PySem.Spec PyProof.Rows L2
/-- a def that computes R -/
structure FnE (P : Program) (w : World) (K : PySem.W.Frag) (mg : Str → Option Value) (base : Heap) (k : Nat) (f : Addr) (fd : FuncData) (ps : List Str) (R : List D → Store → RD) : Prop where
  len : ∀ ds m p, R ds m = .ok p → ds.length = ps.length
  run : ∀ (A : Around) (outer : List PySem.Env) (s : Shared) (H : Hp) (args : Args) (us : List Value) (vs : List V) (as : Pl) (m : Store) (ds : List D) (Q : VK), Room k A → A.guards = some [] → Env0 P w K mg base A outer s H →
    BindsTo s fd args (ps.zip us) → Vals vs us → HS K as m H → Reps K as H vs ds → PostV K as H (R ds m) Q → codeAny (model P w) A (.call (.ref f) args) (fun r s' => ∃ u, r = .ok (.ret u) ∧ CE outer P w H s Q u s') s
  lenX : ∀ ds m c fs r' m', R ds m = .exc c fs r' m' → ds.length = ps.length
  runX : ∀ (A : Around) (outer : List PySem.Env) (s : Shared) (H : Hp) (args : Args) (us : List Value) (vs : List V) (as : Pl) (m : Store) (ds : List D) (E : XK) (c : String) (fs : List (Str × D)) (r' : Fr) (m' : Store), Room k A → A.guards = some [] → Env0 P w K mg base A outer s H →
    BindsTo s fd args (ps.zip us) → Vals vs us → HS K as m H → Reps K as H vs ds → R ds m = .exc c fs r' m' → (∀ as' H' cls d, Ext as H as' H' → HS K as' m' H' → XR K as' H' cls d c fs → E cls d H') →
    codeAny (model P w) A (.call (.ref f) args) (fun r s' => ∃ e, r = .error e ∧ L2.CX P w outer H s E e s') s
section
variable {P : Program} {w : World} {K : PySem.W.Frag} {mg : Str → Option Value} {base : Heap} {k : Nat} {f : Addr} {fd : FuncData} {ps : List Str} {R : List D → Store → RD}
theorem FnE.mono {j : Nat} (F : FnE P w K mg base j f fd ps R) (h : j ≤ k) : FnE P w K mg base k f fd ps R := ⟨F.len, fun A outer s H args us vs as m ds Q hr => F.run A outer s H args us vs as m ds Q (hr.mono h), F.lenX, fun A outer s H args us vs as m ds E c fs r' m' hr => F.runX A outer s H args us vs as m ds E c fs r' m' (hr.mono h)⟩
theorem post_len {as : Pl} {H : Hp} {r : RD} {Q : VK} (h : PostV K as H r Q) : ∃ p, r = .ok p := by
  cases r with
  | ok p => exact ⟨p, rfl⟩
  | exc _ _ _ => exact h.elim
  | err => exact h.elim
theorem FnE.call {X : Cx} (F : FnE X.prog X.w X.K X.mg X.base k f fd ps R) (hr : Room k X.A) (hg : X.A.guards = some []) (hb : Binds X.K fd ps []) : CallR X (.ref f) (RC X.K R) := by
  intro pins s σ H xs us Q I rv ⟨as, m, ds, hs, r, h⟩
  obtain ⟨p, hp⟩ := post_len h
  have hl : us.length = ps.length := by rw [← rv.length, r.length, F.len ds m p hp]
  have bind := hb s us I.kIn (by rw [List.append_nil]; exact hl)
  rw [List.append_nil] at bind
  refine wpAny_call (codeAny_mono (F.run X.A X.stack s H ⟨us, []⟩ us xs as m ds Q hr hg I.env0 bind rv hs r h) ?_)
  rintro _ s' ⟨u, rfl, ce⟩
  exact I.after ce
/-- an exception out of a call -/
theorem FnE.callX {X : Cx} {W : WX} (tk : Takes X W) (F : FnE X.prog X.w X.K X.mg X.base k f fd ps R) (hr : Room k X.A) (hg : X.A.guards = some []) (hb : Binds X.K fd ps []) : CallX X W f R := by
  intro pins s σ H xs us Q I rv ⟨as, m, ds, c, fs, r', m', hs, r, e, h⟩
  have hl : us.length = ps.length := by rw [← rv.length, r.length, F.lenX ds m c fs r' m' e]
  have bind := hb s us I.kIn (by rw [List.append_nil]; exact hl)
  rw [List.append_nil] at bind
  refine wpAny_call (codeAny_mono (F.runX X.A X.stack s H ⟨us, []⟩ us xs as m ds (fun cls d H' => W cls d σ H') c fs r' m' hr hg I.env0 bind rv hs r e h) ?_)
  rintro _ s' ⟨e, rfl, cx⟩
  exact tk e s' (XE.of_call I (fun _ _ _ z => z) cx)
theorem repF_frz {as : Pl} {ns : List Addr} {H : Hp} {m : Store} (hs : HS K (as.app ns) m H) : ∀ (fs fs' : List (Str × D)) (vs : List (Str × V)), fs.mapM (fun p => (frz as.l.length m 6 p.2).map (p.1, ·)) = some fs' → RepF K (as.app ns) H vs fs → RepF K as H vs fs'
  | [], fs', vs, e, h => by
    cases e
    have h1 := h.1
    simp at h1
    subst h1
    exact ⟨rfl, .nil⟩
  | p :: fs, fs', [], e, h => by have := h.1; simp at this
  | (n, d) :: fs, fs', (n', v) :: vs, e, h => by
    obtain ⟨q, qs, e1, e2, rfl⟩ := mapM_cons e
    have h1 := h.1
    have h2 := h.2
    simp only [List.map_cons, List.cons.injEq] at h1 h2
    obtain ⟨d', e3, rfl⟩ := Option.map_eq_some_iff.mp e1
    cases h2 with
    | cons r rs =>
      have ih := repF_frz hs fs qs vs e2 ⟨h1.2, rs⟩
      exact ⟨by simp [h1.1, ih.1], .cons (frz_rep hs 6 d d' v e3 r) ih.2⟩
theorem finX_D {as as1 : Pl} {H H1 : Hp} {c : Bool} {cn cn' : String} {fs fs' : List (Str × D)} {m m1 m' : Store} {r' : Fr} {cls : Value} {d : Option Addr} {E : XK} (e : Ext as H as1 H1) (hs : HS K as m H) (hs1 : HS K as1 m1 H1) (xr : XR K as1 H1 cls d cn fs) (h : finX c cn fs m m1 = .exc cn' fs' r' m')
    (k : ∀ as' H' cls d, Ext as H as' H' → HS K as' m' H' → XR K as' H' cls d cn' fs' → E cls d H') : E cls d H1 := by
  unfold finX at h
  cases c with
  | false =>
    cases h
    exact k as1 H1 cls d e hs1 xr
  | true =>
    rw [if_pos rfl] at h
    unfold need at h
    split at h
    · rename_i co
      split at h
      · rename_i gs eg
        cases h
        obtain ⟨ns, ks, rfl, f1, f2⟩ := e.pre
        have hm : m.length = as.l.length := hs.len.symm
        have e2 : Ext as H ⟨as.l, ks ++ as.hid⟩ H1 := ⟨⟨[], ks, by simp, by simp, f2⟩, e.fr⟩
        have h2 : HS K ((⟨as.l, ks ++ as.hid⟩ : Pl).app ns) m1 H1 := hs1
        rw [hm] at eg
        refine k ⟨as.l, ks ++ as.hid⟩ H1 cls d e2 (clean_hs (as := ⟨as.l, ks ++ as.hid⟩) hm h2 co) ?_
        obtain ⟨C, rfl, hC, xd⟩ := xr
        refine ⟨C, rfl, hC, ?_⟩
        rcases xd with ⟨rfl, rfl⟩ | ⟨dd, vs, rfl, y1, y2, y3⟩
        · cases eg; exact .inl ⟨rfl, rfl⟩
        · exact .inr ⟨dd, vs, rfl, y1, fun z => y2 (Pl.app_all (ns := ns) (as := ⟨as.l, ks ++ as.hid⟩) z), repF_frz (as := ⟨as.l, ks ++ as.hid⟩) h2 _ _ _ eg y3⟩
      · cases h
    · cases h
/-- a def's end -/
theorem fin_D {as as1 : Pl} {H H1 : Hp} {c : Bool} {d : D} {m m1 : Store} {v : V} {Q : VK} (e : Ext as H as1 H1) (hs : HS K as m H) (hs1 : HS K as1 m1 H1) (rv : Rep K as1 H1 v d) (h : PostV K as H (finR c d m m1) Q) : Q v H1 := by
  cases c with
  | false => exact h as1 v H1 e hs1 rv
  | true =>
    obtain ⟨co, h⟩ := Post.needs h
    obtain ⟨ns, ks, rfl, f1, f2⟩ := e.pre
    have hm : m.length = as.l.length := hs.len.symm
    have e2 : Ext as H ⟨as.l, ks ++ as.hid⟩ H1 := ⟨⟨[], ks, by simp, by simp, f2⟩, e.fr⟩
    have h2 : HS K ((⟨as.l, ks ++ as.hid⟩ : Pl).app ns) m1 H1 := hs1
    split at h
    · rename_i d' ed
      rw [hm] at ed
      exact h ⟨as.l, ks ++ as.hid⟩ v H1 e2 (clean_hs (as := ⟨as.l, ks ++ as.hid⟩) hm h2 co) (frz_rep (as := ⟨as.l, ks ++ as.hid⟩) h2 6 d d' v ed rv)
    · exact h.elim
theorem sr_start {as : Pl} {H : Hp} {N : List Str} {vs : List V} {ds : List D} (r : Reps K as H vs ds) : SR K as H (L2.start N vs) (ds.map some ++ List.replicate (N.length - ds.length) none) := by
  have hl := r.length
  refine ⟨by simp [L2.start, hl], fun i d e => ?_⟩
  by_cases hi : i < ds.length
  · rw [List.getElem?_append_left (by simpa using hi), List.getElem?_map] at e
    cases q : ds[i]? with
    | none => rw [q] at e; cases e
    | some d' =>
      rw [q] at e
      cases e
      obtain ⟨v, hv, rv⟩ := r.get q
      refine ⟨v, ?_, rv⟩
      unfold L2.start
      rw [List.getElem?_append_left (by simp; omega), List.getElem?_map, hv]; rfl
  · rw [List.getElem?_append_right (by simpa using hi), List.getElem?_replicate] at e
    split at e <;> cases e
end
/-- the module's defs, so far -/
structure MG (P : Program) (w : World) (K : PySem.W.Frag) (mg : Str → Option Value) (base : Heap) (k : Nat) (g : G) (tb : List (Str × String)) : Prop where
  bl : ∀ x ∈ bNames, mg x = none
  xx : XX P w K mg base g
  con : ∀ x d, g.con x = some d → ∃ v u, mg x = some u ∧ RelV v u ∧ ∀ as H, Rep K as H v d
  calls : ∀ x n, (x, n) ∈ tb → ∃ f fd ps, mg x = some (.ref f) ∧ PySem.W.keepIn K (.ref f) = true ∧ FnE P w K mg base k f fd ps (g.fn n) ∧ Binds K fd ps []
section
variable {P : Program} {w : World} {K : PySem.W.Frag} {mg : Str → Option Value} {base : Heap} {k : Nat} {g : G} {tb : List (Str × String)}
theorem MG.xg {X : Cx} (M : MG X.prog X.w X.K X.mg X.base k g tb) (hr : Room k X.A) (hg : X.A.guards = some []) : XG X g tb :=
  ⟨M.bl, M.xx, M.con, fun x n hn => let ⟨f, fd, ps, h1, h2, h3, h4⟩ := M.calls x n hn; ⟨f, h1, h2, fun X' ⟨e1, e2, e3, e4, e5, e6⟩ => FnE.call (k := k) (by rw [e1, e2, e3, e4, e5]; exact h3) (by rw [e6]; exact hr) (by rw [e6]; exact hg) (by rw [e3]; exact h4)⟩⟩
theorem MG.xgy {X : Cx} (M : MG X.prog X.w X.K X.mg X.base k g tb) (hr : Room k X.A) (hg : X.A.guards = some []) : XGY X g tb :=
  fun x n hn => let ⟨f, fd, ps, h1, h2, h3, h4⟩ := M.calls x n hn; ⟨f, h1, h2, fun X' ⟨e1, e2, e3, e4, e5, e6⟩ W tk => FnE.callX (k := k) tk (by rw [e1, e2, e3, e4, e5]; exact h3) (by rw [e6]; exact hr) (by rw [e6]; exact hg) (by rw [e3]; exact h4)⟩
theorem XX.add {x : String} {d : FD} (T : XX P w K mg base g) : XX P w K mg base (g.add x d) := ⟨T.sub, T.fld, T.txt⟩
/-- what tells nothing: the level below the last of a def that calls itself -/
def dErr (np ns : Nat) : FD := ⟨np, ns, true, .cons .never .nil⟩
theorem run_err {np ns : Nat} (ds : List D) (m : Store) : runF g (dErr np ns) ds m = .err := by
  unfold runF dErr need
  split
  · simp only [evSs, evS]; rfl
  · rfl
theorem fn_err {f : Addr} {fd : FuncData} {ps : List Str} {np ns : Nat} : FnE P w K mg base k f fd ps (runF g (dErr np ns)) :=
  ⟨fun ds m p e => (by rw [run_err] at e; cases e), fun A outer s H args us vs as m ds Q _ _ _ _ _ _ _ hp => (by rw [run_err] at hp; exact hp.elim),
    fun ds m c fs r' m' e => (by rw [run_err] at e; cases e), fun A outer s H args us vs as m ds E c fs r' m' _ _ _ _ _ _ _ he _ => (by rw [run_err] at he; cases he)⟩
/-- one more def -/
theorem MG.add (M : MG P w K mg base k g tb) {x : Str} {n : String} {f : Addr} {fd : FuncData} {ps : List Str} {d : FD} (hm : mg x = some (.ref f)) (hk : PySem.W.keepIn K (.ref f) = true) (F : FnE P w K mg base (k + 1) f fd ps (runF g d)) (hb : Binds K fd ps [])
    (hn : n ∉ tb.map (·.2)) : MG P w K mg base (k + 1) (g.add n d) ((x, n) :: tb) := by
  refine ⟨M.bl, M.xx.add, M.con, fun y q hy => ?_⟩
  rcases List.mem_cons.mp hy with e | hy
  · cases e
    exact ⟨f, fd, ps, hm, hk, by show FnE _ _ _ _ _ _ _ _ _ (if n = n then _ else _); rw [if_pos rfl]; exact F, hb⟩
  · obtain ⟨f', fd', ps', h1, h2, h3, h4⟩ := M.calls y q hy
    have hq : q ≠ n := fun e => hn (e ▸ List.mem_map.mpr ⟨_, hy, rfl⟩)
    exact ⟨f', fd', ps', h1, h2, by show FnE _ _ _ _ _ _ _ _ _ (if q = n then _ else _); rw [if_neg hq]; exact h3.mono (Nat.le_succ k), h4⟩
/-- a def of the text, by its body -/
theorem fn_D {f : Addr} {name qual : Str} {params : Arguments} {body : List Stmt} {scope : Scope} {dV kV doc pm cdv ct oc : Value} {an od : Option Addr} {osl : Array (Option Value)} {N ps : List Str} {d : FD} (hk2 : 2 ≤ k)
    (lk : K.lookup f = some ⟨oc, od, .func (PySem.W.fnOf name qual params body scope dV kV doc pm an cdv ct), osl⟩) (hcd : PySem.W.codeIn K cdv qual = true) (S : FnScope N ps scope) (hnp : d.np = ps.length) (hns : d.ns = N.length)
    (M : MG P w K mg base k g tb) (hc : chkSs tb ⟨N, scope, scope, true⟩ d.body body = true) : FnE P w K mg base (k + 1) f (PySem.W.fnOf name qual params body scope dV kV doc pm an cdv ct) ps (runF g d) := by
  have length_of : ∀ ds m p, runF g d ds m = .ok p → ds.length = ps.length := fun ds m p h => by
    unfold runF at h
    rw [← hnp]; exact (need_ok h).1
  have lengthX : ∀ ds m c fs r' m', runF g d ds m = .exc c fs r' m' → ds.length = ps.length := fun ds m c fs r' m' h => by
    unfold runF need at h
    split at h
    · rw [← hnp]; assumption
    · cases h
  -- the body, whatever takes what it raises
  have core : ∀ (A : Around) (outer : List PySem.Env) (s : Shared) (H : Hp) (args : Args) (us : List Value) (vs : List V) (as : Pl) (m : Store) (ds : List D) (Q : VK) (E : XK), Room (k + 1) A → A.guards = some [] → Env0 P w K mg base A outer s H →
      BindsTo s (PySem.W.fnOf name qual params body scope dV kV doc pm an cdv ct) args (ps.zip us) → Vals vs us → HS K as m H → Reps K as H vs ds → ds.length = ps.length →
      PostF K (fun cls d _ H => E cls d H) as H (evSs g d.body (ds.map some ++ List.replicate (N.length - ds.length) none) m) { nx := fun _ H' => Q .non H', rt := Q } →
      codeAny (model P w) A (.call (.ref f) args) (fun r s' => (∃ u, r = .ok (.ret u) ∧ CE outer P w H s Q u s') ∨ ∃ e, r = .error e ∧ L2.CX P w outer H s E e s') s := by
    intro A outer s H args us vs as m ds Q E hr hgd e0 hb rv hs rs hlen hp
    have hl : vs.length = ps.length := by rw [rs.length]; exact hlen
    have hus : us.length = ps.length := by rw [← rv.length]; exact hl
    let X : Cx := cxOf (L2.CX P w) P w K mg base N qual scope f cdv A outer s H E
    have hr' : Room k X.A := hr.deeper (envOfC qual scope s.heap.objs.size f cdv)
    have hg' : X.A.guards = some [] := hgd
    have xs : XS X ⟨N, scope, scope, true⟩ := { N := rfl, nd := S.nd, sc := rfl, fn := fun _ _ => rfl, calm := fun _ => rfl, room := hr'.units, gd := hg', kind := S.kind, own := passes_of rfl, stk := rfl, fr := rfl, ex := rfl, rm := fun _ => hr'.mono hk2 }
    have tk : Takes X (fun cls d _ H => E cls d H) := takes_of rfl rfl rfl rfl
    have read := sSs (g := g) d.body tb ⟨N, scope, scope, true⟩ body X _ xs (MG.xg (X := X) M hr' hg') (MG.xgy (X := X) M hr' hg') tk hc
    have start_ok : RSs K (fun cls d _ H => E cls d H) (evSs g d.body) { nx := fun _ H' => Q .non H', rt := Q } (L2.start N vs) H := ⟨as, _, m, hs, sr_start rs, hp⟩
    have inK : K.In s.heap := e0.mod.kin.keeps fun b o z => (e0.bs b o z).1
    have stored : ∀ y ∈ ps.zip us, scope.names.lookup y.1 = some .local ∨ (scope.names.lookup y.1 = some .cell ∧ ((cellsFrom (s.heap.objs.size + 1) scope.names []).lookup y.1).isSome = true) := by
      rintro ⟨n, v⟩ hy
      exact (S.par n (List.of_mem_zip hy).1).imp id fun z => ⟨z, PySem.W.cellsFrom_some _ _ _ (.inl z)⟩
    refine codeAny_call_function hr.depth (inK _ _ lk) rfl S.co S.gen rfl (PySem.W.codeRec_of inK hcd) (hb _ _ _ _ (wpAny_newFunctionEnv_cells S.kind stored fun env he s1 x => ?_))
    subst he
    refine ⟨(e0.mod.nolimit.keeps fun b o z => (e0.bs b o z).1).keeps x.toInCall.keep, codeAny_func ?_⟩
    refine wpAny_mono (read.run [] s1 (L2.start N vs) H _ (inv_start S hr.hd e0 hl rv x) start_ok) ?_ ?_
    · intro fl s' done
      have back : ∀ {σ' : St} {H' : Hp} {v : V} {u : Value}, Inv X [] σ' H' s' → RelV v u → Q v H' → CE outer P w H s Q u s' := fun {σ' H' v u} J rr q => ⟨v, H', J.os, J.bare, J.base, J.hok, rr, q⟩
      cases fl with
      | ret u => obtain ⟨v, σ', H', J, rr, q⟩ := done; exact .inl ⟨u, rfl, back J rr q⟩
      | next => obtain ⟨σ', H', J, q⟩ := done; exact .inl ⟨.none, rfl, back (v := .non) J rfl q⟩
      | brk => obtain ⟨_, _, _, q⟩ := done; exact q.elim
      | cont => obtain ⟨_, _, _, q⟩ := done; exact q.elim
    · intro e s' z
      exact wpAny_mono z (fun _ _ z => .inr ⟨_, rfl, z⟩) fun _ _ z => .inr ⟨_, rfl, z⟩
  refine ⟨length_of, fun A outer s H args us vs as m ds Q hr hgd e0 hb rv hs rs hp => ?_, lengthX, fun A outer s H args us vs as m ds E c fs r' m' hr hgd e0 hb rv hs rs he hk => ?_⟩
  · obtain ⟨p, hpk⟩ := post_len hp
    have hlen := length_of ds m p hpk
    refine codeAny_mono (core A outer s H args us vs as m ds Q (fun _ _ _ => False) hr hgd e0 hb rv hs rs hlen ?_) ?_
    · unfold runF at hp
      obtain ⟨_, hp⟩ := Post.needs hp
      rw [hns, hnp, ← hlen] at hp
      cases ev : evSs g d.body (ds.map some ++ List.replicate (N.length - ds.length) none) m with
      | exc cn gs r1 m1 =>
        rw [ev] at hp
        dsimp only at hp
        exfalso
        unfold finX need at hp
        split at hp
        · split at hp
          · split at hp <;> exact hp
          · exact hp
        · exact hp
      | err => rw [ev] at hp; exact hp.elim
      | ok q =>
        obtain ⟨fl, r, m1⟩ := q
        rw [ev] at hp
        intro as1 σ1 H1 e1 hs1 sr1
        cases fl with
        | next => exact fin_D e1 hs hs1 .non hp
        | ret d' => exact fun v rv' => fin_D e1 hs hs1 rv' hp
        | brk => exact hp.elim
        | cont => exact hp.elim
    · rintro r s' (z | ⟨e, rfl, a, B, H', cls, dd, _, _, _, _, _, _, _, z⟩)
      · exact z
      · exact z.elim
  · have hlen := lengthX ds m c fs r' m' he
    refine codeAny_mono (core A outer s H args us vs as m ds (fun _ _ => False) E hr hgd e0 hb rv hs rs hlen ?_) ?_
    · unfold runF need at he
      rw [if_pos (by rw [hnp]; exact hlen), hns, hnp, ← hlen] at he
      cases ev : evSs g d.body (ds.map some ++ List.replicate (N.length - ds.length) none) m with
      | exc cn gs r1 m1 =>
        rw [ev] at he
        exact fun as1 σ1 H1 cls dd e1 hs1 _ xr => finX_D e1 hs hs1 xr he hk
      | err => rw [ev] at he; cases he
      | ok q =>
        obtain ⟨fl, r, m1⟩ := q
        rw [ev] at he
        have nf : ∀ v, finR d.clean v m m1 ≠ .exc c fs r' m' := fun v z => by
          unfold finR at z
          split at z
          · have z := nx_need z
            split at z <;> cases z
          · cases z
        cases fl with
        | next => exact absurd he (nf _)
        | ret d' => exact absurd he (nf _)
        | brk => cases he
        | cont => cases he
    · rintro r s' (⟨u, rfl, v, H', _, _, _, _, _, q⟩ | z)
      · exact q.elim
      · exact z
theorem fn_errD {f : Addr} {name qual : Str} {params : Arguments} {body : List Stmt} {scope : Scope} {dV kV doc pm cdv ct oc : Value} {an od : Option Addr} {osl : Array (Option Value)} {N ps : List Str} {np ns : Nat}
    (lk : K.lookup f = some ⟨oc, od, .func (PySem.W.fnOf name qual params body scope dV kV doc pm an cdv ct), osl⟩) (S : FnScope N ps scope) : FnE P w K mg base (k + 1) f (PySem.W.fnOf name qual params body scope dV kV doc pm an cdv ct) ps (runF g (dErr np ns)) := fn_err
end
end DV

end
section
set_option Elab.async false
set_option linter.all false
set_option maxRecDepth 100000
set_option autoImplicit false
set_option maxHeartbeats 1000000
/-! The law's entry. -/
namespace DV
open PySem PySem.Spec PyProof.Rows L2
/-- the script, as the evaluator sees it -/
def script (ns : List Int) : D := .scr (ns.map .int)
theorem script_reps {K : PySem.W.Frag} {as : Pl} {H : Hp} : ∀ ns : List Int, Reps K as H (ns.map V.int) (ns.map D.int)
  | [] => .nil
  | n :: ns => .cons (.int n) (script_reps ns)
theorem hs_nil {K : PySem.W.Frag} {H : Hp} : HS K .nil [] H := ⟨rfl, .nil, fun l a o h _ => by simp [Pl.nil] at h, fun a h => by simp [Pl.nil] at h⟩
/-- the call of the law, from a heap in which the script alone may be tracked -/
theorem entry_core {P : Program} {w : World} {K : PySem.W.Frag} {mg mb : Str → Option Value} {k : Nat} {fa a : Addr} {fd : FuncData} {x : Str} {R : List D → Store → RD} {s₁ : Shared} {vs : List Value} {ns : List Int} {H : Hp}
    (KX : K.In s₁.heap) (hns : s₁.heap.Ns mainGlobals mg) (hb : s₁.heap.Ns builtinsNs mb) (hbb : ∀ x : Str, x ≠ "__name__" → mb x = bootBuiltins x) (hlim : s₁.heap.NoLimit) (hg : s₁.gens = #[])
    (ha : s₁.heap.get? a = some { cls := .type "list", data := .seq vs.toArray }) (hr : Room k callerA)
    (F : ∀ base : Heap, K.In base → base.Ns mainGlobals mg → FnE P w K mg base k fa fd [x] R) (hbind : ∀ (s : Shared) (u : Value), BindsTo s fd ⟨[u], []⟩ [(x, u)])
    (hR : ∃ m, R [script ns] [] = .ok (.bl true, m)) (hO : Only H) (hrep : Rep K .nil H (.ref a) (script ns)) (hok : HOk P w H s₁.heap) (hA : ∀ b, H b ≠ none → b = a) (hK : H a ≠ none → K.lookup a = none) :
    codeAny (model P w) callerA (.call (.ref fa) ⟨[.ref a], []⟩) (fun r s' => r = .ok (.ret (.bool true)) ∧ OldK s₁.heap s'.heap ∧ s'.os = s₁.os ∧ AllBare s'.gens) s₁ := by
  have only_a : ∀ {b : Addr} {u : HO}, H b = some u → b = a := fun {b u} e => hA b (by rw [e]; exact fun z => by cases z)
  have dict_free : ∀ {b : Addr} {o : Obj} {es : Array DictEntry} {ep : Nat}, s₁.heap.get? b = some o → o.data = .dict es ep → H b = none := fun {b o es ep} e d => by
    cases q : H b with
    | none => rfl
    | some u =>
      obtain rfl := only_a q
      rw [ha] at e
      cases e
      exact absurd d fun z => by cases z
  have names : ∀ {b : Addr} {m : Str → Option Value}, s₁.heap.Ns b m → (hidT s₁.heap H).Ns b m := by
    rintro b m ⟨o, es, ep, e, d, r⟩
    exact ⟨o, es, ep, hidT_get e (dict_free e d), d, r⟩
  have written : K.In (hidT s₁.heap H) := fun b o e => by
    refine hidT_get (KX b o e) ?_
    cases q : H b with
    | none => rfl
    | some u =>
      obtain rfl := only_a q
      rw [hK (by rw [q]; exact fun z => by cases z)] at e
      cases e
  have modl : Mod K mg (hidT s₁.heap H) := ⟨written, names hns, ⟨mb, names hb, hbb⟩, hlim.elim fun mc h => ⟨mc, names h.1, h.2⟩⟩
  have env : Env0 P w K mg (hidT s₁.heap H) callerA [] s₁ H :=
    { frames := rfl, mod := modl, bs := fun b o e => of_hidT e, bsz := Nat.le_of_eq (hidT_size _ _), funs := trivial, frf := fun b (hb : b ∈ ([] : List Addr)) => (by cases hb), hok := hok, bare := .of_eq hg }
  obtain ⟨m, hR⟩ := hR
  have want : PostV K .nil H (R [script ns] []) (fun v _ => v = .bl true) := by
    rw [hR]
    exact fun as' v H' _ _ rv => bl_rep rv
  refine codeAny_mono ((F _ written (names hns)).run callerA [] s₁ H ⟨[.ref a], []⟩ [.ref a] [.ref a] .nil [] [script ns] _ hr rfl env (hbind s₁ (.ref a)) (.cons rfl .nil) hs_nil (.cons hrep .nil) want) ?_
  rintro _ s' ⟨u, rfl, v, H', os, bare, un, hok', r', q⟩
  have q : v = .bl true := q
  subst q
  obtain rfl : u = Value.bool true := r'
  refine ⟨rfl, OldK.of_keep fun b o e => ?_, os, bare⟩
  cases q : H b with
  | none => exact un.keep b o e q (fun z => by cases z) (fun z => by cases z)
  | some u =>
    rcases hO b with z | ⟨ob, xs, z⟩
    · rw [q] at z; cases z
    · obtain ⟨e1, _⟩ := hok b _ z
      obtain ⟨e2, _⟩ := hok' b _ (un.frzs b ob _ z)
      rw [e] at e1
      cases e1
      exact e2
theorem entry_call {P : Program} {w : World} {K : PySem.W.Frag} {mg mb : Str → Option Value} {k : Nat} {fa a : Addr} {fd : FuncData} {x : Str} {R : List D → Store → RD} {s₁ : Shared} {vs : List Value} {ns : List Int}
    (KX : K.In s₁.heap) (hns : s₁.heap.Ns mainGlobals mg) (hb : s₁.heap.Ns builtinsNs mb) (hbb : ∀ x : Str, x ≠ "__name__" → mb x = bootBuiltins x) (hlim : s₁.heap.NoLimit) (hg : s₁.gens = #[])
    (ha : s₁.heap.get? a = some { cls := .type "list", data := .seq vs.toArray }) (hi : IntsAre vs ns) (hl : ns.length ≤ sizeLine) (hr : Room k callerA)
    (F : ∀ base : Heap, K.In base → base.Ns mainGlobals mg → FnE P w K mg base k fa fd [x] R) (hbind : ∀ (s : Shared) (u : Value), BindsTo s fd ⟨[u], []⟩ [(x, u)]) (hR : ∃ m, R [script ns] [] = .ok (.bl true, m)) :
    codeAny (model P w) callerA (.call (.ref fa) ⟨[.ref a], []⟩) (fun r s' => r = .ok (.ret (.bool true)) ∧ OldK s₁.heap s'.heap ∧ s'.os = s₁.os ∧ AllBare s'.gens) s₁ := by
  have rv := vals_ints hi
  have n1 := hi.length
  cases hk : K.lookup a with
  | some o =>
    have e := KX a o hk
    rw [ha] at e
    cases e
    have kl : KL K a (ns.map V.int) := ⟨_, vs.toArray, _, hk, rfl, rfl, rfl, by rw [List.size_toArray, n1]; exact hl, by simpa using rv⟩
    exact entry_core (H := fun _ => none) KX hns hb hbb hlim hg ha hr F hbind hR (fun _ => .inl rfl) (.scrK kl (script_reps ns)) (fun b u (z : (none : Option HO) = some u) => by cases z) (fun b z => (z rfl).elim) fun z => (z rfl).elim
  | none =>
    have at_a : (fun b => if b = a then some (HO.frz { cls := .type "list", data := .seq vs.toArray } (.lst (ns.map V.int))) else none : Hp) a = some (.frz { cls := .type "list", data := .seq vs.toArray } (.lst (ns.map V.int))) := if_pos rfl
    have off_a : ∀ {b}, b ≠ a → (fun b => if b = a then some (HO.frz { cls := .type "list", data := .seq vs.toArray } (.lst (ns.map V.int))) else none : Hp) b = none := fun n => if_neg n
    refine entry_core KX hns hb hbb hlim hg ha hr F hbind hR (H := fun b => if b = a then some (.frz { cls := .type "list", data := .seq vs.toArray } (.lst (ns.map V.int))) else none) (fun b => ?_) (.scr at_a (by simp [Pl.nil, Pl.all]) (script_reps ns)) (fun b u z => ?_) (fun b z => ?_) fun _ => hk
    · by_cases e : b = a
      · subst e; exact .inr ⟨_, _, at_a⟩
      · exact .inl (off_a e)
    · by_cases e : b = a
      · subst e
        rw [at_a] at z
        cases z
        exact ⟨ha, by rw [List.length_map]; exact hl, vs, _, rv, ha⟩
      · rw [off_a e] at z; cases z
    · by_cases e : b = a
      · exact e
      · exact (z (off_a e)).elim
/-- the goal that k_head leaves, from what the evaluator says of the law -/
theorem walk_D {l : PySem.W.OpenLaw} {n k : Nat} {q : Program} {loose : List Str} {XP : (Str → Option Value) → Heap → Prop} {YP : World → Heap → Prop} {d : DefRec} {K : Params → PySem.W.Frag} {x : Str} {R : List D → Store → RD}
    (hn : l.most = some n) (hn2 : n ≤ sizeLine) (hdf : d.params.defaults = []) (hr : Room k callerA) (hY : ∀ (w : World) (h : Heap), YP w h → (K w.params).In h)
    (F : ∀ (w : World) (mg : Str → Option Value) (fa : Addr) (h : Heap), (K w.params).In h → h.Ns mainGlobals mg → mg d.name = some (.ref fa) →
      ∃ fd : FuncData, (∀ (s : Shared) (u : Value), BindsTo s fd ⟨[u], []⟩ [(x, u)]) ∧ ∀ base : Heap, (K w.params).In base → base.Ns mainGlobals mg → FnE l.prog w (K w.params) mg base k fa fd [x] R)
    (hR : ∀ ns : List Int, ns.length ≤ n → ∃ m, R [script ns] [] = .ok (.bl true, m)) : PySem.W.WalkO q loose XP YP l.row.toRowW d [] (fun f vs => PySem.call f vs) := by
  refine Att.attach_call hn hdf fun w s₀ s₁ mg mb fa o pm cd doc a vs ns G Y ho hd hcd hmg hobj hints hlen hg => ?_
  obtain ⟨fd, bind, hF⟩ := F w mg fa _ (hY w _ Y) G.T.g hmg
  exact entry_call (hY w _ Y) G.T.g G.T.b G.T.builtins G.T.nolimit hg hobj hints (Nat.le_trans hlen hn2) hr hF bind (hR ns hlen)
end DV

end
section
set_option Elab.async false
set_option linter.all false
set_option maxRecDepth 100000
set_option autoImplicit false
set_option maxHeartbeats 1000000
/-! What the glue says of a law's exceptions. -/
namespace DV
open PySem PySem.Spec PyProof.Rows L2
def AllL {α β : Type} (P : α → β → Prop) : List (α × β) → Prop
  | [] => True
  | p :: r => P p.1 p.2 ∧ AllL P r
theorem AllL.at_ {α β : Type} [BEq α] [LawfulBEq α] {P : α → β → Prop} : ∀ {l : List (α × β)}, AllL P l → ∀ {a : α} {b : β}, l.lookup a = some b → P a b
  | [], _, a, b, h => by cases h
  | (a', b') :: r, hl, a, b, h => by
    rw [List.lookup_cons] at h
    cases e : a == a' with
    | true => rw [e] at h; cases h; rw [eq_of_beq e]; exact hl.1
    | false => rw [e] at h; exact AllL.at_ hl.2 h
section
variable {K : PySem.W.Frag} {C A : Addr} {b : Bool}
end
end DV

end
section
set_option Elab.async false
set_option linter.all false
set_option maxRecDepth 100000
set_option autoImplicit false
/-! Plain laws of the evaluator: a def's end, the hand. -/
namespace DV
open PySem (Str)
mutual
theorem mapLoc_same {n : Nat} {k : Nat → Option D} (hk : ∀ l, l < n → k l = some (.loc l)) : ∀ d : D, d.under n = true → d.mapLoc k = some d
  | .non, _ => by simp [D.mapLoc]
  | .bl _, _ => by simp [D.mapLoc]
  | .int _, _ => by simp [D.mapLoc]
  | .str _, _ => by simp [D.mapLoc]
  | .tup xs, h => by rw [D.under] at h; simp [D.mapLoc, mapLocs_same hk xs h]
  | .lst xs, h => by rw [D.under] at h; simp [D.mapLoc, mapLocs_same hk xs h]
  | .dct xs, h => by rw [D.under] at h; simp [D.mapLoc, mapLocK_same hk xs h]
  | .loc l, h => by rw [D.mapLoc]; exact hk l (by simpa [D.under] using h)
  | .scr xs, h => by rw [D.under] at h; simp [D.mapLoc, mapLocs_same hk xs h]
theorem mapLocs_same {n : Nat} {k : Nat → Option D} (hk : ∀ l, l < n → k l = some (.loc l)) : ∀ ds : List D, unders n ds = true → mapLocs k ds = some ds
  | [], _ => by simp [mapLocs]
  | x :: xs, h => by
    rw [unders, Bool.and_eq_true] at h
    simp [mapLocs, mapLoc_same hk x h.1, mapLocs_same hk xs h.2]
theorem mapLocK_same {n : Nat} {k : Nat → Option D} (hk : ∀ l, l < n → k l = some (.loc l)) : ∀ ds : List (Key × D), underK n ds = true → mapLocK k ds = some ds
  | [], _ => by simp [mapLocK]
  | (i, x) :: xs, h => by
    rw [underK, Bool.and_eq_true] at h
    simp [mapLocK, mapLoc_same hk x h.1, mapLocK_same hk xs h.2]
end
theorem frz_same {n : Nat} {m : Store} {d : D} (f : Nat) (h : d.under n = true) : frz n m f d = some d := by
  cases f with
  | zero => exact mapLoc_same (fun l hl => by simp [hl]) d h
  | succ f => exact mapLoc_same (fun l hl => by simp [hl]) d h
/-- every object shows places of the store alone -/
def StOk (m : Store) : Prop := ∀ o ∈ m, o.under m.length = true
theorem fin_same {m m' : Store} {d : D} {c : Bool} (hl : m'.length = m.length) (h : StOk m') (hd : d.under m.length = true) : finR c d m m' = .ok (d, m') := by
  cases c with
  | false => rfl
  | true =>
    have ht : m'.take m.length = m' := by rw [← hl]; exact List.take_length
    have co : cleanOk m m' := ⟨by omega, fun o ho => by rw [ht] at ho; rw [← hl]; exact h o ho⟩
    simp only [finR, if_true, need, co, frz_same 6 hd, ht]
/-! ### the hand -/
/-- great, seed, count -/
structure Hand where
  great : Int
  seed : Int
  cnt : Int
def Hand.enc (h : Hand) : SO := .lst [.int h.great, .int h.seed, .int h.cnt]
/-- the store m with the hand at l -/
def stoH (m : Store) (l : Nat) (h : Hand) : Store := m.set l h.enc
theorem stoH_get {m : Store} {l : Nat} {h : Hand} (hl : l < m.length) : (stoH m l h)[l]? = some h.enc := by simp [stoH, hl]
theorem stoH_set {m : Store} {l : Nat} {h h' : Hand} : (stoH m l h).set l h'.enc = stoH m l h' := by simp [stoH]
theorem stoH_len {m : Store} {l : Nat} {h : Hand} : (stoH m l h).length = m.length := by simp [stoH]
theorem stoH_ok {m : Store} {l : Nat} {h : Hand} (ok : StOk m) : StOk (stoH m l h) := by
  intro o ho
  rw [stoH_len]
  unfold stoH at ho
  rcases List.mem_or_eq_of_mem_set ho with ho | rfl
  · exact ok o ho
  · simp [Hand.enc, SO.under, unders, D.under]
/-- what a hand keeps -/
structure Hand.Ok (h : Hand) : Prop where
  g0 : 0 ≤ h.great
  s0 : 0 ≤ h.seed
  s1 : h.seed < 2 ^ 61
  c0 : 0 ≤ h.cnt
  c1 : h.cnt < 2 ^ 40
end DV

end
section
set_option Elab.async false
set_option linter.all false
set_option maxRecDepth 100000
set_option autoImplicit false
set_option maxHeartbeats 2000000
/-! Stepping through the evaluator: one lemma a construct, the values found from the left. -/
namespace DV
open PySem (Str)
section
variable {g : G} {r r' r'' : Fr} {m m1 m2 m3 m4 : Store} {a b c e i : E} {x y z d : D} {v : RD} {f : Bool}
theorem x_var {i : Nat} (h : r[i]? = some (some d)) : evE g (.var i) r m = .ok (d, m) := by rw [evE, h]
theorem x_int {n : Int} : evE g (.int n) r m = .ok (.int n, m) := by rw [evE]
theorem x_bin {o : BOp} (ha : evE g a r m = .ok (x, m1)) (hb : evE g b r m1 = .ok (y, m2)) (h : binD f o x y m2 = .ok (z, m3)) : evE g (.bin f o a b) r m = .ok (z, m3) := by simp only [evE, ha, hb, bind_ok]; exact h
theorem x_cmp {o : COp} {k : Bool} (ha : evE g a r m = .ok (x, m1)) (hb : evE g b r m1 = .ok (y, m2)) (h : cmpB o x y m2 = .ok k) : evE g (.cmp o a b) r m = .ok (.bl k, m2) := by simp only [evE, ha, hb, h, bind_ok]
theorem x_idx (ha : evE g a r m = .ok (x, m1)) (hi : evE g i r m1 = .ok (y, m2)) (h : ixD x y m2 = .ok (z, m3)) : evE g (.idx a i) r m = .ok (z, m3) := by simp only [evE, ha, hi, bind_ok]; exact h
/-! ### statements -/
variable {R : RS} {ss : Ss} {s : S}
theorem s_nil : evSs g .nil r m = .ok (.next, r, m) := by rw [evSs]
theorem s_next (h : evS g s r m = .ok (.next, r', m1)) (k : evSs g ss r' m1 = R) : evSs g (.cons s ss) r m = R := by rw [evSs, h, bind_ok]; exact k
theorem s_ret (h : evS g s r m = .ok (.ret d, r', m1)) : evSs g (.cons s ss) r m = .ok (.ret d, r', m1) := by rw [evSs, h, bind_ok]
theorem s_asg {t : T} (h : evE g a r m = .ok (x, m1)) (k : asgT m1 t x r = some r') : evS g (.asg t a) r m = .ok (.next, r', m1) := by rw [evS, h, atF_ok, bind_ok]; show (ofO _).bind _ = _; rw [k]; rfl
theorem s_seti (h : evE g e r m = .ok (x, m1)) (ha : evE g a r m1 = .ok (y, m2)) (hi : evE g i r m2 = .ok (z, m3)) (k : setD y z x m3 = .ok m4) : evS g (.seti a i e) r m = .ok (.next, r, m4) := by
  rw [evS, h, noX_ok, bind_ok]
  show (noX (evE g a r m1)).bind _ = _
  rw [ha, noX_ok, bind_ok]
  show (noX (evE g i r m2)).bind _ = _
  rw [hi, noX_ok, bind_ok]
  show (noX (setD y z x m3)).bind _ = _
  rw [k]; rfl
theorem s_retE (h : evE g a r m = .ok (x, m1)) : evS g (.ret a) r m = .ok (.ret x, r, m1) := by rw [evS, h, atF_ok, bind_ok]
theorem s_if {k : Bool} {u w : Ss} (h : evE g c r m = .ok (.bl k, m1)) (hk : (if k = true then evSs g u r m1 else evSs g w r m1) = R) : evS g (.if_ c u w) r m = R := by rw [evS, h, bind_ok]; exact hk
end
/-! ### operators -/
section
variable {m : Store} {f : Bool} {i j : Int}
theorem o_add : binD f .add (.int i) (.int j) m = .ok (.int (i + j), m) := rfl
theorem o_mul (h : mulOk i j) : binD f .mul (.int i) (.int j) m = .ok (.int (i * j), m) := if_pos h
theorem o_fdiv (h : 0 < j) (h2 : j.natAbs.log2 < 9000) : binD f .fdiv (.int i) (.int j) m = .ok (.int (i / j), m) := if_pos ⟨h, h2⟩
theorem o_mod (h : 0 < j) : binD f .mod (.int i) (.int j) m = .ok (.int (i % j), m) := if_pos h
theorem o_ixL {l : Nat} {xs : List D} {k : Nat} {d : D} (h : m[l]? = some (.lst xs)) (hd : xs[k]? = some d) : ixD (.loc l) (.int k) m = .ok (d, m) := by
  have hk := (List.getElem?_eq_some_iff.mp hd).1
  show ixC (.loc l) (.int k) m = _
  have e1 : dctV m (.loc l) = none := by simp [dctV, h]
  have e2 : seqV m (.loc l) = some xs := by simp [seqV, lstV, h]
  have e3 : ixN xs.length (k : Int) = some k := by unfold ixN; rw [if_pos (by omega), if_pos (by omega)]; simp
  simp [ixC, e1, e2, ixS, e3, hd]
end
end DV

end
section
set_option Elab.async false
set_option linter.all false
set_option maxRecDepth 100000
set_option autoImplicit false
set_option maxHeartbeats 2000000
/-! The draws. -/
namespace DV
open PySem (Str)
def dTake : FD := ⟨2, 4, true, .cons (.if_ (.cmp .gt (.idx (.var 0) (.int 0)) (.int 0)) (.cons (.asg (.name 2) (.bin false .mod (.idx (.var 0) (.int 0)) (.var 1))) (.cons (.seti (.var 0) (.int 0) (.bin false .fdiv (.idx (.var 0) (.int 0)) (.var 1))) (.cons (.ret (.var 2)) .nil))) .nil) (.cons (.seti (.var 0) (.int 2) (.bin false .add (.idx (.var 0) (.int 2)) (.int 1))) (.cons (.asg (.name 3) (.bin false .mod (.bin false .mul (.bin false .add (.bin false .add (.idx (.var 0) (.int 1)) (.bin false .mul (.bin false .mul (.int 65537) (.idx (.var 0) (.int 2))) (.idx (.var 0) (.int 2)))) (.int 11)) (.int 48271)) (.int 2305843009213693921))) (.cons (.asg (.name 3) (.bin false .mod (.bin false .mul (.var 3) (.bin false .add (.bin false .mod (.var 3) (.int 1000003)) (.bin false .mul (.int 99991) (.idx (.var 0) (.int 2))))) (.int 2305843009213693907))) (.cons (.ret (.bin false .mod (.bin false .add (.bin false .fdiv (.var 3) (.int 97)) (.bin false .fdiv (.var 3) (.int 1000033))) (.var 1))) .nil))))⟩
section
variable {m : Store} {l : Nat} {h : Hand} {n : Int} {v : Int}
theorem hand0 (hl : l < m.length) : ixD (.loc l) (.int 0) (stoH m l h) = .ok (.int h.great, stoH m l h) := o_ixL (k := 0) (stoH_get hl) rfl
theorem hand1 (hl : l < m.length) : ixD (.loc l) (.int 1) (stoH m l h) = .ok (.int h.seed, stoH m l h) := o_ixL (k := 1) (stoH_get hl) rfl
theorem hand2 (hl : l < m.length) : ixD (.loc l) (.int 2) (stoH m l h) = .ok (.int h.cnt, stoH m l h) := o_ixL (k := 2) (stoH_get hl) rfl
theorem put0 (hl : l < m.length) : setD (.loc l) (.int 0) (.int v) (stoH m l h) = .ok (stoH m l { h with great := v }) := by
  have e := stoH_get (h := h) hl
  simp only [setD, e, Hand.enc, setL]
  have e2 : ixN ([D.int h.great, .int h.seed, .int h.cnt] : List D).length 0 = some 0 := rfl
  rw [e2]
  exact congrArg Res.ok (stoH_set (h' := { h with great := v }))
theorem put2 (hl : l < m.length) : setD (.loc l) (.int 2) (.int v) (stoH m l h) = .ok (stoH m l { h with cnt := v }) := by
  have e := stoH_get (h := h) hl
  simp only [setD, e, Hand.enc, setL]
  have e2 : ixN ([D.int h.great, .int h.seed, .int h.cnt] : List D).length 2 = some 2 := rfl
  rw [e2]
  exact congrArg Res.ok (stoH_set (h' := { h with cnt := v }))
/-- the mixed number behind a hand that has no figure left -/
def mix1 (s c : Int) : Int := (s + 65537 * c * c + 11) * 48271 % 2305843009213693921
def mix2 (s c : Int) : Int := mix1 s c * (mix1 s c % 1000003 + 99991 * c) % 2305843009213693907
def dig (h : Hand) (n : Int) : Int := if 0 < h.great then h.great % n else (mix2 h.seed (h.cnt + 1) / 97 + mix2 h.seed (h.cnt + 1) / 1000033) % n
def nxt (h : Hand) (n : Int) : Hand := if 0 < h.great then { h with great := h.great / n } else { h with cnt := h.cnt + 1 }
theorem dig_lt (h : Hand) (n0 : 0 < n) : 0 ≤ dig h n ∧ dig h n < n := by
  unfold dig
  split
  · exact ⟨Int.emod_nonneg _ (by omega), Int.emod_lt_of_pos _ n0⟩
  · exact ⟨Int.emod_nonneg _ (by omega), Int.emod_lt_of_pos _ n0⟩
theorem nxt_ok (ho : h.Ok) (n0 : 0 < n) (hc : h.cnt + 1 < 2 ^ 40) : (nxt h n).Ok ∧ (nxt h n).cnt ≤ h.cnt + 1 := by
  obtain ⟨g0, s0, s1, c0, c1⟩ := ho
  unfold nxt
  split
  · exact ⟨⟨Int.ediv_nonneg g0 (by omega), s0, s1, c0, c1⟩, by show h.cnt ≤ h.cnt + 1; omega⟩
  · exact ⟨⟨g0, s0, s1, by show 0 ≤ h.cnt + 1; omega, hc⟩, by show h.cnt + 1 ≤ h.cnt + 1; omega⟩
def endD (c : Bool) (m m' : Store) : Fl → RD
  | .ret d => finR c d m m'
  | .next => finR c .non m m'
  | _ => .err
theorem runF_of {g : G} {fd : FD} {xs : List D} {fl : Fl} {r : Fr} {m' : Store} {R : RD} (hn : xs.length = fd.np) (h : evSs g fd.body (xs.map some ++ List.replicate (fd.ns - fd.np) none) m = .ok (fl, r, m'))
    (k : endD fd.clean m m' fl = R) : runF g fd xs m = R := by
  unfold runF need
  rw [if_pos hn, h]
  cases fl <;> exact k
theorem fin_sto {c : Bool} {d : D} {h' : Hand} (ok : StOk m) (hd : d.under m.length = true) : endD c (stoH m l h) (stoH m l h') (.ret d) = .ok (d, stoH m l h') :=
  fin_same (by rw [stoH_len, stoH_len]) (stoH_ok ok) (by rw [stoH_len]; exact hd)
theorem take_run {g : G} (hl : l < m.length) (ok : StOk m) (ho : h.Ok) (hc : h.cnt + 1 < 2 ^ 40) (n0 : 0 < n) (n1 : n.natAbs.log2 < 9000) :
    runF g dTake [.loc l, .int n] (stoH m l h) = .ok (.int (dig h n), stoH m l (nxt h n)) := by
  obtain ⟨g0, s0, s1, c0, c1⟩ := ho
  by_cases hg : 0 < h.great
  · have e1 : dig h n = h.great % n := by unfold dig; rw [if_pos hg]
    have e2 : nxt h n = { h with great := h.great / n } := by unfold nxt; rw [if_pos hg]
    rw [e1, e2]
    refine' runF_of (fl := .ret _) rfl (s_ret (s_if (x_cmp (x_idx (x_var rfl) x_int (hand0 hl)) x_int rfl) ?c)) ?k
    case c =>
      rw [if_pos (decide_eq_true hg)]
      exact s_next (s_asg (x_bin (x_idx (x_var rfl) x_int (hand0 hl)) (x_var rfl) (o_mod n0)) rfl)
        (s_next (s_seti (x_bin (x_idx (x_var rfl) x_int (hand0 hl)) (x_var rfl) (o_fdiv n0 n1)) (x_var rfl) x_int (put0 hl)) (s_ret (s_retE (x_var rfl))))
    case k => exact fin_sto ok rfl
  · have e1 : dig h n = (mix2 h.seed (h.cnt + 1) / 97 + mix2 h.seed (h.cnt + 1) / 1000033) % n := by unfold dig; rw [if_neg hg]
    have e2 : nxt h n = { h with cnt := h.cnt + 1 } := by unfold nxt; rw [if_neg hg]
    rw [e1, e2]
    have m1 : 0 ≤ mix1 h.seed (h.cnt + 1) ∧ mix1 h.seed (h.cnt + 1) < 2305843009213693921 := ⟨Int.emod_nonneg _ (by decide), Int.emod_lt_of_pos _ (by decide)⟩
    have a2 : mulOk (65537 * (h.cnt + 1)) (h.cnt + 1) := .inl (.inr (by omega))
    have a5 : mulOk (mix1 h.seed (h.cnt + 1)) (mix1 h.seed (h.cnt + 1) % 1000003 + 99991 * (h.cnt + 1)) := .inl (.inl (by omega))
    refine runF_of (fl := .ret _) (by rfl) (s_next (s_if (x_cmp (x_idx (x_var (by rfl)) x_int (hand0 hl)) x_int (by rfl)) (by rw [if_neg (by simp; omega)]; exact s_nil))
      (s_next (s_seti (x_bin (x_idx (x_var (by rfl)) x_int (hand2 hl)) x_int o_add) (x_var (by rfl)) x_int (put2 hl))
      (s_next (s_asg (x_bin (x_bin (x_bin (x_bin (x_idx (x_var (by rfl)) x_int (hand1 hl)) (x_bin (x_bin x_int (x_idx (x_var (by rfl)) x_int (hand2 hl)) (o_mul (.inl (.inl (by decide))))) (x_idx (x_var (by rfl)) x_int (hand2 hl)) (o_mul a2)) o_add) x_int o_add) x_int (o_mul (.inl (.inr (by decide))))) x_int (o_mod (by decide))) (by rfl))
      (s_next (s_asg (x_bin (x_bin (x_var (by rfl)) (x_bin (x_bin (x_var (by rfl)) x_int (o_mod (by decide))) (x_bin x_int (x_idx (x_var (by rfl)) x_int (hand2 hl)) (o_mul (.inl (.inl (by decide))))) o_add) (o_mul a5)) x_int (o_mod (by decide))) (by rfl))
      (s_ret (s_retE (x_bin (x_bin (x_bin (x_var (by rfl)) x_int (o_fdiv (by decide) (by decide))) (x_bin (x_var (by rfl)) x_int (o_fdiv (by decide) (by decide))) o_add) (x_var (by rfl)) (o_mod n0)))))))) (by exact fin_sto ok (by rfl))
end
end DV

end
section
set_option Elab.async false
set_option linter.all false
set_option maxRecDepth 100000
set_option autoImplicit false
set_option maxHeartbeats 2000000
/-! Picking; the hand laid. -/
namespace DV
open PySem (Str)
def dPick : FD := ⟨2, 2, true, .cons (.ret (.idx (.var 1) (.call "_law_take" (.cons (.var 0) (.cons (.bi false .len (.cons (.var 1) .nil)) .nil))))) .nil⟩
section
variable {m : Store} {l : Nat} {h : Hand} {n : Int} {v : Int}
def pk (h : Hand) (xs : List D) : D := xs.getD (dig h xs.length).toNat .non
end
end DV

end
section
set_option Elab.async false
set_option linter.all false
set_option maxRecDepth 100000
set_option autoImplicit false
set_option maxHeartbeats 2000000
set_option exponentiation.threshold 2000
/-! The hand laid. -/
namespace DV
open PySem (Str)
section
variable {m : Store} {f : Bool} {i j : Int}
end
end DV

end
section
set_option Elab.async false
set_option linter.all false
set_option maxRecDepth 100000
set_option autoImplicit false
set_option maxHeartbeats 2000000
/-! Comprehensions and loops, plainly. -/
namespace DV
open PySem (Str)
section
variable {m : Store} {l : Nat}
theorem rng_mem {a : Int} {n : Nat} {x : D} (h : x ∈ rngL a n 1) : ∃ i : Int, x = .int i ∧ a ≤ i ∧ i < a + n := by
  simp only [rngL, List.mem_map, List.mem_range] at h
  obtain ⟨i, hi, rfl⟩ := h
  exact ⟨_, rfl, by omega, by omega⟩
end
end DV

end
section
set_option Elab.async false
set_option linter.all false
set_option maxRecDepth 100000
set_option autoImplicit false
set_option maxHeartbeats 2000000
/-! Draws inside expressions. -/
namespace DV
section
variable {g g' g2 : G} {m : Store} {l i : Nat} {h h' : Hand} {n : Int} {a : E} {r : Fr} {xs : List D}
/-- a hand that may draw on -/
structure Hand.Go (h : Hand) (c : Int) : Prop where
  ok : h.Ok
  le : h.cnt ≤ c
theorem Go.next {c : Int} (hg : h.Go c) (n0 : 0 < n) (hc : c + 1 < 2 ^ 40) : (nxt h n).Go (c + 1) := by
  have q := nxt_ok hg.ok n0 (by have := hg.le; omega)
  exact ⟨q.1, by have := q.2; have := hg.le; omega⟩
end
end DV

end
section
set_option Elab.async false
set_option linter.all false
set_option maxRecDepth 100000
set_option autoImplicit false
set_option maxHeartbeats 2000000
/-! What an evaluation comes to (V), rule by rule: the tactic wp walks. -/
namespace DV.V0
open DV
open PySem (Str)
section
variable {α β : Type}
def V (v : Res α) (Q : α → Prop) : Prop := ∃ a, v = .ok a ∧ Q a
theorem V.mono {v : Res α} {P Q : α → Prop} (h : V v P) (k : ∀ a, P a → Q a) : V v Q := by
  obtain ⟨a, e, p⟩ := h
  exact ⟨a, e, k a p⟩
theorem V.and {v : Res α} {P Q : α → Prop} (h : V v P) (k : V v Q) : V v fun a => P a ∧ Q a := by
  obtain ⟨a, e, p⟩ := h
  obtain ⟨b, e', q⟩ := k
  rw [e] at e'
  cases e'
  exact ⟨a, e, p, q⟩
theorem W_ok {a : α} {Q : α → Prop} : V (.ok a) Q ↔ Q a := ⟨fun ⟨b, e, q⟩ => by cases e; exact q, fun h => ⟨a, rfl, h⟩⟩
theorem W_bind {v : Res α} {f : α → Res β} {Q : β → Prop} : V (v.bind f) Q ↔ V v fun a => V (f a) Q := by
  cases v with
  | ok a => rw [bind_ok, W_ok]
  | exc c x r m => exact ⟨fun ⟨b, e, q⟩ => (nomatch e), fun ⟨b, e, q⟩ => (nomatch e)⟩
  | err => exact ⟨fun ⟨b, e, q⟩ => (nomatch e), fun ⟨b, e, q⟩ => (nomatch e)⟩
theorem W_atF {k : Bool} {r : Fr} {v : Res α} {Q : α → Prop} : V (atF k r v) Q ↔ V v Q := by
  cases v with
  | ok a => exact Iff.rfl
  | exc c fs r' m =>
    refine ⟨fun ⟨b, e, q⟩ => ?_, fun ⟨b, e, q⟩ => (nomatch e)⟩
    cases k
    · exact nomatch e
    · exact nomatch e
  | err => exact Iff.rfl
theorem W_noX {v : Res α} {Q : α → Prop} : V (noX v) Q ↔ V v Q := by
  cases v with
  | ok a => exact Iff.rfl
  | exc c fs r' m => exact ⟨fun ⟨b, e, q⟩ => (nomatch e), fun ⟨b, e, q⟩ => (nomatch e)⟩
  | err => exact Iff.rfl
theorem W_need {c : Prop} [Decidable c] {v : Res α} {Q : α → Prop} : V (need c v) Q ↔ c ∧ V v Q := by
  unfold need
  split
  · rename_i h; exact ⟨fun q => ⟨h, q⟩, fun q => q.2⟩
  · rename_i h; exact ⟨fun ⟨b, e, q⟩ => (nomatch e), fun q => absurd q.1 h⟩
/-- a value looked up -/
def VO (o : Option α) (Q : α → Prop) : Prop := ∃ a, o = some a ∧ Q a
theorem WO_some {a : α} {Q : α → Prop} : VO (some a) Q ↔ Q a := ⟨fun ⟨b, e, q⟩ => by cases e; exact q, fun h => ⟨a, rfl, h⟩⟩
/-- a way: its test, then both ways -/
def Vay (b : Bool) (P Q : Prop) : Prop := (b = true → P) ∧ (b = false → Q)
theorem Way_t {P Q : Prop} : Vay true P Q ↔ P := ⟨fun h => h.1 rfl, fun h => ⟨fun _ => h, fun e => (nomatch e)⟩⟩
theorem Way_f {P Q : Prop} : Vay false P Q ↔ Q := ⟨fun h => h.2 rfl, fun h => ⟨fun e => (nomatch e), fun _ => h⟩⟩
theorem W_way {b : Bool} {u v : Res α} {Q : α → Prop} : V (if b = true then u else v) Q ↔ Vay b (V u Q) (V v Q) := by
  cases b
  · rw [Way_f]; exact Iff.rfl
  · rw [Way_t]; exact Iff.rfl
/-- a side condition -/
def Vd (c P : Prop) : Prop := c ∧ P
theorem Sd_t {P : Prop} : Vd True P ↔ P := ⟨fun h => h.2, fun h => ⟨trivial, h⟩⟩
theorem W_sd {c : Prop} [Decidable c] {v : Res α} {Q : α → Prop} : V (need c v) Q ↔ Vd c (V v Q) := W_need
theorem sd {c P : Prop} (h : c) (k : P) : Vd c P := ⟨h, k⟩
theorem way {b : Bool} {P Q : Prop} (h : b = true → P) (k : b = false → Q) : Vay b P Q := ⟨h, k⟩
end
section
variable {g : G} {r r' : Fr} {m : Store} {a b c e i : E} {f : Bool} {Q : D × Store → Prop}
theorem we_var {i : Nat} : V (evE g (.var i) r m) Q ↔ VO r[i]? fun o => VO o fun d => Q (d, m) := by
  rw [evE]
  match r[i]? with
  | none => exact ⟨fun ⟨b, e, q⟩ => (nomatch e), fun ⟨b, e, q⟩ => (nomatch e)⟩
  | some none => exact ⟨fun ⟨b, e, q⟩ => (nomatch e), fun ⟨b, e, c, e', q⟩ => by cases e; cases e'⟩
  | some (some d) => rw [W_ok, WO_some, WO_some]
theorem we_int {n : Int} : V (evE g (.int n) r m) Q ↔ Q (.int n, m) := by rw [evE, W_ok]
theorem we_bl {n : Bool} : V (evE g (.bl n) r m) Q ↔ Q (.bl n, m) := by rw [evE, W_ok]
theorem we_str {n : Str} : V (evE g (.str n) r m) Q ↔ Q (.str n, m) := by rw [evE, W_ok]
theorem we_non : V (evE g .non r m) Q ↔ Q (.non, m) := by rw [evE, W_ok]
theorem we_con {n : Str} : V (evE g (.con n) r m) Q ↔ VO (g.con n) fun d => Q (d, m) := by
  rw [evE]
  match g.con n with
  | none => exact ⟨fun ⟨b, e, q⟩ => (nomatch e), fun ⟨b, e, q⟩ => (nomatch e)⟩
  | some d => rw [W_ok, WO_some]
theorem we_bin {o : BOp} : V (evE g (.bin f o a b) r m) Q ↔ V (evE g a r m) fun p => V (evE g b r p.2) fun q => V (binD f o p.1 q.1 q.2) Q := by
  rw [evE, W_bind]; simp only [W_bind]
def _root_.DV.negD : D → Store → RD
  | .int i, m => .ok (.int (-i), m)
  | _, _ => .err
theorem we_neg : V (evE g (.neg a) r m) Q ↔ V (evE g a r m) fun p => V (negD p.1 p.2) Q := by
  rw [evE, W_bind]
  refine ⟨fun h => h.mono fun p q => ?_, fun h => h.mono fun p q => ?_⟩
  · obtain ⟨d, s⟩ := p; cases d <;> exact q
  · obtain ⟨d, s⟩ := p; cases d <;> exact q
theorem we_cmp {o : COp} : V (evE g (.cmp o a b) r m) Q ↔ V (evE g a r m) fun p => V (evE g b r p.2) fun q => V (cmpB o p.1 q.1 q.2) fun k => Q (.bl k, q.2) := by
  rw [evE, W_bind]; simp only [W_bind, W_ok]
theorem we_cmp2 {o o' : COp} : V (evE g (.cmp2 o o' a b c) r m) Q ↔ V (evE g a r m) fun p => V (evE g b r p.2) fun q => V (cmpB o p.1 q.1 q.2) fun k => Vay k (V (evE g c r q.2) fun s => V (cmpB o' q.1 s.1 s.2) fun k => Q (.bl k, s.2)) (Q (.bl false, q.2)) := by
  rw [evE, W_bind]; simp only [W_bind, W_way, W_ok]
theorem we_isN : V (evE g (.isN a) r m) Q ↔ V (evE g a r m) fun p => Q (.bl (isNon p.1), p.2) := by rw [evE, W_bind]; simp only [W_ok]
theorem we_notN : V (evE g (.notN a) r m) Q ↔ V (evE g a r m) fun p => Q (.bl (!isNon p.1), p.2) := by rw [evE, W_bind]; simp only [W_ok]
def _root_.DV.isBool (d : D) : Res Bool := isB d fun b => .ok b
theorem W_isB {α : Type} {d : D} {k : Bool → Res α} {Q : α → Prop} : V (isB d k) Q ↔ V (isBool d) fun b => V (k b) Q := by
  unfold isBool
  cases d <;> simp only [isB, W_ok] <;> exact ⟨fun ⟨b, e, q⟩ => (nomatch e), fun ⟨b, e, q⟩ => (nomatch e)⟩
theorem isBool_bl {b : Bool} : isBool (.bl b) = .ok b := rfl
theorem we_not : V (evE g (.not a) r m) Q ↔ V (evE g a r m) fun p => V (isBool p.1) fun k => Q (.bl (!k), p.2) := by rw [evE, W_bind]; simp only [W_isB, W_ok]
theorem we_ife : V (evE g (.ife c a b) r m) Q ↔ V (evE g c r m) fun p => V (isBool p.1) fun k => Vay k (V (evE g a r p.2) Q) (V (evE g b r p.2) Q) := by rw [evE, W_bind]; simp only [W_isB, W_way]
theorem we_and {es : Es} : V (evE g (.and es) r m) Q ↔ V (evAnd g es r m) Q := by rw [evE]
theorem we_or {es : Es} : V (evE g (.or es) r m) Q ↔ V (evOr g es r m) Q := by rw [evE]
theorem we_and1 : V (evAnd g (.cons a .nil) r m) Q ↔ V (evE g a r m) Q := by rw [evAnd]
theorem we_or1 : V (evOr g (.cons a .nil) r m) Q ↔ V (evE g a r m) Q := by rw [evOr]
theorem we_and2 {es : Es} : V (evAnd g (.cons a (.cons b es)) r m) Q ↔ V (evE g a r m) fun p => V (isBool p.1) fun k => Vay k (V (evAnd g (.cons b es) r p.2) Q) (Q (.bl false, p.2)) := by rw [evAnd, W_bind]; simp only [W_isB, W_way, W_ok]
theorem we_or2 {es : Es} : V (evOr g (.cons a (.cons b es)) r m) Q ↔ V (evE g a r m) fun p => V (isBool p.1) fun k => Vay k (Q (.bl true, p.2)) (V (evOr g (.cons b es) r p.2) Q) := by rw [evOr, W_bind]; simp only [W_isB, W_way, W_ok]
theorem we_tup {es : Es} : V (evE g (.tup es) r m) Q ↔ V (evEs g es r m) fun p => Vd (p.1.length ≤ sizeMax) (Q (.tup p.1, p.2)) := by rw [evE, W_bind]; simp only [newT, W_sd, W_ok]
theorem we_lst {es : Es} : V (evE g (.lst false es) r m) Q ↔ V (evEs g es r m) fun p => Vd (p.1.length ≤ sizeMax) (Q (.lst p.1, p.2)) := by rw [evE, W_bind]; simp only [newL, W_sd, if_neg Bool.false_ne_true, W_ok]
theorem we_lstN {es : Es} : V (evE g (.lst true es) r m) Q ↔ V (evEs g es r m) fun p => Vd (p.1.length ≤ sizeMax) (Q (.loc p.2.length, p.2 ++ [.lst p.1])) := by rw [evE, W_bind]; simp only [newL, W_sd, if_pos, W_ok]
theorem we_dct {ps : Ps} : V (evE g (.dct f ps) r m) Q ↔ V (evDct g f ps r m []) Q := by rw [evE]
theorem we_idx : V (evE g (.idx a i) r m) Q ↔ V (evE g a r m) fun p => V (evE g i r p.2) fun q => V (ixD p.1 q.1 q.2) Q := by rw [evE, W_bind]; simp only [W_bind]
theorem we_slc {lo hi : Oe} : V (evE g (.slc f a lo hi) r m) Q ↔ V (evE g a r m) fun p => V (evO g lo r p.2) fun q => V (evO g hi r q.2) fun s => V (slD f p.1 q.1 s.1 s.2) Q := by rw [evE, W_bind]; simp only [W_bind]
theorem we_call {n : String} {es : Es} : V (evE g (.call n es) r m) Q ↔ V (evEs g es r m) fun p => V (g.fn n p.1 p.2) Q := by rw [evE, W_bind]
theorem we_bi {k : Bi} {es : Es} : V (evE g (.bi f k es) r m) Q ↔ V (evEs g es r m) fun p => V (biD f k p.1 p.2) Q := by rw [evE, W_bind]
theorem we_mt {t : Mt} {es : Es} : V (evE g (.mt f t a es) r m) Q ↔ V (evE g a r m) fun p => Vd (recvOk t p.1 p.2 = true) (V (evEs g es r p.2) fun q => V (mtD f t p.1 q.1 q.2) Q) := by rw [evE, W_bind]; simp only [W_sd, W_bind]
theorem we_nil {Q : List D × Store → Prop} : V (evEs g .nil r m) Q ↔ Q ([], m) := by rw [evEs, W_ok]
theorem we_cons {es : Es} {Q : List D × Store → Prop} : V (evEs g (.cons e es) r m) Q ↔ V (evE g e r m) fun p => V (evEs g es r p.2) fun q => Q (p.1 :: q.1, q.2) := by rw [evEs, W_bind]; simp only [W_bind, W_ok]
theorem we_oN {Q : Option Int × Store → Prop} : V (evO g .none r m) Q ↔ Q (none, m) := by rw [evO, W_ok]
def _root_.DV.isInt (d : D) : Res Int := match d with
  | .int i => .ok i
  | _ => .err
theorem isInt_int {i : Int} : isInt (.int i) = .ok i := rfl
theorem we_oS {Q : Option Int × Store → Prop} : V (evO g (.some e) r m) Q ↔ V (evE g e r m) fun p => V (isInt p.1) fun i => Q (some i, p.2) := by
  rw [evO, W_bind]
  refine ⟨fun h => h.mono fun p q => ?_, fun h => h.mono fun p q => ?_⟩
  · obtain ⟨d, s⟩ := p
    cases d <;> first | (simp only [isInt, W_ok] at q ⊢; exact q) | (obtain ⟨b, e, q⟩ := q; cases e)
  · obtain ⟨d, s⟩ := p
    cases d <;> first | (simp only [isInt, W_ok] at q ⊢; exact q) | (obtain ⟨b, e, q⟩ := q; cases e)
theorem we_cN {Q : Bool × Store → Prop} : V (evC g .none r m) Q ↔ Q (true, m) := by rw [evC, W_ok]
theorem we_cS {Q : Bool × Store → Prop} : V (evC g (.some e) r m) Q ↔ V (evE g e r m) fun p => V (isBool p.1) fun k => Q (k, p.2) := by rw [evC, W_bind]; simp only [W_isB, W_ok]
noncomputable def _root_.DV.turnE (g : G) (t : T) (own : List Nat) (c : Oe) (e : E) (r : Fr) (x : D) (m2 : Store) : Res (Option D × Store) :=
  (ofO (asgT m2 t x (wipe r own))).bind fun r2 => (evC g c r2 m2).bind fun (b, m3) => if b then (evE g e r2 m3).bind fun (y, m4) => .ok (some y, m4) else .ok (none, m3)
theorem we_lc {t : T} {own : List Nat} {it : I} {c : Oe} : V (evE g (.lc f t own it c e) r m) Q ↔ V (evI g it r m) fun p => V (loopL p.1.still (turnE g t own c e r) p.1.items [] p.2) fun q => V (newL f q.1 q.2) Q := by
  rw [evE, W_bind]
  simp only [W_bind]
  exact Iff.rfl
theorem W_ofO {α : Type} {o : Option α} {Q : α → Prop} : V (ofO o) Q ↔ VO o Q := by
  cases o with
  | none => exact ⟨fun ⟨b, e, q⟩ => (nomatch e), fun ⟨b, e, q⟩ => (nomatch e)⟩
  | some d => rw [WO_some]; exact W_ok
theorem we_turn {t : T} {own : List Nat} {c : Oe} {x : D} {Q : Option D × Store → Prop} : V (turnE g t own c e r x m) Q ↔ VO (asgT m t x (wipe r own)) fun r2 => V (evC g c r2 m) fun p => Vay p.1 (V (evE g e r2 p.2) fun q => Q (some q.1, q.2)) (Q (none, p.2)) := by
  unfold turnE
  rw [W_bind, W_ofO]
  simp only [W_bind, W_way, W_ok]
theorem we_seq {Q : Src × Store → Prop} : V (evI g (.seq e) r m) Q ↔ V (evE g e r m) fun p => V (seqI p.1 p.2) Q := by rw [evI, W_bind]
theorem we_rng1 {Q : Src × Store → Prop} : V (evI g (.rng1 a) r m) Q ↔ V (evE g a r m) fun p => V (isInt p.1) fun i => Vd (small62 i) (Q (⟨rngL 0 i.toNat 1, fun _ => True⟩, p.2)) := by
  rw [evI, W_bind]
  refine ⟨fun h => h.mono fun p q => ?_, fun h => h.mono fun p q => ?_⟩
  · obtain ⟨d, s⟩ := p
    cases d <;> first | (simp only [isInt, W_ok, W_sd] at q ⊢; exact q) | exact (by obtain ⟨b, e, q⟩ := q; exact nomatch e)
  · obtain ⟨d, s⟩ := p
    cases d <;> first | (simp only [isInt, W_ok, W_sd] at q ⊢; exact q) | exact (by obtain ⟨b, e, q⟩ := q; exact nomatch e)
theorem we_rng2 {Q : Src × Store → Prop} : V (evI g (.rng2 a b) r m) Q ↔ V (evE g a r m) fun p => V (evE g b r p.2) fun q => V (isInt p.1) fun i => V (isInt q.1) fun j => Vd (small62 i ∧ small62 j) (Q (⟨rngL i (j - i).toNat 1, fun _ => True⟩, q.2)) := by
  rw [evI, W_bind]
  simp only [W_bind]
  refine ⟨fun h => h.mono fun p q => q.mono fun p' q' => ?_, fun h => h.mono fun p q => q.mono fun p' q' => ?_⟩
  · obtain ⟨d, s⟩ := p
    obtain ⟨d', s'⟩ := p'
    cases d <;> cases d' <;> first | (simp only [isInt, W_ok, W_sd] at q' ⊢; exact q') | exact (by obtain ⟨b, e, q⟩ := q'; cases e)
  · obtain ⟨d, s⟩ := p
    obtain ⟨d', s'⟩ := p'
    cases d <;> cases d' <;> first | (simp only [isInt, W_ok, W_sd] at q' ⊢; exact q') | (simp only [isInt, W_ok] at q'; obtain ⟨b, e, q⟩ := q'; cases e)
theorem we_rng3 {Q : Src × Store → Prop} : V (evI g (.rng3 a b c) r m) Q ↔ V (evE g a r m) fun p => V (evE g b r p.2) fun q => V (evE g c r q.2) fun s => V (isInt p.1) fun i => V (isInt q.1) fun j => V (isInt s.1) fun k => V (rng3D i j k s.2) Q := by
  rw [evI, W_bind]
  simp only [W_bind]
  refine ⟨fun h => h.mono fun p q => q.mono fun p' q' => q'.mono fun p2 q2 => ?_, fun h => h.mono fun p q => q.mono fun p' q' => q'.mono fun p2 q2 => ?_⟩
  · obtain ⟨d, s⟩ := p
    obtain ⟨d', s'⟩ := p'
    obtain ⟨d2, s2⟩ := p2
    cases d <;> first | (cases d' <;> first | (cases d2 <;> first | (simp only [isInt, W_ok, W_sd] at q2 ⊢; exact q2) | exact (by obtain ⟨b, e, q⟩ := q2; cases e)) | exact (by obtain ⟨b, e, q⟩ := q2; cases e)) | exact (by obtain ⟨b, e, q⟩ := q2; cases e)
  · obtain ⟨d, s⟩ := p
    obtain ⟨d', s'⟩ := p'
    obtain ⟨d2, s2⟩ := p2
    cases d <;> first | (simp only [isInt, W_ok] at q2; cases d' <;> first | (simp only [W_ok] at q2; cases d2 <;> first | (simp only [isInt, W_ok, W_sd] at q2 ⊢; exact q2) | (simp only [W_ok] at q2; obtain ⟨b, e, q⟩ := q2; cases e)) | (obtain ⟨b, e, q⟩ := q2; cases e)) | (obtain ⟨b, e, q⟩ := q2; cases e)
theorem we_enum {Q : Src × Store → Prop} : V (evI g (.enum e) r m) Q ↔ V (evE g e r m) fun p => VO (seqV p.2 p.1) fun xs => Q (⟨enumL xs, fun m' => seqV m' p.1 = some xs⟩, p.2) := by
  rw [evI, W_bind]
  refine ⟨fun h => h.mono fun p q => ?_, fun h => h.mono fun p q => ?_⟩
  · obtain ⟨d, s⟩ := p
    simp only at q ⊢
    cases hh : seqV s d with
    | none => rw [hh] at q; obtain ⟨b, e, q⟩ := q; cases e
    | some xs => rw [hh] at q; exact WO_some.mpr (W_ok.mp q)
  · obtain ⟨d, s⟩ := p
    obtain ⟨xs, e, q⟩ := q
    simp only at e q ⊢
    rw [e]; exact W_ok.mpr q
theorem we_zip {Q : Src × Store → Prop} : V (evI g (.zip a b) r m) Q ↔ V (evE g a r m) fun p => V (evE g b r p.2) fun q => VO (seqV q.2 p.1) fun xs => VO (seqV q.2 q.1) fun ys => Q (⟨zipL xs ys, fun m' => seqV m' p.1 = some xs ∧ seqV m' q.1 = some ys⟩, q.2) := by
  rw [evI, W_bind]
  simp only [W_bind]
  refine ⟨fun h => h.mono fun p q => q.mono fun p' q' => ?_, fun h => h.mono fun p q => q.mono fun p' q' => ?_⟩
  · obtain ⟨d, s⟩ := p
    obtain ⟨d', s'⟩ := p'
    simp only at q' ⊢
    cases hh : seqV s' d with
    | none => rw [hh] at q'; obtain ⟨b, e, q⟩ := q'; cases e
    | some xs =>
      rw [hh] at q'
      cases h2 : seqV s' d' with
      | none => rw [h2] at q'; obtain ⟨b, e, q⟩ := q'; cases e
      | some ys => rw [h2] at q'; exact WO_some.mpr (WO_some.mpr (W_ok.mp q'))
  · obtain ⟨d, s⟩ := p
    obtain ⟨d', s'⟩ := p'
    obtain ⟨xs, e, ys, e', q⟩ := q'
    simp only at e e' q ⊢
    rw [e, e']; exact W_ok.mpr q
theorem W_newL0 {xs : List D} : V (newL false xs m) Q ↔ Vd (xs.length ≤ sizeMax) (Q (.lst xs, m)) := by simp only [newL, W_sd, if_neg Bool.false_ne_true, W_ok]
theorem W_newL1 {xs : List D} : V (newL true xs m) Q ↔ Vd (xs.length ≤ sizeMax) (Q (.loc m.length, m ++ [.lst xs])) := by simp only [newL, W_sd, if_pos, W_ok]
theorem W_newT {xs : List D} : V (newT xs m) Q ↔ Vd (xs.length ≤ sizeMax) (Q (.tup xs, m)) := by simp only [newT, W_sd, W_ok]
end
/-! ### statements -/
section
variable {g : G} {r r' : Fr} {m : Store} {a b c e i : E} {s : S} {ss u w : Ss} {Q : Fl × Fr × Store → Prop}
theorem ws_nil : V (evSs g .nil r m) Q ↔ Q (.next, r, m) := by rw [evSs, W_ok]
/-- what stands behind a statement -/
def onward (g : G) (ss : Ss) (Q : Fl × Fr × Store → Prop) : Fl → Fr → Store → Prop
  | .next, r, m => V (evSs g ss r m) Q
  | .ret d, r, m => Q (.ret d, r, m)
  | .brk, r, m => Q (.brk, r, m)
  | .cont, r, m => Q (.cont, r, m)
theorem ow_next : onward g ss Q .next r m ↔ V (evSs g ss r m) Q := Iff.rfl
theorem ow_ret {d : D} : onward g ss Q (.ret d) r m ↔ Q (.ret d, r, m) := Iff.rfl
theorem ow_brk : onward g ss Q .brk r m ↔ Q (.brk, r, m) := Iff.rfl
theorem ow_cont : onward g ss Q .cont r m ↔ Q (.cont, r, m) := Iff.rfl
theorem ws_cons : V (evSs g (.cons s ss) r m) Q ↔ V (evS g s r m) fun p => onward g ss Q p.1 p.2.1 p.2.2 := by
  rw [evSs, W_bind]
  refine ⟨fun h => h.mono fun p q => ?_, fun h => h.mono fun p q => ?_⟩
  · obtain ⟨fl, r, m⟩ := p; cases fl <;> simp only [W_ok] at q <;> exact q
  · obtain ⟨fl, r, m⟩ := p; cases fl <;> simp only [W_ok] <;> exact q
theorem ws_asg {t : T} : V (evS g (.asg t e) r m) Q ↔ V (evE g e r m) fun p => VO (asgT p.2 t p.1 r) fun r' => Q (.next, r', p.2) := by rw [evS, W_bind, W_atF]; simp only [W_bind, W_ofO, W_ok]
theorem ws_par {ts : List Nat} {es : Es} : V (evS g (.par ts es) r m) Q ↔ V (evEs g es r m) fun p => VO (setEach ts p.1 r) fun r' => Q (.next, r', p.2) := by rw [evS, W_bind, W_noX]; simp only [W_bind, W_ofO, W_ok]
theorem ws_seti : V (evS g (.seti a i e) r m) Q ↔ V (evE g e r m) fun p => V (evE g a r p.2) fun q => V (evE g i r q.2) fun k => V (setD q.1 k.1 p.1 k.2) fun m4 => Q (.next, r, m4) := by rw [evS, W_bind, W_noX]; simp only [W_bind, W_noX, W_ok]
def _root_.DV.augD (o : BOp) : D → D → Store → RD
  | .int i, .int j, m => binD false o (.int i) (.int j) m
  | _, _, _ => .err
theorem ws_aug {i : Nat} {o : BOp} : V (evS g (.aug i o e) r m) Q ↔ VO r[i]? fun x => VO x fun x => V (evE g e r m) fun p => V (augD o x p.1 p.2) fun q => Q (.next, r.set i (some q.1), q.2) := by
  rw [evS]
  match r[i]? with
  | none => exact ⟨fun ⟨b, e, q⟩ => (nomatch e), fun ⟨b, e, q⟩ => (nomatch e)⟩
  | some none => exact ⟨fun ⟨b, e, q⟩ => (nomatch e), fun ⟨b, e, c, e', q⟩ => by cases e; cases e'⟩
  | some (some x) =>
    rw [WO_some, WO_some]
    simp only [W_bind, W_noX]
    refine ⟨fun h => h.mono fun p q => ?_, fun h => h.mono fun p q => ?_⟩
    · obtain ⟨d, s⟩ := p
      simp only at q ⊢
      cases x <;> first | (cases d <;> first | (simp only [W_bind, W_noX, W_ok, augD] at q ⊢; exact q) | (obtain ⟨b, e, q⟩ := q; cases e)) | (obtain ⟨b, e, q⟩ := q; cases e)
    · obtain ⟨d, s⟩ := p
      simp only at q ⊢
      cases x <;> first | (cases d <;> first | (simp only [W_bind, W_noX, W_ok, augD] at q ⊢; exact q) | (obtain ⟨b, e, q⟩ := q; cases e)) | (obtain ⟨b, e, q⟩ := q; cases e)
theorem ws_augi {o : BOp} : V (evS g (.augi a i o e) r m) Q ↔ V (evE g a r m) fun p => V (evE g i r p.2) fun q => Vd (isDL p.1 q.2 = true) (V (ixD p.1 q.1 q.2) fun z => V (evE g e r z.2) fun v => Vd (isDL p.1 v.2 = true) (V (augD o z.1 v.1 v.2) fun u => V (setD p.1 q.1 u.1 u.2) fun m6 => Q (.next, r, m6))) := by
  rw [evS, W_bind, W_noX]
  simp only [W_bind, W_noX, W_sd]
  refine ⟨fun h => h.mono fun p q => q.mono fun p' q' => ⟨q'.1, q'.2.mono fun p2 q2 => q2.mono fun p3 q3 => ⟨q3.1, ?_⟩⟩, fun h => h.mono fun p q => q.mono fun p' q' => ⟨q'.1, q'.2.mono fun p2 q2 => q2.mono fun p3 q3 => ⟨q3.1, ?_⟩⟩⟩
  · obtain ⟨z, s⟩ := p2
    obtain ⟨v, s'⟩ := p3
    replace q3 := q3.2
    simp only at q3 ⊢
    cases z <;> first | (cases v <;> first | (simp only [W_bind, W_noX, W_ok, augD] at q3 ⊢; exact q3) | (obtain ⟨b, e, q⟩ := q3; cases e)) | (obtain ⟨b, e, q⟩ := q3; cases e)
  · obtain ⟨z, s⟩ := p2
    obtain ⟨v, s'⟩ := p3
    replace q3 := q3.2
    simp only at q3 ⊢
    cases z <;> first | (cases v <;> first | (simp only [W_bind, W_noX, W_ok, augD] at q3 ⊢; exact q3) | (obtain ⟨b, e, q⟩ := q3; cases e)) | (obtain ⟨b, e, q⟩ := q3; cases e)
theorem ws_expr : V (evS g (.expr e) r m) Q ↔ V (evE g e r m) fun p => Q (.next, r, p.2) := by rw [evS, W_bind, W_atF]; simp only [W_ok]
theorem ws_ret : V (evS g (.ret e) r m) Q ↔ V (evE g e r m) fun p => Q (.ret p.1, r, p.2) := by rw [evS, W_bind, W_atF]; simp only [W_ok]
theorem ws_retN : V (evS g .retN r m) Q ↔ Q (.ret .non, r, m) := by rw [evS, W_ok]
theorem ws_pass : V (evS g .pass r m) Q ↔ Q (.next, r, m) := by rw [evS, W_ok]
theorem ws_brk : V (evS g .brk r m) Q ↔ Q (.brk, r, m) := by rw [evS, W_ok]
theorem ws_cont : V (evS g .cont r m) Q ↔ Q (.cont, r, m) := by rw [evS, W_ok]
theorem ws_if : V (evS g (.if_ c u w) r m) Q ↔ V (evE g c r m) fun p => V (isBool p.1) fun k => Vay k (V (evSs g u r p.2) Q) (V (evSs g w r p.2) Q) := by rw [evS, W_bind, W_noX, W_bind]; simp only [W_isB, W_ok, W_way]
noncomputable def _root_.DV.testW (g : G) (c : E) (r : Fr) (m : Store) : Res (Bool × Store) := noX ((evE g c r m).bind fun (x, m1) => isB x fun k => .ok (k, m1))
theorem ws_while : V (evS g (.while_ c u) r m) Q ↔ V (loopW (testW g c) (evSs g u) r m) Q := by rw [evS]; exact Iff.rfl
theorem we_test {Q : Bool × Store → Prop} : V (testW g c r m) Q ↔ V (evE g c r m) fun p => V (isBool p.1) fun k => Q (k, p.2) := by unfold testW; rw [W_noX, W_bind]; simp only [W_isB, W_ok]
noncomputable def _root_.DV.turnS (g : G) (t : T) (u : Ss) (x : D) (r : Fr) (m : Store) : RS := (ofO (asgT m t x r)).bind fun r' => evSs g u r' m
theorem ws_for {t : T} {it : I} : V (evS g (.for_ t it u) r m) Q ↔ V (evI g it r m) fun p => V (loopF p.1.still (turnS g t u) p.1.items r p.2) Q := by rw [evS, W_bind, W_noX]; exact Iff.rfl
theorem ws_turn {t : T} {x : D} : V (turnS g t u x r m) Q ↔ VO (asgT m t x r) fun r' => V (evSs g u r' m) Q := by unfold turnS; rw [W_bind, W_ofO]
end
end DV.V0

end
section
set_option Elab.async false
set_option linter.all false
set_option maxRecDepth 100000
set_option autoImplicit false
set_option maxHeartbeats 2000000
/-! What an evaluation comes to (W), rule by rule, sealed: simp walks no further than it steps. -/
namespace DV
open PySem (Str)
/-- closed -/
inductive Seal {α : Type} (Q : α → Prop) : Type where | s
inductive Seal2 (P Q : Prop) : Type where | s
def W {α : Type} (v : Res α) (Q : α → Prop) (_ : Seal Q := .s) : Prop := V0.V v Q
def WO {α : Type} (v : Option α) (Q : α → Prop) (_ : Seal Q := .s) : Prop := V0.VO v Q
def Way (b : Bool) (P Q : Prop) (_ : Seal2 P Q := .s) : Prop := V0.Vay b P Q
def Sd (c P : Prop) (_ : Seal2 P P := .s) : Prop := V0.Vd c P
section
variable {α β : Type}
theorem W.mono {v : Res α} {P Q : α → Prop} (h : W v P) (k : ∀ a, P a → Q a) : W v Q := V0.V.mono h k
theorem W.and {v : Res α} {P Q : α → Prop} (h : W v P) (k : W v Q) : W v fun a => P a ∧ Q a := V0.V.and h k
theorem W_ok {a : α} {Q : α → Prop} : W (.ok a) Q ↔ Q a := V0.W_ok
theorem W_bind {v : Res α} {f : α → Res β} {Q : β → Prop} : W (v.bind f) Q ↔ W v fun a => W (f a) Q := V0.W_bind
theorem W_need {c : Prop} [Decidable c] {v : Res α} {Q : α → Prop} : W (need c v) Q ↔ c ∧ W v Q := V0.W_need
theorem W_noX {v : Res α} {Q : α → Prop} : W (noX v) Q ↔ W v Q := V0.W_noX
theorem W_atF {k : Bool} {r : Fr} {v : Res α} {Q : α → Prop} : W (atF k r v) Q ↔ W v Q := V0.W_atF
theorem WO_some {a : α} {Q : α → Prop} : WO (some a) Q ↔ Q a := V0.WO_some
theorem Way_t {P Q : Prop} : Way true P Q ↔ P := V0.Way_t
theorem Way_f {P Q : Prop} : Way false P Q ↔ Q := V0.Way_f
theorem W_way {b : Bool} {u v : Res α} {Q : α → Prop} : W (if b = true then u else v) Q ↔ Way b (W u Q) (W v Q) := V0.W_way
theorem Sd_t {P : Prop} : Sd True P ↔ P := V0.Sd_t
theorem W_sd {c : Prop} [Decidable c] {v : Res α} {Q : α → Prop} : W (need c v) Q ↔ Sd c (W v Q) := V0.W_sd
theorem sd {c P : Prop} (h : c) (k : P) : Sd c P := ⟨h, k⟩
theorem way {b : Bool} {P Q : Prop} (h : b = true → P) (k : b = false → Q) : Way b P Q := ⟨h, k⟩
end
section
variable {g : G} {r r' : Fr} {m : Store} {a b c e i : E} {f : Bool} {Q : D × Store → Prop}
theorem we_var {i : Nat} : W (evE g (.var i) r m) Q ↔ WO r[i]? fun o => WO o fun d => Q (d, m) := V0.we_var
theorem we_int {n : Int} : W (evE g (.int n) r m) Q ↔ Q (.int n, m) := V0.we_int
theorem we_bl {n : Bool} : W (evE g (.bl n) r m) Q ↔ Q (.bl n, m) := V0.we_bl
theorem we_str {n : Str} : W (evE g (.str n) r m) Q ↔ Q (.str n, m) := V0.we_str
theorem we_non : W (evE g .non r m) Q ↔ Q (.non, m) := V0.we_non
theorem we_con {n : Str} : W (evE g (.con n) r m) Q ↔ WO (g.con n) fun d => Q (d, m) := V0.we_con
theorem we_bin {o : BOp} : W (evE g (.bin f o a b) r m) Q ↔ W (evE g a r m) fun p => W (evE g b r p.2) fun q => W (binD f o p.1 q.1 q.2) Q := V0.we_bin
theorem we_neg : W (evE g (.neg a) r m) Q ↔ W (evE g a r m) fun p => W (negD p.1 p.2) Q := V0.we_neg
theorem we_cmp {o : COp} : W (evE g (.cmp o a b) r m) Q ↔ W (evE g a r m) fun p => W (evE g b r p.2) fun q => W (cmpB o p.1 q.1 q.2) fun k => Q (.bl k, q.2) := V0.we_cmp
theorem we_cmp2 {o o' : COp} : W (evE g (.cmp2 o o' a b c) r m) Q ↔ W (evE g a r m) fun p => W (evE g b r p.2) fun q => W (cmpB o p.1 q.1 q.2) fun k => Way k (W (evE g c r q.2) fun s => W (cmpB o' q.1 s.1 s.2) fun k => Q (.bl k, s.2)) (Q (.bl false, q.2)) := V0.we_cmp2
theorem we_isN : W (evE g (.isN a) r m) Q ↔ W (evE g a r m) fun p => Q (.bl (isNon p.1), p.2) := V0.we_isN
theorem we_notN : W (evE g (.notN a) r m) Q ↔ W (evE g a r m) fun p => Q (.bl (!isNon p.1), p.2) := V0.we_notN
theorem W_isB {α : Type} {d : D} {k : Bool → Res α} {Q : α → Prop} : W (isB d k) Q ↔ W (isBool d) fun b => W (k b) Q := V0.W_isB
theorem isBool_bl {b : Bool} : isBool (.bl b) = .ok b := V0.isBool_bl
theorem we_not : W (evE g (.not a) r m) Q ↔ W (evE g a r m) fun p => W (isBool p.1) fun k => Q (.bl (!k), p.2) := V0.we_not
theorem we_ife : W (evE g (.ife c a b) r m) Q ↔ W (evE g c r m) fun p => W (isBool p.1) fun k => Way k (W (evE g a r p.2) Q) (W (evE g b r p.2) Q) := V0.we_ife
theorem we_and {es : Es} : W (evE g (.and es) r m) Q ↔ W (evAnd g es r m) Q := V0.we_and
theorem we_or {es : Es} : W (evE g (.or es) r m) Q ↔ W (evOr g es r m) Q := V0.we_or
theorem we_and1 : W (evAnd g (.cons a .nil) r m) Q ↔ W (evE g a r m) Q := V0.we_and1
theorem we_or1 : W (evOr g (.cons a .nil) r m) Q ↔ W (evE g a r m) Q := V0.we_or1
theorem we_and2 {es : Es} : W (evAnd g (.cons a (.cons b es)) r m) Q ↔ W (evE g a r m) fun p => W (isBool p.1) fun k => Way k (W (evAnd g (.cons b es) r p.2) Q) (Q (.bl false, p.2)) := V0.we_and2
theorem we_or2 {es : Es} : W (evOr g (.cons a (.cons b es)) r m) Q ↔ W (evE g a r m) fun p => W (isBool p.1) fun k => Way k (Q (.bl true, p.2)) (W (evOr g (.cons b es) r p.2) Q) := V0.we_or2
theorem we_tup {es : Es} : W (evE g (.tup es) r m) Q ↔ W (evEs g es r m) fun p => Sd (p.1.length ≤ sizeMax) (Q (.tup p.1, p.2)) := V0.we_tup
theorem we_lst {es : Es} : W (evE g (.lst false es) r m) Q ↔ W (evEs g es r m) fun p => Sd (p.1.length ≤ sizeMax) (Q (.lst p.1, p.2)) := V0.we_lst
theorem we_lstN {es : Es} : W (evE g (.lst true es) r m) Q ↔ W (evEs g es r m) fun p => Sd (p.1.length ≤ sizeMax) (Q (.loc p.2.length, p.2 ++ [.lst p.1])) := V0.we_lstN
theorem we_dct {ps : Ps} : W (evE g (.dct f ps) r m) Q ↔ W (evDct g f ps r m []) Q := V0.we_dct
theorem we_idx : W (evE g (.idx a i) r m) Q ↔ W (evE g a r m) fun p => W (evE g i r p.2) fun q => W (ixD p.1 q.1 q.2) Q := V0.we_idx
theorem we_slc {lo hi : Oe} : W (evE g (.slc f a lo hi) r m) Q ↔ W (evE g a r m) fun p => W (evO g lo r p.2) fun q => W (evO g hi r q.2) fun s => W (slD f p.1 q.1 s.1 s.2) Q := V0.we_slc
theorem we_call {n : String} {es : Es} : W (evE g (.call n es) r m) Q ↔ W (evEs g es r m) fun p => W (g.fn n p.1 p.2) Q := V0.we_call
theorem we_bi {k : Bi} {es : Es} : W (evE g (.bi f k es) r m) Q ↔ W (evEs g es r m) fun p => W (biD f k p.1 p.2) Q := V0.we_bi
theorem we_mt {t : Mt} {es : Es} : W (evE g (.mt f t a es) r m) Q ↔ W (evE g a r m) fun p => Sd (recvOk t p.1 p.2 = true) (W (evEs g es r p.2) fun q => W (mtD f t p.1 q.1 q.2) Q) := V0.we_mt
theorem we_nil {Q : List D × Store → Prop} : W (evEs g .nil r m) Q ↔ Q ([], m) := V0.we_nil
theorem we_cons {es : Es} {Q : List D × Store → Prop} : W (evEs g (.cons e es) r m) Q ↔ W (evE g e r m) fun p => W (evEs g es r p.2) fun q => Q (p.1 :: q.1, q.2) := V0.we_cons
theorem we_oN {Q : Option Int × Store → Prop} : W (evO g .none r m) Q ↔ Q (none, m) := V0.we_oN
theorem isInt_int {i : Int} : isInt (.int i) = .ok i := V0.isInt_int
theorem we_oS {Q : Option Int × Store → Prop} : W (evO g (.some e) r m) Q ↔ W (evE g e r m) fun p => W (isInt p.1) fun i => Q (some i, p.2) := V0.we_oS
theorem we_cN {Q : Bool × Store → Prop} : W (evC g .none r m) Q ↔ Q (true, m) := V0.we_cN
theorem we_cS {Q : Bool × Store → Prop} : W (evC g (.some e) r m) Q ↔ W (evE g e r m) fun p => W (isBool p.1) fun k => Q (k, p.2) := V0.we_cS
theorem we_lc {t : T} {own : List Nat} {it : I} {c : Oe} : W (evE g (.lc f t own it c e) r m) Q ↔ W (evI g it r m) fun p => W (loopL p.1.still (turnE g t own c e r) p.1.items [] p.2) fun q => W (newL f q.1 q.2) Q := V0.we_lc
theorem W_ofO {α : Type} {o : Option α} {Q : α → Prop} : W (ofO o) Q ↔ WO o Q := V0.W_ofO
theorem we_turn {t : T} {own : List Nat} {c : Oe} {x : D} {Q : Option D × Store → Prop} : W (turnE g t own c e r x m) Q ↔ WO (asgT m t x (wipe r own)) fun r2 => W (evC g c r2 m) fun p => Way p.1 (W (evE g e r2 p.2) fun q => Q (some q.1, q.2)) (Q (none, p.2)) := V0.we_turn
theorem we_seq {Q : Src × Store → Prop} : W (evI g (.seq e) r m) Q ↔ W (evE g e r m) fun p => W (seqI p.1 p.2) Q := V0.we_seq
theorem we_rng1 {Q : Src × Store → Prop} : W (evI g (.rng1 a) r m) Q ↔ W (evE g a r m) fun p => W (isInt p.1) fun i => Sd (small62 i) (Q (⟨rngL 0 i.toNat 1, fun _ => True⟩, p.2)) := V0.we_rng1
theorem we_rng2 {Q : Src × Store → Prop} : W (evI g (.rng2 a b) r m) Q ↔ W (evE g a r m) fun p => W (evE g b r p.2) fun q => W (isInt p.1) fun i => W (isInt q.1) fun j => Sd (small62 i ∧ small62 j) (Q (⟨rngL i (j - i).toNat 1, fun _ => True⟩, q.2)) := V0.we_rng2
theorem we_rng3 {Q : Src × Store → Prop} : W (evI g (.rng3 a b c) r m) Q ↔ W (evE g a r m) fun p => W (evE g b r p.2) fun q => W (evE g c r q.2) fun s => W (isInt p.1) fun i => W (isInt q.1) fun j => W (isInt s.1) fun k => W (rng3D i j k s.2) Q := V0.we_rng3
theorem we_enum {Q : Src × Store → Prop} : W (evI g (.enum e) r m) Q ↔ W (evE g e r m) fun p => WO (seqV p.2 p.1) fun xs => Q (⟨enumL xs, fun m' => seqV m' p.1 = some xs⟩, p.2) := V0.we_enum
theorem we_zip {Q : Src × Store → Prop} : W (evI g (.zip a b) r m) Q ↔ W (evE g a r m) fun p => W (evE g b r p.2) fun q => WO (seqV q.2 p.1) fun xs => WO (seqV q.2 q.1) fun ys => Q (⟨zipL xs ys, fun m' => seqV m' p.1 = some xs ∧ seqV m' q.1 = some ys⟩, q.2) := V0.we_zip
theorem W_newL0 {xs : List D} : W (newL false xs m) Q ↔ Sd (xs.length ≤ sizeMax) (Q (.lst xs, m)) := V0.W_newL0
theorem W_newL1 {xs : List D} : W (newL true xs m) Q ↔ Sd (xs.length ≤ sizeMax) (Q (.loc m.length, m ++ [.lst xs])) := V0.W_newL1
theorem W_newT {xs : List D} : W (newT xs m) Q ↔ Sd (xs.length ≤ sizeMax) (Q (.tup xs, m)) := V0.W_newT
end
/-! ### statements -/
section
variable {g : G} {r r' : Fr} {m : Store} {a b c e i : E} {s : S} {ss u w : Ss} {Q : Fl × Fr × Store → Prop}
theorem ws_nil : W (evSs g .nil r m) Q ↔ Q (.next, r, m) := V0.ws_nil
def onward (g : G) (ss : Ss) (Q : Fl × Fr × Store → Prop) : Fl → Fr → Store → Prop
  | .next, r, m => W (evSs g ss r m) Q
  | .ret d, r, m => Q (.ret d, r, m)
  | .brk, r, m => Q (.brk, r, m)
  | .cont, r, m => Q (.cont, r, m)
theorem ow_next : onward g ss Q .next r m ↔ W (evSs g ss r m) Q := Iff.rfl
theorem ow_ret {d : D} : onward g ss Q (.ret d) r m ↔ Q (.ret d, r, m) := Iff.rfl
theorem ow_brk : onward g ss Q .brk r m ↔ Q (.brk, r, m) := Iff.rfl
theorem ow_cont : onward g ss Q .cont r m ↔ Q (.cont, r, m) := Iff.rfl
theorem ws_cons : W (evSs g (.cons s ss) r m) Q ↔ W (evS g s r m) fun p => onward g ss Q p.1 p.2.1 p.2.2 := V0.ws_cons
theorem ws_asg {t : T} : W (evS g (.asg t e) r m) Q ↔ W (evE g e r m) fun p => WO (asgT p.2 t p.1 r) fun r' => Q (.next, r', p.2) := V0.ws_asg
theorem ws_par {ts : List Nat} {es : Es} : W (evS g (.par ts es) r m) Q ↔ W (evEs g es r m) fun p => WO (setEach ts p.1 r) fun r' => Q (.next, r', p.2) := V0.ws_par
theorem ws_seti : W (evS g (.seti a i e) r m) Q ↔ W (evE g e r m) fun p => W (evE g a r p.2) fun q => W (evE g i r q.2) fun k => W (setD q.1 k.1 p.1 k.2) fun m4 => Q (.next, r, m4) := V0.ws_seti
theorem ws_aug {i : Nat} {o : BOp} : W (evS g (.aug i o e) r m) Q ↔ WO r[i]? fun x => WO x fun x => W (evE g e r m) fun p => W (augD o x p.1 p.2) fun q => Q (.next, r.set i (some q.1), q.2) := V0.ws_aug
theorem ws_augi {o : BOp} : W (evS g (.augi a i o e) r m) Q ↔ W (evE g a r m) fun p => W (evE g i r p.2) fun q => Sd (isDL p.1 q.2 = true) (W (ixD p.1 q.1 q.2) fun z => W (evE g e r z.2) fun v => Sd (isDL p.1 v.2 = true) (W (augD o z.1 v.1 v.2) fun u => W (setD p.1 q.1 u.1 u.2) fun m6 => Q (.next, r, m6))) := V0.ws_augi
theorem ws_expr : W (evS g (.expr e) r m) Q ↔ W (evE g e r m) fun p => Q (.next, r, p.2) := V0.ws_expr
theorem ws_ret : W (evS g (.ret e) r m) Q ↔ W (evE g e r m) fun p => Q (.ret p.1, r, p.2) := V0.ws_ret
theorem ws_retN : W (evS g .retN r m) Q ↔ Q (.ret .non, r, m) := V0.ws_retN
theorem ws_pass : W (evS g .pass r m) Q ↔ Q (.next, r, m) := V0.ws_pass
theorem ws_brk : W (evS g .brk r m) Q ↔ Q (.brk, r, m) := V0.ws_brk
theorem ws_cont : W (evS g .cont r m) Q ↔ Q (.cont, r, m) := V0.ws_cont
theorem ws_if : W (evS g (.if_ c u w) r m) Q ↔ W (evE g c r m) fun p => W (isBool p.1) fun k => Way k (W (evSs g u r p.2) Q) (W (evSs g w r p.2) Q) := V0.ws_if
theorem ws_while : W (evS g (.while_ c u) r m) Q ↔ W (loopW (testW g c) (evSs g u) r m) Q := V0.ws_while
theorem we_test {Q : Bool × Store → Prop} : W (testW g c r m) Q ↔ W (evE g c r m) fun p => W (isBool p.1) fun k => Q (k, p.2) := V0.we_test
theorem ws_for {t : T} {it : I} : W (evS g (.for_ t it u) r m) Q ↔ W (evI g it r m) fun p => W (loopF p.1.still (turnS g t u) p.1.items r p.2) Q := V0.ws_for
theorem ws_turn {t : T} {x : D} : W (turnS g t u x r m) Q ↔ WO (asgT m t x r) fun r' => W (evSs g u r' m) Q := V0.ws_turn
end
/-! ### frames -/
theorem asgt_name {m : Store} {i : Nat} {d : D} {r : Fr} : asgT m (.name i) d r = if i < r.length then some (r.set i (some d)) else none := by rw [asgT]
theorem asg_tup {m : Store} {ts : List T} {ds : List D} {r : Fr} : asgT m (.tup ts) (.tup ds) r = asgTs m ts ds r := by rw [asgT]
theorem asg_nil {m : Store} {r : Fr} : asgTs m [] [] r = some r := by rw [asgTs]
theorem asg_cons {m : Store} {t : T} {ts : List T} {d : D} {ds : List D} {r : Fr} : asgTs m (t :: ts) (d :: ds) r = (asgT m t d r).bind (asgTs m ts ds) := by rw [asgTs]
theorem some_bind {α β : Type} {a : α} {f : α → Option β} : (some a).bind f = f a := rfl
theorem if_t {α : Type} {a b : α} : (if True then a else b) = a := if_pos trivial
theorem wipe_nil {r : Fr} : wipe r [] = r := rfl
theorem wipe_cons {r : Fr} {v : Nat} {vs : List Nat} : wipe r (v :: vs) = (wipe r vs).set v none := rfl
end DV

end
section
set_option Elab.async false
set_option linter.all false
set_option maxRecDepth 100000
set_option autoImplicit false
set_option maxHeartbeats 2000000
namespace DV.V0
open DV
open PySem (Str)
section
variable {m : Store} {f : Bool} {i j : Int} {x y : Str} {Q : D × Store → Prop} {xs ys : List D}
theorem wo_add : V (binD f .add (.int i) (.int j) m) Q ↔ Q (.int (i + j), m) := W_ok
theorem wo_sub : V (binD f .sub (.int i) (.int j) m) Q ↔ Q (.int (i - j), m) := W_ok
theorem wo_mul : V (binD f .mul (.int i) (.int j) m) Q ↔ Vd (mulOk i j) (Q (.int (i * j), m)) := by simp only [binD, W_sd, W_ok]
theorem wo_fdiv : V (binD f .fdiv (.int i) (.int j) m) Q ↔ Vd (0 < j ∧ j.natAbs.log2 < 9000) (Q (.int (i / j), m)) := by simp only [binD, W_sd, W_ok]
theorem wo_mod : V (binD f .mod (.int i) (.int j) m) Q ↔ Vd (0 < j) (Q (.int (i % j), m)) := by simp only [binD, W_sd, W_ok]
theorem wo_pow : V (binD f .pow (.int i) (.int j) m) Q ↔ Vd (0 ≤ j ∧ j ≤ 1000000 ∧ i.natAbs < 2 ^ 64) (Q (.int (i ^ j.toNat), m)) := by simp only [binD, W_sd, W_ok]
theorem wo_addS : V (binD f .add (.str x) (.str y) m) Q ↔ Vd (x.length + y.length ≤ sizeMax) (Q (.str (x ++ y), m)) := by simp only [binD, W_sd, W_ok]
theorem wo_addT : V (binD f .add (.tup xs) (.tup ys) m) Q ↔ Vd ((xs ++ ys).length ≤ sizeMax) (Q (.tup (xs ++ ys), m)) := by simp only [binD, W_newT]
theorem wo_addL : V (binD f .add (.lst xs) (.lst ys) m) Q ↔ V (newL f (xs ++ ys) m) Q := by simp only [binD, lstX]
theorem wo_addLo {l : Nat} {b : D} : V (binD f .add (.loc l) b m) Q ↔ VO (lstX m (.loc l)) fun xs => VO (lstX m b) fun ys => V (newL f (xs ++ ys) m) Q := by
  simp only [binD]
  cases lstX m (.loc l) with
  | none => exact ⟨fun ⟨b, e, q⟩ => (nomatch e), fun ⟨b, e, q⟩ => (nomatch e)⟩
  | some u =>
    cases lstX m b with
    | none => exact ⟨fun ⟨b, e, q⟩ => (nomatch e), fun ⟨b, e, c, e', q⟩ => (nomatch e')⟩
    | some v => rw [WO_some, WO_some]
theorem wo_addLl {l : Nat} : V (binD f .add (.lst xs) (.loc l) m) Q ↔ VO (lstX m (.loc l)) fun ys => V (newL f (xs ++ ys) m) Q := by
  simp only [binD]
  cases lstX m (.loc l) with
  | none => exact ⟨fun ⟨b, e, q⟩ => (nomatch e), fun ⟨b, e, q⟩ => (nomatch e)⟩
  | some u => rw [WO_some]; exact Iff.rfl
theorem wo_mulS : V (binD f .mul (.str x) (.int i) m) Q ↔ Vd (-(2 ^ 62) < i ∧ i < 2 ^ 62 ∧ x.length * i.toNat ≤ sizeMax) (Q (.str (PySem.Txt.mul x i), m)) := by simp only [binD, W_sd, W_ok]
theorem wo_mulL : V (binD f .mul (.lst xs) (.int i) m) Q ↔ Vd (-(2 ^ 62) < i ∧ i < 2 ^ 62 ∧ xs.length * i.toNat ≤ sizeMax) (V (newL f (rep i.toNat xs) m) Q) := by simp only [binD, lstX, W_sd]
theorem wo_mulT : V (binD f .mul (.tup xs) (.int i) m) Q ↔ Vd (xs ≠ [] ∧ 2 ≤ i ∧ i ≤ 1000 ∧ xs.length ≤ 1000) (Vd ((rep i.toNat xs).length ≤ sizeMax) (Q (.tup (rep i.toNat xs), m))) := by simp only [binD, W_sd, W_newT]
theorem wo_neg : V (negD (.int i) m) Q ↔ Q (.int (-i), m) := W_ok
variable {R : Bool → Prop} {a b : D}
theorem wc_eqI : V (cmpB .eq (.int i) (.int j) m) R ↔ R (decide (i = j)) := by simp only [cmpB, eqM, tr, D.under, if_true, W_sd, W_ok, eqOk, D.nd, D.dep, eqD]; simp [Vd]
theorem wc_neI : V (cmpB .ne (.int i) (.int j) m) R ↔ R (!decide (i = j)) := (W_bind (v := cmpB .eq (.int i) (.int j) m)).trans ((wc_eqI (m := m) (R := fun c => V (.ok !c) R)).trans W_ok)
theorem wc_ltI : V (cmpB .lt (.int i) (.int j) m) R ↔ R (decide (i < j)) := W_ok
theorem wc_gtI : V (cmpB .gt (.int i) (.int j) m) R ↔ R (decide (j < i)) := W_ok
theorem wc_leI : V (cmpB .le (.int i) (.int j) m) R ↔ R (decide (i ≤ j)) := W_ok
theorem wc_geI : V (cmpB .ge (.int i) (.int j) m) R ↔ R (decide (j ≤ i)) := W_ok
theorem wc_eqS : V (cmpB .eq (.str x) (.str y) m) R ↔ R (decide (x = y)) := by simp only [cmpB, eqM, tr, D.under, if_true, W_sd, W_ok, eqOk, D.nd, D.dep, eqD]; simp [Vd]
theorem wc_neS : V (cmpB .ne (.str x) (.str y) m) R ↔ R (!decide (x = y)) := (W_bind (v := cmpB .eq (.str x) (.str y) m)).trans ((wc_eqS (m := m) (R := fun c => V (.ok !c) R)).trans W_ok)
theorem tr_free {d : D} (h : d.under 0 = true) : tr m d = some d := if_pos h
/-- trees compared -/
theorem wc_eqD (ha : a.under 0 = true) (hb : b.under 0 = true) (ho : eqOk a b) : V (cmpB .eq a b m) R ↔ R (eqD a b) := by
  simp only [cmpB, eqM, tr_free ha, tr_free hb, W_sd, W_ok]; exact ⟨fun h => h.2, fun h => ⟨.inl ho, h⟩⟩
theorem wc_neD (ha : a.under 0 = true) (hb : b.under 0 = true) (ho : eqOk a b) : V (cmpB .ne a b m) R ↔ R (!eqD a b) := (W_bind (v := cmpB .eq a b m)).trans ((wc_eqD (m := m) (R := fun c => V (.ok !c) R) ha hb ho).trans W_ok)
theorem wc_in {a b : D} : V (cmpB .in_ a b m) R ↔ V (inM m a b) R := by simp only [cmpB]
theorem wc_notin {a b : D} : V (cmpB .notin a b m) R ↔ V (inM m a b) fun c => R (!c) := by simp only [cmpB, W_bind, W_ok]
/-! ### items -/
def _root_.DV.at_ (xs : List D) (i : Int) : Option D := (ixN xs.length i).bind fun j => xs[j]?
def _root_.DV.ixO (o : SO) (i : D) (m : Store) : RD := match o with
  | .lst xs => ixS xs i m
  | .dct kvs => ixK kvs i m
  | _ => .err
theorem wi_S : V (ixS xs (.int i) m) Q ↔ VO (at_ xs i) fun d => Q (d, m) := by
  simp only [ixS, at_]
  cases (ixN xs.length i).bind fun j => xs[j]? with
  | none => exact ⟨fun ⟨b, e, q⟩ => (nomatch e), fun ⟨b, e, q⟩ => (nomatch e)⟩
  | some d => rw [WO_some, W_ok]
theorem wi_tup : V (ixD (.tup xs) (.int i) m) Q ↔ VO (at_ xs i) fun d => Q (d, m) := wi_S
theorem wi_lst : V (ixD (.lst xs) (.int i) m) Q ↔ VO (at_ xs i) fun d => Q (d, m) := wi_S
theorem wi_scr : V (ixD (.scr xs) (.int i) m) Q ↔ VO (at_ xs i) fun d => Q (d, m) := wi_S
theorem wi_loc {l : Nat} {d : D} : V (ixD (.loc l) d m) Q ↔ VO m[l]? fun o => V (ixO o d m) Q := by
  show V (ixC (.loc l) d m) Q ↔ _
  unfold ixC
  simp only [dctV, seqV, lstV]
  cases h : m[l]? with
  | none => exact ⟨fun ⟨b, e, q⟩ => (nomatch e), fun ⟨b, e, q⟩ => (nomatch e)⟩
  | some o => rw [WO_some]; cases o <;> exact Iff.rfl
theorem wi_lo {d : D} : ixO (.lst xs) d m = ixS xs d m := rfl
theorem wi_do {d : D} {kvs : List (Key × D)} : ixO (.dct kvs) d m = ixK kvs d m := rfl
theorem at_nat {k : Nat} : at_ xs (k : Int) = xs[k]? := by
  unfold at_ ixN
  rw [if_pos (by omega)]
  by_cases h : k < xs.length
  · rw [if_pos (by omega)]; simp
  · rw [if_neg (by omega)]; simp [h]
theorem at_pos (h : 0 ≤ i) : at_ xs i = xs[i.toNat]? := by
  have := at_nat (xs := xs) (k := i.toNat)
  rwa [Int.toNat_of_nonneg h] at this
theorem at_some {d : D} (h : 0 ≤ i) (e : xs[i.toNat]? = some d) : at_ xs i = some d := (at_pos h).trans e
variable {x0 x1 x2 x3 x4 x5 : D}
theorem at_0 : at_ (x0 :: xs) 0 = some x0 := at_nat (k := 0)
theorem at_1 : at_ (x0 :: x1 :: xs) 1 = some x1 := at_nat (k := 1)
theorem at_2 : at_ (x0 :: x1 :: x2 :: xs) 2 = some x2 := at_nat (k := 2)
theorem at_3 : at_ (x0 :: x1 :: x2 :: x3 :: xs) 3 = some x3 := at_nat (k := 3)
theorem at_4 : at_ (x0 :: x1 :: x2 :: x3 :: x4 :: xs) 4 = some x4 := at_nat (k := 4)
theorem at_5 : at_ (x0 :: x1 :: x2 :: x3 :: x4 :: x5 :: xs) 5 = some x5 := at_nat (k := 5)
theorem at_if {c : Bool} : at_ (x0 :: x1 :: xs) (if c = true then 1 else 0) = some (if c = true then x1 else x0) := by
  cases c
  · exact at_0
  · exact at_1
/-! ### built-ins -/
theorem wb_lenS {x : Str} : V (biD f .len [.str x] m) Q ↔ Vd (x.length ≤ sizeMax) (Q (.int x.length, m)) := by
  simp only [biD, bi1]
  simp only [lenD, W_sd, W_ok]
theorem wb_lenT : V (biD f .len [.tup xs] m) Q ↔ Q (.int xs.length, m) := W_ok
theorem wb_lenL : V (biD f .len [.lst xs] m) Q ↔ Q (.int xs.length, m) := W_ok
theorem wb_lenScr : V (biD f .len [.scr xs] m) Q ↔ Q (.int xs.length, m) := W_ok
def _root_.DV.lenO : SO → Res Int
  | .lst xs => .ok xs.length
  | .dct kvs => .ok kvs.length
  | _ => .err
theorem lenO_lst : lenO (.lst xs) = .ok (xs.length : Int) := rfl
theorem lenO_dct {kvs : List (Key × D)} : lenO (.dct kvs) = .ok (kvs.length : Int) := rfl
theorem wb_lenLo {l : Nat} : V (biD f .len [.loc l] m) Q ↔ VO m[l]? fun o => V (lenO o) fun n => Q (.int n, m) := by
  simp only [biD, bi1]
  simp only [lenD, dctV, seqV, lstV]
  cases h : m[l]? with
  | none => exact ⟨fun ⟨b, e, q⟩ => (nomatch e), fun ⟨b, e, q⟩ => (nomatch e)⟩
  | some o =>
    rw [WO_some]
    cases o with
    | lst ys => exact W_ok.trans (W_ok (a := (ys.length : Int)) (Q := fun n => Q (.int n, m))).symm
    | dct kvs => exact W_ok.trans (W_ok (a := (kvs.length : Int)) (Q := fun n => Q (.int n, m))).symm
    | ins C fs => exact ⟨fun ⟨b, e, q⟩ => (nomatch e), fun ⟨b, e, q⟩ => (nomatch e)⟩
    | exn C fs => exact ⟨fun ⟨b, e, q⟩ => (nomatch e), fun ⟨b, e, q⟩ => (nomatch e)⟩
theorem wb_abs : V (biD f .abs [.int i] m) Q ↔ Q (.int (if i < 0 then -i else i), m) := W_ok
theorem wb_intI : V (biD f .int [.int i] m) Q ↔ Q (.int i, m) := W_ok
theorem wb_intB {b : Bool} : V (biD f .int [.bl b] m) Q ↔ Q (.int (if b then 1 else 0), m) := W_ok
theorem wb_bool {b : Bool} : V (biD f .bool [.bl b] m) Q ↔ Q (.bl b, m) := W_ok
theorem wb_strS {x : Str} : V (biD f .str [.str x] m) Q ↔ Q (.str x, m) := W_ok
theorem wb_strI : V (biD f .str [.int i] m) Q ↔ Vd (i.natAbs.log2 < 1920) (Q (.str (toString i : String), m)) := by
  simp only [biD, bi1]
  simp only [strD, W_sd, W_ok]
theorem wb_min2 : V (biD f .min2 [.int i, .int j] m) Q ↔ Q (.int (if j < i then j else i), m) := W_ok
theorem wb_max2 : V (biD f .max2 [.int i, .int j] m) Q ↔ Q (.int (if j > i then j else i), m) := W_ok
theorem wb_tupT : V (biD f .tuple [.tup xs] m) Q ↔ Vd (xs.length ≤ sizeMax) (Q (.tup xs, m)) := by
  simp only [biD, bi1]
  simp only [tupleD, seqV, W_newT]
theorem wb_tupL : V (biD f .tuple [.lst xs] m) Q ↔ Vd (xs.length ≤ sizeMax) (Q (.tup xs, m)) := by
  simp only [biD, bi1]
  simp only [tupleD, seqV, lstV, W_newT]
theorem wb_tupLo {l : Nat} : V (biD f .tuple [.loc l] m) Q ↔ VO (lstX m (.loc l)) fun xs => Vd (xs.length ≤ sizeMax) (Q (.tup xs, m)) := by
  simp only [biD, bi1]
  simp only [tupleD, seqV, lstV, lstX]
  cases h : m[l]? with
  | none => exact ⟨fun ⟨b, e, q⟩ => (nomatch e), fun ⟨b, e, q⟩ => (nomatch e)⟩
  | some o =>
    cases o with
    | lst xs => simp only [W_newT, WO_some]
    | dct kvs => exact ⟨fun ⟨b, e, q⟩ => (nomatch e), fun ⟨b, e, q⟩ => (nomatch e)⟩
    | ins C fs => exact ⟨fun ⟨b, e, q⟩ => (nomatch e), fun ⟨b, e, q⟩ => (nomatch e)⟩
    | exn C fs => exact ⟨fun ⟨b, e, q⟩ => (nomatch e), fun ⟨b, e, q⟩ => (nomatch e)⟩
theorem wb_all {bs : List Bool} (h : bools xs = some bs) : V (biD f .all [.lst xs] m) Q ↔ Q (.bl (bs.all id), m) := by
  simp only [biD, bi1]
  simp only [boolsD, lstV, h, W_ok]
theorem wb_any {bs : List Bool} (h : bools xs = some bs) : V (biD f .any [.lst xs] m) Q ↔ Q (.bl (bs.any id), m) := by
  simp only [biD, bi1]
  simp only [boolsD, lstV, h, W_ok]
/-! ### methods, stores -/
theorem lstX_loc {l : Nat} : lstX m (.loc l) = (m[l]?).bind fun o => match o with | .lst xs => some xs | _ => none := by
  simp only [lstX]
  cases m[l]? with
  | none => rfl
  | some o => cases o <;> rfl
theorem lstX_lst : lstX m (.lst xs) = some xs := rfl
def _root_.DV.appO (l : Nat) (o : SO) (v : D) (m : Store) : RD := match o with
  | .lst ys => need (ys.length < sizeMax) (.ok (.non, m.set l (.lst (ys ++ [v]))))
  | _ => .err
theorem appO_lst {l : Nat} {v : D} : V (appO l (.lst xs) v m) Q ↔ Vd (xs.length < sizeMax) (Q (.non, m.set l (.lst (xs ++ [v])))) := by simp only [appO, W_sd, W_ok]
theorem wm_append {l : Nat} {v : D} : V (mtD f .append (.loc l) [v] m) Q ↔ VO m[l]? fun o => V (appO l o v m) Q := by
  simp only [mtD, onList]
  cases h : m[l]? with
  | none => exact ⟨fun ⟨b, e, q⟩ => (nomatch e), fun ⟨b, e, q⟩ => (nomatch e)⟩
  | some o => rw [WO_some]; cases o <;> exact Iff.rfl
def _root_.DV.extO (l : Nat) (o : SO) (v : D) (m : Store) : RD := match o with
  | .lst ys => extD l ys v m
  | _ => .err
theorem extO_lst {l : Nat} {v : D} : V (extO l (.lst xs) v m) Q ↔ VO (lstX m v) fun zs => Vd (xs.length + zs.length ≤ sizeMax) (Q (.non, m.set l (.lst (xs ++ zs)))) := by
  simp only [extO, extD]
  cases lstX m v with
  | none => exact ⟨fun ⟨b, e, q⟩ => (nomatch e), fun ⟨b, e, q⟩ => (nomatch e)⟩
  | some o => simp only [WO_some, W_sd, W_ok]
theorem wm_extend {l : Nat} {v : D} : V (mtD f .extend (.loc l) [v] m) Q ↔ VO m[l]? fun o => V (extO l o v m) Q := by
  simp only [mtD, onList]
  cases h : m[l]? with
  | none => exact ⟨fun ⟨b, e, q⟩ => (nomatch e), fun ⟨b, e, q⟩ => (nomatch e)⟩
  | some o => rw [WO_some]; cases o <;> exact Iff.rfl
def _root_.DV.recvO : Option SO → Bool
  | some (.lst _) => true
  | _ => false
theorem recv_loc {l : Nat} {t : Mt} : recvOk t (.loc l) m = recvO m[l]? := by
  simp only [recvOk, lstX]
  cases m[l]? with
  | none => rfl
  | some o => cases o <;> rfl
theorem recvO_lst : recvO (some (.lst xs)) = true := rfl
def _root_.DV.setO (l : Nat) (o : SO) (i v : D) (m : Store) : Res Store := match o with
  | .lst ys => setL l ys i v m
  | .dct kvs => setK l kvs i v m
  | _ => .err
theorem ws_set {l : Nat} {d v : D} {Q : Store → Prop} : V (setD (.loc l) d v m) Q ↔ VO m[l]? fun o => V (setO l o d v m) Q := by
  simp only [setD]
  cases h : m[l]? with
  | none => exact ⟨fun ⟨b, e, q⟩ => (nomatch e), fun ⟨b, e, q⟩ => (nomatch e)⟩
  | some o => rw [WO_some]; cases o <;> exact Iff.rfl
theorem setO_lst {l : Nat} {v : D} {Q : Store → Prop} : V (setO l (.lst xs) (.int i) v m) Q ↔ VO (ixN xs.length i) fun j => Q (m.set l (.lst (xs.set j v))) := by
  simp only [setO, setL]
  cases ixN xs.length i with
  | none => exact ⟨fun ⟨b, e, q⟩ => (nomatch e), fun ⟨b, e, q⟩ => (nomatch e)⟩
  | some o => simp only [WO_some, W_ok]
end
/-! ### what is walked -/
section
variable {m : Store} {xs : List D} {Q : Src × Store → Prop}
theorem setO_dct {l : Nat} {d v : D} {kvs : List (Key × D)} {Q : Store → Prop} : V (setO l (.dct kvs) d v m) Q ↔ VO (keyOf d) fun k => Vd (kvs.length < sizeMax) (Q (m.set l (.dct (dput kvs k v)))) := by
  simp only [setO, setK]
  cases keyOf d with
  | none => exact ⟨fun ⟨b, e, q⟩ => (nomatch e), fun ⟨b, e, q⟩ => (nomatch e)⟩
  | some o => simp only [WO_some, W_sd, W_ok]
theorem wq_tup : V (seqI (.tup xs) m) Q ↔ Q (⟨xs, fun m' => seqV m' (.tup xs) = some xs⟩, m) := W_ok
theorem wq_lst : V (seqI (.lst xs) m) Q ↔ Q (⟨xs, fun m' => seqV m' (.lst xs) = some xs⟩, m) := W_ok
theorem wq_scr : V (seqI (.scr xs) m) Q ↔ Q (⟨xs, fun m' => seqV m' (.scr xs) = some xs⟩, m) := W_ok
theorem wq_str {z : Str} : V (seqI (.str z) m) Q ↔ Q (⟨z.cps.toList.map sign, fun _ => True⟩, m) := W_ok
theorem wq_loc {l : Nat} : V (seqI (.loc l) m) Q ↔ VO (seqV m (.loc l)) fun xs => Q (⟨xs, fun m' => seqV m' (.loc l) = some xs⟩, m) := by
  simp only [seqI, seqJ]
  cases seqV m (.loc l) with
  | none => exact ⟨fun ⟨b, e, q⟩ => (nomatch e), fun ⟨b, e, q⟩ => (nomatch e)⟩
  | some d => rw [WO_some, W_ok]
end
/-! ### more rules -/
section
variable {g : G} {r : Fr} {m : Store} {e : E} {f : Bool} {xs : List D} {lo hi : Option Int} {Q : D × Store → Prop}
theorem we_isi {t : Ty} : V (evE g (.isi t e) r m) Q ↔ V (evE g e r m) fun p => VO (tyB p.2 p.1 t) fun b => Q (.bl b, p.2) := by
  rw [evE, W_bind]
  refine ⟨fun h => h.mono fun p q => ?_, fun h => h.mono fun p q => ?_⟩
  · simp only [isiD] at q
    cases hh : tyB p.2 p.1 t with
    | none => rw [hh] at q; obtain ⟨b, e, q⟩ := q; cases e
    | some b => rw [hh] at q; exact WO_some.mpr (W_ok.mp q)
  · obtain ⟨b, e, q⟩ := q
    simp only [isiD, e]
    exact W_ok.mpr q
theorem wsl_tup : V (slD f (.tup xs) lo hi m) Q ↔ Vd ((cut xs lo hi).length ≤ sizeMax) (Q (.tup (cut xs lo hi), m)) := by simp only [slD, W_newT]
theorem wsl_str {z : Str} : V (slD f (.str z) lo hi m) Q ↔ Vd (z.length ≤ sizeMax) (Q (.str (cutStr z lo hi), m)) := by simp only [slD, W_sd, W_ok]
theorem wsl_lst : V (slD f (.lst xs) lo hi m) Q ↔ V (newL f (cut xs lo hi) m) Q := by simp only [slD, slC, lstV]
theorem wsl_scr : V (slD f (.scr xs) lo hi m) Q ↔ V (newL f (cut xs lo hi) m) Q := by simp only [slD, slC, lstV]
theorem wsl_loc {l : Nat} : V (slD f (.loc l) lo hi m) Q ↔ VO (lstV m (.loc l)) fun xs => V (newL f (cut xs lo hi) m) Q := by
  simp only [slD, slC]
  cases lstV m (.loc l) with
  | none => exact ⟨fun ⟨b, e, q⟩ => (nomatch e), fun ⟨b, e, q⟩ => (nomatch e)⟩
  | some d => rw [WO_some]
def _root_.DV.popO (l : Nat) (o : SO) (i : D) (m : Store) : RD := match o with
  | .lst ys => popAt l ys i m
  | _ => .err
theorem popO_0 {l : Nat} {x : D} : V (popO l (.lst (x :: xs)) (.int 0) m) Q ↔ Q (x, m.set l (.lst xs)) := by
  simp only [popO, popAt]
  have e : ixN (x :: xs).length 0 = some 0 := by unfold ixN; rw [if_pos (by decide), if_pos (by simp)]; rfl
  rw [e]
  exact W_ok
theorem wm_popAt {l : Nat} {v : D} : V (mtD f .popAt (.loc l) [v] m) Q ↔ VO m[l]? fun o => V (popO l o v m) Q := by
  simp only [mtD, onList]
  cases h : m[l]? with
  | none => exact ⟨fun ⟨b, e, q⟩ => (nomatch e), fun ⟨b, e, q⟩ => (nomatch e)⟩
  | some o => rw [WO_some]; cases o <;> exact Iff.rfl
end
/-! ### methods of texts -/
section
variable {g : G} {r : Fr} {m : Store} {e a : E} {f : Bool} {xs : List D} {x y : Str} {Q : D × Store → Prop}
theorem we_sm0 {t : Sm} : V (evE g (.sm0 t e) r m) Q ↔ V (evE g e r m) fun p => V (sm0D t p.1 p.2) Q := by rw [evE, W_bind]
theorem we_sm1 {t : Sm} : V (evE g (.sm1 f t e a) r m) Q ↔ V (evE g e r m) fun p => V (evE g a r p.2) fun q => V (sm1D f t p.1 q.1 q.2) Q := by
  rw [evE, W_bind]
  refine ⟨fun h => h.mono fun p q => W_bind.mp q, fun h => h.mono fun p q => W_bind.mpr q⟩
theorem we_rev : V (evE g (.rev f e) r m) Q ↔ V (evE g e r m) fun p => V (revD f p.1 p.2) Q := by rw [evE, W_bind]
theorem wsm_upper : V (sm0D .upper (.str x) m) Q ↔ Vd (x.length ≤ 1000000) (Q (.str (PySem.Txt.upper x), m)) := by simp only [sm0D, W_sd, W_ok]
theorem wsm_join {d : D} : V (sm1D f .join (.str x) d m) Q ↔ VO (seqV m d) fun ys => VO (strsS ys) fun ss => Vd ((ss.map (·.length)).sum + ss.length * x.length ≤ sizeMax) (Q (.str (PySem.Txt.join x ss), m)) := by
  simp only [sm1D, joinD]
  cases seqV m d with
  | none => exact ⟨fun ⟨b, e, q⟩ => (nomatch e), fun ⟨b, e, q⟩ => (nomatch e)⟩
  | some ys =>
    cases h : strsS ys with
    | none => simp only [h, WO_some]; exact ⟨fun ⟨b, e, q⟩ => (nomatch e), fun ⟨b, e, q⟩ => (nomatch e)⟩
    | some ss => simp only [h, WO_some, W_sd, W_ok]
theorem wsm_split : V (sm1D f .split (.str x) (.str y) m) Q ↔ Vd ((y.length == 0) = false ∧ x.length + 2 ≤ sizeMax) (V (newL f ((PySem.Txt.split x y).map .str) m) Q) := by simp only [sm1D, W_sd]
theorem wsm_part : V (sm1D f .partition (.str x) (.str y) m) Q ↔ Vd ((y.length == 0) = false ∧ x.length ≤ sizeMax) (Q (.tup [.str (PySem.Txt.partition x y).1, .str (PySem.Txt.partition x y).2.1, .str (PySem.Txt.partition x y).2.2], m)) := by
  simp only [sm1D, W_sd, W_newT]
  refine ⟨fun h => ⟨h.1, h.2.2⟩, fun h => ⟨h.1, ⟨(show 3 ≤ sizeMax by decide), h.2⟩⟩⟩
theorem wrev_lst : V (revD f (.lst xs) m) Q ↔ V (newL f xs.reverse m) Q := by simp only [revD, revC, lstV]
theorem wrev_tup : V (revD f (.tup xs) m) Q ↔ V (newT xs.reverse m) Q := Iff.rfl
theorem wrev_loc {l : Nat} : V (revD f (.loc l) m) Q ↔ VO (lstV m (.loc l)) fun xs => V (newL f xs.reverse m) Q := by
  simp only [revD, revC]
  cases lstV m (.loc l) with
  | none => exact ⟨fun ⟨b, e, q⟩ => (nomatch e), fun ⟨b, e, q⟩ => (nomatch e)⟩
  | some d => rw [WO_some]
end
/-! ### signs of texts -/
section
variable {m : Store} {x : Str} {i : Int} {Q : D × Store → Prop}
def _root_.DV.atC (x : Str) (i : Int) : Option Nat := (ixN x.cps.toList.length i).bind fun j => x.cps.toList[j]?
theorem wi_str : V (ixD (.str x) (.int i) m) Q ↔ Vd (x.length ≤ sizeMax) (VO (atC x i) fun c => Q (sign c, m)) := by
  simp only [ixD, ixT, W_sd, atC]
  cases (ixN x.cps.toList.length i).bind fun j => x.cps.toList[j]? with
  | none => exact ⟨fun ⟨h, b, e, q⟩ => (nomatch e), fun ⟨h, b, e, q⟩ => (nomatch e)⟩
  | some d => simp only [WO_some, W_ok]
end
/-! ### displays of dicts -/
section
variable {g : G} {r : Fr} {m : Store} {k v : E} {f : Bool} {ps : Ps} {acc : List (Key × D)} {Q : D × Store → Prop}
theorem wdct_nil : V (evDct g f .nil r m acc) Q ↔ V (newD f acc m) Q := by rw [evDct]
theorem wdct_cons : V (evDct g f (.cons k v ps) r m acc) Q ↔ V (evE g k r m) fun p => V (evE g v r p.2) fun q => VO (keyOf p.1) fun i => V (evDct g f ps r q.2 (dput acc i q.1)) Q := by
  rw [evDct, W_bind]
  simp only [W_bind]
  refine ⟨fun h => h.mono fun p q => q.mono fun p' q' => ?_, fun h => h.mono fun p q => q.mono fun p' q' => ?_⟩
  · obtain ⟨x, s⟩ := p
    obtain ⟨y, s'⟩ := p'
    simp only at q' ⊢
    cases hh : keyOf x with
    | none => rw [hh] at q'; obtain ⟨b, e, q⟩ := q'; cases e
    | some i => rw [hh] at q'; exact WO_some.mpr q'
  · obtain ⟨x, s⟩ := p
    obtain ⟨y, s'⟩ := p'
    obtain ⟨i, e, q⟩ := q'
    simp only at e q ⊢
    rw [e]; exact q
theorem W_newD0 : V (newD false acc m) Q ↔ Vd (acc.length ≤ sizeMax) (Q (.dct acc, m)) := by simp only [newD, W_sd, if_neg Bool.false_ne_true, W_ok]
theorem W_newD1 : V (newD true acc m) Q ↔ Vd (acc.length ≤ sizeMax) (Q (.loc m.length, m ++ [.dct acc])) := by simp only [newD, W_sd, if_pos, W_ok]
end
/-! more -/
section
variable {g : G} {r r' : Fr} {m : Store} {a b c e i : E} {f : Bool} {Q : D × Store → Prop}
theorem we_lrg : V (evE g (.lrg f a) r m) Q ↔ V (evE g a r m) fun p => V (lrgD f p.1 p.2) Q := by rw [evE, W_bind]
theorem w_lrg {n : Int} : V (lrgD f (.int n) m) Q ↔ Vd (-(2 ^ 62) ≤ n ∧ n ≤ 16777216) (V (newL f (rngL 0 n.toNat 1) m) Q) := by simp only [lrgD]; rw [W_sd]
theorem w_rng3N {i j : Int} {Q : Src × Store → Prop} : V (rng3D i j (-1) m) Q ↔ Vd (small62 i ∧ small62 j) (Q (⟨rngL i (i - j).toNat (-1), fun _ => True⟩, m)) := by unfold rng3D; rw [if_pos rfl, W_sd, W_ok]
theorem w_rng3P {i j k : Int} {Q : Src × Store → Prop} (h : k ≠ -1) : V (rng3D i j k m) Q ↔ Vd (small61 i ∧ small61 j ∧ 1 ≤ k ∧ k ≤ 1000) (Q (⟨rngL i (rngN i j k) k, fun _ => True⟩, m)) := by unfold rng3D; rw [if_neg h, W_sd, W_ok]
theorem w_rng32 {i j : Int} {Q : Src × Store → Prop} : V (rng3D i j 2 m) Q ↔ Vd (small61 i ∧ small61 j) (Q (⟨rngL i (rngN i j 2) 2, fun _ => True⟩, m)) := by
  rw [w_rng3P (by decide)]
  have : (small61 i ∧ small61 j ∧ (1 : Int) ≤ 2 ∧ (2 : Int) ≤ 1000) ↔ (small61 i ∧ small61 j) := ⟨fun ⟨a, b, _⟩ => ⟨a, b⟩, fun ⟨a, b⟩ => ⟨a, b, by decide, by decide⟩⟩
  exact ⟨fun h => ⟨this.mp h.1, h.2⟩, fun h => ⟨this.mpr h.1, h.2⟩⟩
theorem we_lset : V (evE g (.lset a) r m) Q ↔ V (evE g a r m) fun p => V (lsetD p.1 p.2) Q := by rw [evE, W_bind]
theorem strsS_mapX (ss : List Str) : strsS (ss.map .str) = some ss := by induction ss with | nil => rfl | cons s ss ih => simp [strsS, ih]
theorem w_lset {ss : List Str} {d : D} (h : seqV m d = some (ss.map .str)) : V (lsetD d m) Q ↔ Vd (ss.length < 4000) (Q (.int (onceS ss).length, m)) := by simp only [lsetD, h, strsS_mapX]; rw [W_sd, W_ok]
theorem w_lsetT {ss : List Str} : V (lsetD (.tup (ss.map .str)) m) Q ↔ Vd (ss.length < 4000) (Q (.int (onceS ss).length, m)) := w_lset rfl
theorem w_lsetL {ss : List Str} : V (lsetD (.lst (ss.map .str)) m) Q ↔ Vd (ss.length < 4000) (Q (.int (onceS ss).length, m)) := w_lset rfl
theorem we_isB {n k : Bool} : V (evE g (.isB n k a) r m) Q ↔ V (evE g a r m) fun p => V (isBD n k p.1 p.2) Q := by rw [evE, W_bind]
theorem w_isB {n k b : Bool} : V (isBD n k (.bl b) m) Q ↔ Q (.bl (if n then !decide (b = k) else decide (b = k)), m) := W_ok
theorem we_orv : V (evE g (.orv a b) r m) Q ↔ V (evE g a r m) fun p => V (orD p.1 p.2 ((evE g b r p.2).bind fun q => onlyI q.1 q.2)) Q := by rw [evE, W_bind]
theorem w_orI {n : Int} {k : RD} : V (orD (.int n) m k) Q ↔ Vay (decide (n = 0)) (V k Q) (Q (.int n, m)) := by
  simp only [orD]
  by_cases h : n = 0
  · rw [if_pos h, decide_eq_true h, Way_t]
  · rw [if_neg h, decide_eq_false h, Way_f, W_ok]
theorem w_orN {k : RD} : V (orD .non m k) Q ↔ V k Q := Iff.rfl
theorem w_orB {v : RD} : V (v.bind fun q => onlyI q.1 q.2) Q ↔ V v fun q => V (onlyI q.1 q.2) Q := W_bind
theorem w_only {n : Int} : V (onlyI (.int n) m) Q ↔ Q (.int n, m) := W_ok
theorem wb_sum {d : D} : V (biD f .sum [d] m) Q ↔ VO (lstV m d) fun xs => VO (intsD xs) fun ns => Q (.int ns.sum, m) := by
  show V (sumD d m) Q ↔ _
  simp only [sumD]
  cases lstV m d with
  | none => exact ⟨fun ⟨b, e, q⟩ => (nomatch e), fun ⟨b, e, q⟩ => (nomatch e)⟩
  | some xs =>
    rw [WO_some]
    simp only
    cases intsD xs with
    | none => exact ⟨fun ⟨b, e, q⟩ => (nomatch e), fun ⟨b, e, q⟩ => (nomatch e)⟩
    | some ns => rw [WO_some, W_ok]
theorem wb_min {d : D} : V (biD f .min [d] m) Q ↔ V (minA d m) Q := Iff.rfl
theorem wb_max {d : D} : V (biD f .max [d] m) Q ↔ V (maxA d m) Q := Iff.rfl
theorem wb_sorted {d : D} : V (biD f .sorted [d] m) Q ↔ V (sortedD f d m) Q := Iff.rfl
theorem wb_dict {d : D} : V (biD f .dict [d] m) Q ↔ V (dictL f d m) Q := Iff.rfl
theorem wm_index {o v : D} : V (mtD f .index o [v] m) Q ↔ V (idxD o [v] m) Q := Iff.rfl
theorem w_augA {i j : Int} : V (augD .add (.int i) (.int j) m) Q ↔ Q (.int (i + j), m) := W_ok
theorem w_augS {i j : Int} : V (augD .sub (.int i) (.int j) m) Q ↔ Q (.int (i - j), m) := W_ok
end
/-! dicts walked, zip of three, lists of texts and of dicts -/
section
variable {g : G} {r r' : Fr} {m : Store} {a b c e i : E} {f : Bool} {u : Ss} {Q : D × Store → Prop}
noncomputable def _root_.DV.isDct (o : Option (Option D)) (m : Store) : Res (List (Key × D) × Store) := match o with
  | some (some (.dct kvs)) => .ok (kvs, m)
  | _ => .err
theorem w_isDct {kvs : List (Key × D)} {Q : List (Key × D) × Store → Prop} : V (isDct (some (some (.dct kvs))) m) Q ↔ Q (kvs, m) := W_ok
theorem we_lcD {t : T} {own : List Nat} {j : Nat} {v : Option Bool} {c : Oe} : V (evE g (.lcD f t own j v c e) r m) Q ↔ V (isDct r[j]? m) fun p => V (loopL (fun _ => True) (turnE g t own c e r) (dItems v p.1) [] p.2) fun q => V (newL f q.1 q.2) Q := by
  rw [evE]
  unfold isDct
  generalize r[j]? = o
  rcases o with _ | _ | d
  · exact ⟨fun ⟨b, e, q⟩ => by simp at e, fun ⟨b, e, q⟩ => by simp at e⟩
  · exact ⟨fun ⟨b, e, q⟩ => by simp at e, fun ⟨b, e, q⟩ => by simp at e⟩
  · cases d with
    | dct kvs => simp only [W_ok, W_bind]; exact Iff.rfl
    | _ => exact ⟨fun ⟨b, e, q⟩ => by simp at e, fun ⟨b, e, q⟩ => by simp at e⟩
theorem ws_forD {t : T} {j : Nat} {v : Option Bool} {Q : Fl × Fr × Store → Prop} : V (evS g (.forD t j v u) r m) Q ↔ V (isDct r[j]? m) fun p => V (loopF (fun _ => True) (turnS g t u) (dItems v p.1) r p.2) Q := by
  rw [evS]
  unfold isDct
  generalize r[j]? = o
  rcases o with _ | _ | d
  · exact ⟨fun ⟨b, e, q⟩ => by simp at e, fun ⟨b, e, q⟩ => by simp at e⟩
  · exact ⟨fun ⟨b, e, q⟩ => by simp at e, fun ⟨b, e, q⟩ => by simp at e⟩
  · cases d with
    | dct kvs => simp only [W_noX, W_ok]; exact Iff.rfl
    | _ => exact ⟨fun ⟨b, e, q⟩ => by simp at e, fun ⟨b, e, q⟩ => by simp at e⟩
theorem we_litems : V (evE g (.litems f a) r m) Q ↔ V (evE g a r m) fun p => V (litemsD f p.1 p.2) Q := by rw [evE, W_bind]
theorem w_litems {kvs : List (Key × D)} : V (litemsD f (.dct kvs) m) Q ↔ V (newL f (dItems false kvs) m) Q := Iff.rfl
theorem wb_list {d : D} : V (biD f .list [d] m) Q ↔ V (listD f d m) Q := Iff.rfl
theorem w_listS {x : Str} : V (listD f (.str x) m) Q ↔ V (newL f (x.cps.toList.map sign) m) Q := Iff.rfl
theorem w_listT {xs : List D} : V (listD f (.tup xs) m) Q ↔ V (newL f xs m) Q := Iff.rfl
theorem w_listL {xs : List D} : V (listD f (.lst xs) m) Q ↔ V (newL f xs m) Q := Iff.rfl
theorem w_listScr {xs : List D} : V (listD f (.scr xs) m) Q ↔ V (newL f xs m) Q := Iff.rfl
theorem w_listD {kvs : List (Key × D)} : V (listD f (.dct kvs) m) Q ↔ V (newL f (kvs.map fun p => keyD p.1) m) Q := Iff.rfl
theorem w_dictD {kvs : List (Key × D)} : V (dictL f (.dct kvs) m) Q ↔ V (newD f kvs m) Q := Iff.rfl
theorem we_zip3 {Q : Src × Store → Prop} : V (evI g (.zip3 a b c) r m) Q ↔ V (evE g a r m) fun p => V (evE g b r p.2) fun q => V (evE g c r q.2) fun s => VO (seqV s.2 p.1) fun xs => VO (seqV s.2 q.1) fun ys => VO (seqV s.2 s.1) fun zs => Q (⟨zipL3 xs ys zs, fun m' => seqV m' p.1 = some xs ∧ seqV m' q.1 = some ys ∧ seqV m' s.1 = some zs⟩, s.2) := by
  rw [evI, W_bind]
  simp only [W_bind]
  refine ⟨fun h => h.mono fun p q => q.mono fun p' q' => q'.mono fun p2 q2 => ?_, fun h => h.mono fun p q => q.mono fun p' q' => q'.mono fun p2 q2 => ?_⟩
  · obtain ⟨d, s⟩ := p
    obtain ⟨d', s'⟩ := p'
    obtain ⟨d2, s2⟩ := p2
    simp only at q2 ⊢
    cases h1 : seqV s2 d with
    | none => rw [h1] at q2; obtain ⟨b, e, q⟩ := q2; cases e
    | some xs =>
      rw [h1] at q2
      cases h2 : seqV s2 d' with
      | none => rw [h2] at q2; obtain ⟨b, e, q⟩ := q2; cases e
      | some ys =>
        rw [h2] at q2
        cases h3 : seqV s2 d2 with
        | none => rw [h3] at q2; obtain ⟨b, e, q⟩ := q2; cases e
        | some zs => rw [h3] at q2; exact WO_some.mpr (WO_some.mpr (WO_some.mpr (W_ok.mp q2)))
  · obtain ⟨d, s⟩ := p
    obtain ⟨d', s'⟩ := p'
    obtain ⟨d2, s2⟩ := p2
    obtain ⟨xs, e, ys, e', zs, e2, q⟩ := q2
    simp only at e e' e2 q ⊢
    rw [e, e', e2]; exact W_ok.mpr q
end
section
variable {g : G} {r : Fr} {m : Store} {Q : D × Store → Prop}
theorem we_isx {a : E} {cs : List String} : V (evE g (.isx a cs) r m) Q ↔ V (evE g a r m) fun p => V (isxD g.sub cs p.1 p.2) Q := by
  rw [evE, W_bind]
theorem we_fld {a : E} {n : Str} : V (evE g (.fld a n) r m) Q ↔ V (evE g a r m) fun p => V (fldD g.init n p.1 p.2) Q := by
  rw [evE, W_bind]
end
/-! ### dicts popped, asked, emptied; two places exchanged -/
section
variable {g : G} {r : Fr} {m : Store} {Q : D × Store → Prop} {o k x : E}
theorem we_dpop : V (evE g (.dpop o k x) r m) Q ↔ V (evE g o r m) fun p => Vd (isDc p.1 p.2 = true) (V (evE g k r p.2) fun q => V (evE g x r q.2) fun u => V (dpopD p.1 q.1 u.1 u.2) Q) := by
  rw [evE, W_bind]; simp only [W_sd, W_bind]
theorem we_dget : V (evE g (.dget o k x) r m) Q ↔ V (evE g o r m) fun p => Vd ((dctV p.2 p.1).isSome = true) (V (evE g k r p.2) fun q => V (evE g x r q.2) fun u => V (dgetD p.1 q.1 u.1 u.2) Q) := by
  rw [evE, W_bind]; simp only [W_sd, W_bind]
theorem we_tix {es : Es} {e : E} : V (evE g (.tix es e) r m) Q ↔ V (evEs g es r m) fun p => V (newT p.1 p.2) fun q => V (evE g e r q.2) fun z => V (tixD q.1 z.1 z.2) Q := by
  rw [evE, W_bind]; simp only [W_bind]
theorem we_dclr : V (evE g (.dclr o) r m) Q ↔ V (evE g o r m) fun p => V (dclrD p.1 p.2) Q := by
  rw [evE, W_bind]
def _root_.DV.dcO : Option SO → Bool
  | some (.dct _) => true
  | _ => false
theorem isDc_loc {l : Nat} : isDc (.loc l) m = dcO m[l]? := by
  simp only [isDc]
  cases m[l]? with
  | none => rfl
  | some o => cases o <;> rfl
theorem dcO_dct {kvs : List (Key × D)} : dcO (some (.dct kvs)) = true := rfl
def _root_.DV.popV (l : Nat) (kvs : List (Key × D)) (y : Key) (d : D) (m : Store) : RD := match dget kvs y with
  | some v => .ok (v, m.set l (.dct (ddrop kvs y)))
  | none => .ok (d, m)
def _root_.DV.popX (l : Nat) (u : SO) (i d : D) (m : Store) : RD := match u with
  | .dct kvs => popK l kvs i d m
  | _ => .err
theorem wd_pop {l : Nat} {i d : D} : V (dpopD (.loc l) i d m) Q ↔ VO m[l]? fun u => V (popX l u i d m) Q := by
  simp only [dpopD]
  cases h : m[l]? with
  | none => exact ⟨fun ⟨b, e, q⟩ => (nomatch e), fun ⟨b, e, q⟩ => (nomatch e)⟩
  | some u => rw [WO_some]; cases u <;> exact Iff.rfl
theorem popX_dct {l : Nat} {kvs : List (Key × D)} {i d : D} : V (popX l (.dct kvs) i d m) Q ↔ VO (keyOf i) fun y => V (popV l kvs y d m) Q := by
  simp only [popX, popK]
  cases h : keyOf i with
  | none => exact ⟨fun ⟨b, e, q⟩ => (nomatch e), fun ⟨b, e, q⟩ => (nomatch e)⟩
  | some y => rw [WO_some]; exact Iff.rfl
theorem w_popV {l : Nat} {kvs : List (Key × D)} {y : Key} {d : D} : V (popV l kvs y d m) Q ↔ Vay (dget kvs y).isSome (Q ((dget kvs y).getD d, m.set l (.dct (ddrop kvs y)))) (Q (d, m)) := by
  unfold popV
  cases h : dget kvs y with
  | none => simp only [Option.isSome_none, Way_f, W_ok]
  | some v => simp only [Option.isSome_some, Way_t, Option.getD_some, W_ok]
theorem wd_get {a i d : D} : V (dgetD a i d m) Q ↔ VO (dctV m a) fun kvs => VO (keyOf i) fun y => Q ((dget kvs y).getD d, m) := by
  unfold dgetD
  cases h : dctV m a with
  | none => exact ⟨fun ⟨b, e, q⟩ => (nomatch e), fun ⟨b, e, q⟩ => (nomatch e)⟩
  | some kvs =>
    rw [WO_some]
    simp only [getK]
    cases h : keyOf i with
    | none => exact ⟨fun ⟨b, e, q⟩ => (nomatch e), fun ⟨b, e, q⟩ => (nomatch e)⟩
    | some y => rw [WO_some, W_ok]
def _root_.DV.dctO : Option SO → Option (List (Key × D))
  | some (.dct kvs) => some kvs
  | _ => none
theorem dctV_dct {kvs : List (Key × D)} : dctV m (.dct kvs) = some kvs := rfl
theorem dctV_loc {l : Nat} : dctV m (.loc l) = dctO m[l]? := by
  simp only [dctV]
  cases m[l]? with
  | none => rfl
  | some o => cases o <;> rfl
theorem dctO_dct {kvs : List (Key × D)} : dctO (some (.dct kvs)) = some kvs := rfl
def _root_.DV.clrO (l : Nat) (u : SO) (m : Store) : RD := match u with
  | .dct _ => .ok (.non, m.set l (.dct []))
  | _ => .err
theorem wd_clr {l : Nat} : V (dclrD (.loc l) m) Q ↔ VO m[l]? fun u => V (clrO l u m) Q := by
  simp only [dclrD]
  cases h : m[l]? with
  | none => exact ⟨fun ⟨b, e, q⟩ => (nomatch e), fun ⟨b, e, q⟩ => (nomatch e)⟩
  | some u => rw [WO_some]; cases u <;> exact Iff.rfl
theorem clrO_dct {l : Nat} {kvs : List (Key × D)} : V (clrO l (.dct kvs) m) Q ↔ Q (.non, m.set l (.dct [])) := W_ok
theorem w_pr2 {v w : D} {R : D × D → Prop} : V (pr2 (.tup [v, w])) R ↔ R (v, w) := W_ok
theorem ws_swp {a i b j e : E} {R : Fl × Fr × Store → Prop} : V (evS g (.swp a i b j e) r m) R ↔ V (evE g e r m) fun p => V (pr2 p.1) fun vw => V (evE g a r p.2) fun x => V (evE g i r x.2) fun y => V (setD x.1 y.1 vw.1 y.2) fun m4 => V (evE g b r m4) fun x' => V (evE g j r x'.2) fun y' => V (setD x'.1 y'.1 vw.2 y'.2) fun m7 => R (.next, r, m7) := by
  rw [evS]; simp only [W_bind, W_noX, W_ok]
end
end DV.V0

end
section
set_option Elab.async false
set_option linter.all false
set_option maxRecDepth 100000
set_option autoImplicit false
set_option maxHeartbeats 2000000
namespace DV
open PySem (Str)
section
variable {m : Store} {f : Bool} {i j : Int} {x y : Str} {Q : D × Store → Prop} {xs ys : List D}
theorem wo_add : W (binD f .add (.int i) (.int j) m) Q ↔ Q (.int (i + j), m) := V0.wo_add
theorem wo_sub : W (binD f .sub (.int i) (.int j) m) Q ↔ Q (.int (i - j), m) := V0.wo_sub
theorem wo_mul : W (binD f .mul (.int i) (.int j) m) Q ↔ Sd (mulOk i j) (Q (.int (i * j), m)) := V0.wo_mul
theorem wo_fdiv : W (binD f .fdiv (.int i) (.int j) m) Q ↔ Sd (0 < j ∧ j.natAbs.log2 < 9000) (Q (.int (i / j), m)) := V0.wo_fdiv
theorem wo_mod : W (binD f .mod (.int i) (.int j) m) Q ↔ Sd (0 < j) (Q (.int (i % j), m)) := V0.wo_mod
theorem wo_pow : W (binD f .pow (.int i) (.int j) m) Q ↔ Sd (0 ≤ j ∧ j ≤ 1000000 ∧ i.natAbs < 2 ^ 64) (Q (.int (i ^ j.toNat), m)) := V0.wo_pow
theorem wo_addS : W (binD f .add (.str x) (.str y) m) Q ↔ Sd (x.length + y.length ≤ sizeMax) (Q (.str (x ++ y), m)) := V0.wo_addS
theorem wo_addT : W (binD f .add (.tup xs) (.tup ys) m) Q ↔ Sd ((xs ++ ys).length ≤ sizeMax) (Q (.tup (xs ++ ys), m)) := V0.wo_addT
theorem wo_addL : W (binD f .add (.lst xs) (.lst ys) m) Q ↔ W (newL f (xs ++ ys) m) Q := V0.wo_addL
theorem wo_addLo {l : Nat} {b : D} : W (binD f .add (.loc l) b m) Q ↔ WO (lstX m (.loc l)) fun xs => WO (lstX m b) fun ys => W (newL f (xs ++ ys) m) Q := V0.wo_addLo
theorem wo_addLl {l : Nat} : W (binD f .add (.lst xs) (.loc l) m) Q ↔ WO (lstX m (.loc l)) fun ys => W (newL f (xs ++ ys) m) Q := V0.wo_addLl
theorem wo_mulS : W (binD f .mul (.str x) (.int i) m) Q ↔ Sd (-(2 ^ 62) < i ∧ i < 2 ^ 62 ∧ x.length * i.toNat ≤ sizeMax) (Q (.str (PySem.Txt.mul x i), m)) := V0.wo_mulS
theorem wo_mulL : W (binD f .mul (.lst xs) (.int i) m) Q ↔ Sd (-(2 ^ 62) < i ∧ i < 2 ^ 62 ∧ xs.length * i.toNat ≤ sizeMax) (W (newL f (rep i.toNat xs) m) Q) := V0.wo_mulL
theorem wo_mulT : W (binD f .mul (.tup xs) (.int i) m) Q ↔ Sd (xs ≠ [] ∧ 2 ≤ i ∧ i ≤ 1000 ∧ xs.length ≤ 1000) (Sd ((rep i.toNat xs).length ≤ sizeMax) (Q (.tup (rep i.toNat xs), m))) := V0.wo_mulT
theorem wo_neg : W (negD (.int i) m) Q ↔ Q (.int (-i), m) := V0.wo_neg
variable {R : Bool → Prop} {a b : D}
theorem wc_eqI : W (cmpB .eq (.int i) (.int j) m) R ↔ R (decide (i = j)) := V0.wc_eqI
theorem wc_neI : W (cmpB .ne (.int i) (.int j) m) R ↔ R (!decide (i = j)) := V0.wc_neI
theorem wc_ltI : W (cmpB .lt (.int i) (.int j) m) R ↔ R (decide (i < j)) := V0.wc_ltI
theorem wc_gtI : W (cmpB .gt (.int i) (.int j) m) R ↔ R (decide (j < i)) := V0.wc_gtI
theorem wc_leI : W (cmpB .le (.int i) (.int j) m) R ↔ R (decide (i ≤ j)) := V0.wc_leI
theorem wc_geI : W (cmpB .ge (.int i) (.int j) m) R ↔ R (decide (j ≤ i)) := V0.wc_geI
theorem wc_eqS : W (cmpB .eq (.str x) (.str y) m) R ↔ R (decide (x = y)) := V0.wc_eqS
theorem wc_neS : W (cmpB .ne (.str x) (.str y) m) R ↔ R (!decide (x = y)) := V0.wc_neS
theorem tr_free {d : D} (h : d.under 0 = true) : tr m d = some d := V0.tr_free h
theorem wc_eqD (ha : a.under 0 = true) (hb : b.under 0 = true) (ho : eqOk a b) : W (cmpB .eq a b m) R ↔ R (eqD a b) := V0.wc_eqD ha hb ho
theorem wc_neD (ha : a.under 0 = true) (hb : b.under 0 = true) (ho : eqOk a b) : W (cmpB .ne a b m) R ↔ R (!eqD a b) := V0.wc_neD ha hb ho
theorem wc_in {a b : D} : W (cmpB .in_ a b m) R ↔ W (inM m a b) R := V0.wc_in
theorem wc_notin {a b : D} : W (cmpB .notin a b m) R ↔ W (inM m a b) fun c => R (!c) := V0.wc_notin
/-! ### items -/
theorem wi_S : W (ixS xs (.int i) m) Q ↔ WO (at_ xs i) fun d => Q (d, m) := V0.wi_S
theorem wi_tup : W (ixD (.tup xs) (.int i) m) Q ↔ WO (at_ xs i) fun d => Q (d, m) := V0.wi_tup
theorem wi_lst : W (ixD (.lst xs) (.int i) m) Q ↔ WO (at_ xs i) fun d => Q (d, m) := V0.wi_lst
theorem wi_scr : W (ixD (.scr xs) (.int i) m) Q ↔ WO (at_ xs i) fun d => Q (d, m) := V0.wi_scr
theorem wi_loc {l : Nat} {d : D} : W (ixD (.loc l) d m) Q ↔ WO m[l]? fun o => W (ixO o d m) Q := V0.wi_loc
theorem wi_lo {d : D} : ixO (.lst xs) d m = ixS xs d m := V0.wi_lo
theorem wi_do {d : D} {kvs : List (Key × D)} : ixO (.dct kvs) d m = ixK kvs d m := V0.wi_do
theorem at_nat {k : Nat} : at_ xs (k : Int) = xs[k]? := V0.at_nat
theorem at_pos (h : 0 ≤ i) : at_ xs i = xs[i.toNat]? := V0.at_pos h
theorem at_some {d : D} (h : 0 ≤ i) (e : xs[i.toNat]? = some d) : at_ xs i = some d := V0.at_some h e
variable {x0 x1 x2 x3 x4 x5 : D}
theorem at_0 : at_ (x0 :: xs) 0 = some x0 := V0.at_0
theorem at_1 : at_ (x0 :: x1 :: xs) 1 = some x1 := V0.at_1
theorem at_2 : at_ (x0 :: x1 :: x2 :: xs) 2 = some x2 := V0.at_2
theorem at_3 : at_ (x0 :: x1 :: x2 :: x3 :: xs) 3 = some x3 := V0.at_3
theorem at_4 : at_ (x0 :: x1 :: x2 :: x3 :: x4 :: xs) 4 = some x4 := V0.at_4
theorem at_5 : at_ (x0 :: x1 :: x2 :: x3 :: x4 :: x5 :: xs) 5 = some x5 := V0.at_5
theorem at_if {c : Bool} : at_ (x0 :: x1 :: xs) (if c = true then 1 else 0) = some (if c = true then x1 else x0) := V0.at_if
/-! ### built-ins -/
theorem wb_lenS {x : Str} : W (biD f .len [.str x] m) Q ↔ Sd (x.length ≤ sizeMax) (Q (.int x.length, m)) := V0.wb_lenS
theorem wb_lenT : W (biD f .len [.tup xs] m) Q ↔ Q (.int xs.length, m) := V0.wb_lenT
theorem wb_lenL : W (biD f .len [.lst xs] m) Q ↔ Q (.int xs.length, m) := V0.wb_lenL
theorem wb_lenScr : W (biD f .len [.scr xs] m) Q ↔ Q (.int xs.length, m) := V0.wb_lenScr
theorem lenO_lst : lenO (.lst xs) = .ok (xs.length : Int) := V0.lenO_lst
theorem lenO_dct {kvs : List (Key × D)} : lenO (.dct kvs) = .ok (kvs.length : Int) := V0.lenO_dct
theorem wb_lenLo {l : Nat} : W (biD f .len [.loc l] m) Q ↔ WO m[l]? fun o => W (lenO o) fun n => Q (.int n, m) := V0.wb_lenLo
theorem wb_abs : W (biD f .abs [.int i] m) Q ↔ Q (.int (if i < 0 then -i else i), m) := V0.wb_abs
theorem wb_intI : W (biD f .int [.int i] m) Q ↔ Q (.int i, m) := V0.wb_intI
theorem wb_intB {b : Bool} : W (biD f .int [.bl b] m) Q ↔ Q (.int (if b then 1 else 0), m) := V0.wb_intB
theorem wb_bool {b : Bool} : W (biD f .bool [.bl b] m) Q ↔ Q (.bl b, m) := V0.wb_bool
theorem wb_strS {x : Str} : W (biD f .str [.str x] m) Q ↔ Q (.str x, m) := V0.wb_strS
theorem wb_strI : W (biD f .str [.int i] m) Q ↔ Sd (i.natAbs.log2 < 1920) (Q (.str (toString i : String), m)) := V0.wb_strI
theorem wb_min2 : W (biD f .min2 [.int i, .int j] m) Q ↔ Q (.int (if j < i then j else i), m) := V0.wb_min2
theorem wb_max2 : W (biD f .max2 [.int i, .int j] m) Q ↔ Q (.int (if j > i then j else i), m) := V0.wb_max2
theorem wb_tupT : W (biD f .tuple [.tup xs] m) Q ↔ Sd (xs.length ≤ sizeMax) (Q (.tup xs, m)) := V0.wb_tupT
theorem wb_tupL : W (biD f .tuple [.lst xs] m) Q ↔ Sd (xs.length ≤ sizeMax) (Q (.tup xs, m)) := V0.wb_tupL
theorem wb_tupLo {l : Nat} : W (biD f .tuple [.loc l] m) Q ↔ WO (lstX m (.loc l)) fun xs => Sd (xs.length ≤ sizeMax) (Q (.tup xs, m)) := V0.wb_tupLo
theorem wb_all {bs : List Bool} (h : bools xs = some bs) : W (biD f .all [.lst xs] m) Q ↔ Q (.bl (bs.all id), m) := V0.wb_all h
theorem wb_any {bs : List Bool} (h : bools xs = some bs) : W (biD f .any [.lst xs] m) Q ↔ Q (.bl (bs.any id), m) := V0.wb_any h
/-! ### methods, stores -/
theorem lstX_loc {l : Nat} : lstX m (.loc l) = (m[l]?).bind fun o => match o with | .lst xs => some xs | _ => none := V0.lstX_loc
theorem lstX_lst : lstX m (.lst xs) = some xs := V0.lstX_lst
theorem appO_lst {l : Nat} {v : D} : W (appO l (.lst xs) v m) Q ↔ Sd (xs.length < sizeMax) (Q (.non, m.set l (.lst (xs ++ [v])))) := V0.appO_lst
theorem wm_append {l : Nat} {v : D} : W (mtD f .append (.loc l) [v] m) Q ↔ WO m[l]? fun o => W (appO l o v m) Q := V0.wm_append
theorem extO_lst {l : Nat} {v : D} : W (extO l (.lst xs) v m) Q ↔ WO (lstX m v) fun zs => Sd (xs.length + zs.length ≤ sizeMax) (Q (.non, m.set l (.lst (xs ++ zs)))) := V0.extO_lst
theorem wm_extend {l : Nat} {v : D} : W (mtD f .extend (.loc l) [v] m) Q ↔ WO m[l]? fun o => W (extO l o v m) Q := V0.wm_extend
theorem recv_loc {l : Nat} {t : Mt} : recvOk t (.loc l) m = recvO m[l]? := V0.recv_loc
theorem recvO_lst : recvO (some (.lst xs)) = true := V0.recvO_lst
theorem ws_set {l : Nat} {d v : D} {Q : Store → Prop} : W (setD (.loc l) d v m) Q ↔ WO m[l]? fun o => W (setO l o d v m) Q := V0.ws_set
theorem setO_lst {l : Nat} {v : D} {Q : Store → Prop} : W (setO l (.lst xs) (.int i) v m) Q ↔ WO (ixN xs.length i) fun j => Q (m.set l (.lst (xs.set j v))) := V0.setO_lst
end
/-! ### what is walked -/
section
variable {m : Store} {xs : List D} {Q : Src × Store → Prop}
theorem setO_dct {l : Nat} {d v : D} {kvs : List (Key × D)} {Q : Store → Prop} : W (setO l (.dct kvs) d v m) Q ↔ WO (keyOf d) fun k => Sd (kvs.length < sizeMax) (Q (m.set l (.dct (dput kvs k v)))) := V0.setO_dct
theorem wq_tup : W (seqI (.tup xs) m) Q ↔ Q (⟨xs, fun m' => seqV m' (.tup xs) = some xs⟩, m) := V0.wq_tup
theorem wq_lst : W (seqI (.lst xs) m) Q ↔ Q (⟨xs, fun m' => seqV m' (.lst xs) = some xs⟩, m) := V0.wq_lst
theorem wq_scr : W (seqI (.scr xs) m) Q ↔ Q (⟨xs, fun m' => seqV m' (.scr xs) = some xs⟩, m) := V0.wq_scr
theorem wq_str {z : Str} : W (seqI (.str z) m) Q ↔ Q (⟨z.cps.toList.map sign, fun _ => True⟩, m) := V0.wq_str
theorem wq_loc {l : Nat} : W (seqI (.loc l) m) Q ↔ WO (seqV m (.loc l)) fun xs => Q (⟨xs, fun m' => seqV m' (.loc l) = some xs⟩, m) := V0.wq_loc
end
/-! ### more rules -/
section
variable {g : G} {r : Fr} {m : Store} {e : E} {f : Bool} {xs : List D} {lo hi : Option Int} {Q : D × Store → Prop}
theorem we_isi {t : Ty} : W (evE g (.isi t e) r m) Q ↔ W (evE g e r m) fun p => WO (tyB p.2 p.1 t) fun b => Q (.bl b, p.2) := V0.we_isi
theorem wsl_tup : W (slD f (.tup xs) lo hi m) Q ↔ Sd ((cut xs lo hi).length ≤ sizeMax) (Q (.tup (cut xs lo hi), m)) := V0.wsl_tup
theorem wsl_str {z : Str} : W (slD f (.str z) lo hi m) Q ↔ Sd (z.length ≤ sizeMax) (Q (.str (cutStr z lo hi), m)) := V0.wsl_str
theorem wsl_lst : W (slD f (.lst xs) lo hi m) Q ↔ W (newL f (cut xs lo hi) m) Q := V0.wsl_lst
theorem wsl_scr : W (slD f (.scr xs) lo hi m) Q ↔ W (newL f (cut xs lo hi) m) Q := V0.wsl_scr
theorem wsl_loc {l : Nat} : W (slD f (.loc l) lo hi m) Q ↔ WO (lstV m (.loc l)) fun xs => W (newL f (cut xs lo hi) m) Q := V0.wsl_loc
theorem popO_0 {l : Nat} {x : D} : W (popO l (.lst (x :: xs)) (.int 0) m) Q ↔ Q (x, m.set l (.lst xs)) := V0.popO_0
theorem wm_popAt {l : Nat} {v : D} : W (mtD f .popAt (.loc l) [v] m) Q ↔ WO m[l]? fun o => W (popO l o v m) Q := V0.wm_popAt
end
/-! ### methods of texts -/
section
variable {g : G} {r : Fr} {m : Store} {e a : E} {f : Bool} {xs : List D} {x y : Str} {Q : D × Store → Prop}
theorem we_sm0 {t : Sm} : W (evE g (.sm0 t e) r m) Q ↔ W (evE g e r m) fun p => W (sm0D t p.1 p.2) Q := V0.we_sm0
theorem we_sm1 {t : Sm} : W (evE g (.sm1 f t e a) r m) Q ↔ W (evE g e r m) fun p => W (evE g a r p.2) fun q => W (sm1D f t p.1 q.1 q.2) Q := V0.we_sm1
theorem we_rev : W (evE g (.rev f e) r m) Q ↔ W (evE g e r m) fun p => W (revD f p.1 p.2) Q := V0.we_rev
theorem wsm_upper : W (sm0D .upper (.str x) m) Q ↔ Sd (x.length ≤ 1000000) (Q (.str (PySem.Txt.upper x), m)) := V0.wsm_upper
theorem wsm_join {d : D} : W (sm1D f .join (.str x) d m) Q ↔ WO (seqV m d) fun ys => WO (strsS ys) fun ss => Sd ((ss.map (·.length)).sum + ss.length * x.length ≤ sizeMax) (Q (.str (PySem.Txt.join x ss), m)) := V0.wsm_join
theorem wsm_split : W (sm1D f .split (.str x) (.str y) m) Q ↔ Sd ((y.length == 0) = false ∧ x.length + 2 ≤ sizeMax) (W (newL f ((PySem.Txt.split x y).map .str) m) Q) := V0.wsm_split
theorem wsm_part : W (sm1D f .partition (.str x) (.str y) m) Q ↔ Sd ((y.length == 0) = false ∧ x.length ≤ sizeMax) (Q (.tup [.str (PySem.Txt.partition x y).1, .str (PySem.Txt.partition x y).2.1, .str (PySem.Txt.partition x y).2.2], m)) := V0.wsm_part
theorem wrev_lst : W (revD f (.lst xs) m) Q ↔ W (newL f xs.reverse m) Q := V0.wrev_lst
theorem wrev_tup : W (revD f (.tup xs) m) Q ↔ W (newT xs.reverse m) Q := V0.wrev_tup
theorem wrev_loc {l : Nat} : W (revD f (.loc l) m) Q ↔ WO (lstV m (.loc l)) fun xs => W (newL f xs.reverse m) Q := V0.wrev_loc
end
/-! ### signs of texts -/
section
variable {m : Store} {x : Str} {i : Int} {Q : D × Store → Prop}
theorem wi_str : W (ixD (.str x) (.int i) m) Q ↔ Sd (x.length ≤ sizeMax) (WO (atC x i) fun c => Q (sign c, m)) := V0.wi_str
end
/-! ### displays of dicts -/
section
variable {g : G} {r : Fr} {m : Store} {k v : E} {f : Bool} {ps : Ps} {acc : List (Key × D)} {Q : D × Store → Prop}
theorem wdct_nil : W (evDct g f .nil r m acc) Q ↔ W (newD f acc m) Q := V0.wdct_nil
theorem wdct_cons : W (evDct g f (.cons k v ps) r m acc) Q ↔ W (evE g k r m) fun p => W (evE g v r p.2) fun q => WO (keyOf p.1) fun i => W (evDct g f ps r q.2 (dput acc i q.1)) Q := V0.wdct_cons
theorem W_newD0 : W (newD false acc m) Q ↔ Sd (acc.length ≤ sizeMax) (Q (.dct acc, m)) := V0.W_newD0
theorem W_newD1 : W (newD true acc m) Q ↔ Sd (acc.length ≤ sizeMax) (Q (.loc m.length, m ++ [.dct acc])) := V0.W_newD1
end
/-! more -/
section
variable {g : G} {r r' : Fr} {m : Store} {a b c e i : E} {f : Bool} {Q : D × Store → Prop}
theorem we_lrg : W (evE g (.lrg f a) r m) Q ↔ W (evE g a r m) fun p => W (lrgD f p.1 p.2) Q := V0.we_lrg
theorem w_lrg {n : Int} : W (lrgD f (.int n) m) Q ↔ Sd (-(2 ^ 62) ≤ n ∧ n ≤ 16777216) (W (newL f (rngL 0 n.toNat 1) m) Q) := V0.w_lrg
theorem w_rng3N {i j : Int} {Q : Src × Store → Prop} : W (rng3D i j (-1) m) Q ↔ Sd (small62 i ∧ small62 j) (Q (⟨rngL i (i - j).toNat (-1), fun _ => True⟩, m)) := V0.w_rng3N
theorem w_rng3P {i j k : Int} {Q : Src × Store → Prop} (h : k ≠ -1) : W (rng3D i j k m) Q ↔ Sd (small61 i ∧ small61 j ∧ 1 ≤ k ∧ k ≤ 1000) (Q (⟨rngL i (rngN i j k) k, fun _ => True⟩, m)) := V0.w_rng3P h
theorem w_rng32 {i j : Int} {Q : Src × Store → Prop} : W (rng3D i j 2 m) Q ↔ Sd (small61 i ∧ small61 j) (Q (⟨rngL i (rngN i j 2) 2, fun _ => True⟩, m)) := V0.w_rng32
theorem we_lset : W (evE g (.lset a) r m) Q ↔ W (evE g a r m) fun p => W (lsetD p.1 p.2) Q := V0.we_lset
theorem strsS_mapX (ss : List Str) : strsS (ss.map .str) = some ss := V0.strsS_mapX ss
theorem w_lset {ss : List Str} {d : D} (h : seqV m d = some (ss.map .str)) : W (lsetD d m) Q ↔ Sd (ss.length < 4000) (Q (.int (onceS ss).length, m)) := V0.w_lset h
theorem w_lsetT {ss : List Str} : W (lsetD (.tup (ss.map .str)) m) Q ↔ Sd (ss.length < 4000) (Q (.int (onceS ss).length, m)) := V0.w_lsetT
theorem w_lsetL {ss : List Str} : W (lsetD (.lst (ss.map .str)) m) Q ↔ Sd (ss.length < 4000) (Q (.int (onceS ss).length, m)) := V0.w_lsetL
theorem we_isB {n k : Bool} : W (evE g (.isB n k a) r m) Q ↔ W (evE g a r m) fun p => W (isBD n k p.1 p.2) Q := V0.we_isB
theorem w_isB {n k b : Bool} : W (isBD n k (.bl b) m) Q ↔ Q (.bl (if n then !decide (b = k) else decide (b = k)), m) := V0.w_isB
theorem we_orv : W (evE g (.orv a b) r m) Q ↔ W (evE g a r m) fun p => W (orD p.1 p.2 ((evE g b r p.2).bind fun q => onlyI q.1 q.2)) Q := V0.we_orv
theorem w_orI {n : Int} {k : RD} : W (orD (.int n) m k) Q ↔ Way (decide (n = 0)) (W k Q) (Q (.int n, m)) := V0.w_orI
theorem w_orN {k : RD} : W (orD .non m k) Q ↔ W k Q := V0.w_orN
theorem w_orB {v : RD} : W (v.bind fun q => onlyI q.1 q.2) Q ↔ W v fun q => W (onlyI q.1 q.2) Q := V0.w_orB
theorem w_only {n : Int} : W (onlyI (.int n) m) Q ↔ Q (.int n, m) := V0.w_only
theorem wb_sum {d : D} : W (biD f .sum [d] m) Q ↔ WO (lstV m d) fun xs => WO (intsD xs) fun ns => Q (.int ns.sum, m) := V0.wb_sum
theorem wb_min {d : D} : W (biD f .min [d] m) Q ↔ W (minA d m) Q := V0.wb_min
theorem wb_max {d : D} : W (biD f .max [d] m) Q ↔ W (maxA d m) Q := V0.wb_max
theorem wb_sorted {d : D} : W (biD f .sorted [d] m) Q ↔ W (sortedD f d m) Q := V0.wb_sorted
theorem wb_dict {d : D} : W (biD f .dict [d] m) Q ↔ W (dictL f d m) Q := V0.wb_dict
theorem wm_index {o v : D} : W (mtD f .index o [v] m) Q ↔ W (idxD o [v] m) Q := V0.wm_index
theorem w_augA {i j : Int} : W (augD .add (.int i) (.int j) m) Q ↔ Q (.int (i + j), m) := V0.w_augA
theorem w_augS {i j : Int} : W (augD .sub (.int i) (.int j) m) Q ↔ Q (.int (i - j), m) := V0.w_augS
end
/-! dicts walked, zip of three, lists of texts and of dicts -/
section
variable {g : G} {r r' : Fr} {m : Store} {a b c e i : E} {f : Bool} {u : Ss} {Q : D × Store → Prop}
theorem w_isDct {kvs : List (Key × D)} {Q : List (Key × D) × Store → Prop} : W (isDct (some (some (.dct kvs))) m) Q ↔ Q (kvs, m) := V0.w_isDct
theorem we_lcD {t : T} {own : List Nat} {j : Nat} {v : Option Bool} {c : Oe} : W (evE g (.lcD f t own j v c e) r m) Q ↔ W (isDct r[j]? m) fun p => W (loopL (fun _ => True) (turnE g t own c e r) (dItems v p.1) [] p.2) fun q => W (newL f q.1 q.2) Q := V0.we_lcD
theorem ws_forD {t : T} {j : Nat} {v : Option Bool} {Q : Fl × Fr × Store → Prop} : W (evS g (.forD t j v u) r m) Q ↔ W (isDct r[j]? m) fun p => W (loopF (fun _ => True) (turnS g t u) (dItems v p.1) r p.2) Q := V0.ws_forD
theorem we_litems : W (evE g (.litems f a) r m) Q ↔ W (evE g a r m) fun p => W (litemsD f p.1 p.2) Q := V0.we_litems
theorem w_litems {kvs : List (Key × D)} : W (litemsD f (.dct kvs) m) Q ↔ W (newL f (dItems false kvs) m) Q := V0.w_litems
theorem wb_list {d : D} : W (biD f .list [d] m) Q ↔ W (listD f d m) Q := V0.wb_list
theorem w_listS {x : Str} : W (listD f (.str x) m) Q ↔ W (newL f (x.cps.toList.map sign) m) Q := V0.w_listS
theorem w_listT {xs : List D} : W (listD f (.tup xs) m) Q ↔ W (newL f xs m) Q := V0.w_listT
theorem w_listL {xs : List D} : W (listD f (.lst xs) m) Q ↔ W (newL f xs m) Q := V0.w_listL
theorem w_listScr {xs : List D} : W (listD f (.scr xs) m) Q ↔ W (newL f xs m) Q := V0.w_listScr
theorem w_listD {kvs : List (Key × D)} : W (listD f (.dct kvs) m) Q ↔ W (newL f (kvs.map fun p => keyD p.1) m) Q := V0.w_listD
theorem w_dictD {kvs : List (Key × D)} : W (dictL f (.dct kvs) m) Q ↔ W (newD f kvs m) Q := V0.w_dictD
theorem we_zip3 {Q : Src × Store → Prop} : W (evI g (.zip3 a b c) r m) Q ↔ W (evE g a r m) fun p => W (evE g b r p.2) fun q => W (evE g c r q.2) fun s => WO (seqV s.2 p.1) fun xs => WO (seqV s.2 q.1) fun ys => WO (seqV s.2 s.1) fun zs => Q (⟨zipL3 xs ys zs, fun m' => seqV m' p.1 = some xs ∧ seqV m' q.1 = some ys ∧ seqV m' s.1 = some zs⟩, s.2) := V0.we_zip3
end
section
variable {g : G} {r : Fr} {m : Store} {Q : D × Store → Prop}
theorem we_isx {a : E} {cs : List String} : W (evE g (.isx a cs) r m) Q ↔ W (evE g a r m) fun p => W (isxD g.sub cs p.1 p.2) Q := V0.we_isx
theorem we_fld {a : E} {n : Str} : W (evE g (.fld a n) r m) Q ↔ W (evE g a r m) fun p => W (fldD g.init n p.1 p.2) Q := V0.we_fld
end
/-! ### dicts popped, asked, emptied; two places exchanged -/
section
variable {g : G} {r : Fr} {m : Store} {Q : D × Store → Prop} {o k x : E}
theorem we_dpop : W (evE g (.dpop o k x) r m) Q ↔ W (evE g o r m) fun p => Sd (isDc p.1 p.2 = true) (W (evE g k r p.2) fun q => W (evE g x r q.2) fun u => W (dpopD p.1 q.1 u.1 u.2) Q) := V0.we_dpop
theorem we_dget : W (evE g (.dget o k x) r m) Q ↔ W (evE g o r m) fun p => Sd ((dctV p.2 p.1).isSome = true) (W (evE g k r p.2) fun q => W (evE g x r q.2) fun u => W (dgetD p.1 q.1 u.1 u.2) Q) := V0.we_dget
theorem we_tix {es : Es} {e : E} : W (evE g (.tix es e) r m) Q ↔ W (evEs g es r m) fun p => W (newT p.1 p.2) fun q => W (evE g e r q.2) fun z => W (tixD q.1 z.1 z.2) Q := V0.we_tix
theorem we_dclr : W (evE g (.dclr o) r m) Q ↔ W (evE g o r m) fun p => W (dclrD p.1 p.2) Q := V0.we_dclr
theorem isDc_loc {l : Nat} : isDc (.loc l) m = dcO m[l]? := V0.isDc_loc
theorem dcO_dct {kvs : List (Key × D)} : dcO (some (.dct kvs)) = true := V0.dcO_dct
theorem wd_pop {l : Nat} {i d : D} : W (dpopD (.loc l) i d m) Q ↔ WO m[l]? fun u => W (popX l u i d m) Q := V0.wd_pop
theorem popX_dct {l : Nat} {kvs : List (Key × D)} {i d : D} : W (popX l (.dct kvs) i d m) Q ↔ WO (keyOf i) fun y => W (popV l kvs y d m) Q := V0.popX_dct
theorem w_popV {l : Nat} {kvs : List (Key × D)} {y : Key} {d : D} : W (popV l kvs y d m) Q ↔ Way (dget kvs y).isSome (Q ((dget kvs y).getD d, m.set l (.dct (ddrop kvs y)))) (Q (d, m)) := V0.w_popV
theorem wd_get {a i d : D} : W (dgetD a i d m) Q ↔ WO (dctV m a) fun kvs => WO (keyOf i) fun y => Q ((dget kvs y).getD d, m) := V0.wd_get
theorem dctV_dct {kvs : List (Key × D)} : dctV m (.dct kvs) = some kvs := V0.dctV_dct
theorem dctV_loc {l : Nat} : dctV m (.loc l) = dctO m[l]? := V0.dctV_loc
theorem dctO_dct {kvs : List (Key × D)} : dctO (some (.dct kvs)) = some kvs := V0.dctO_dct
theorem wd_clr {l : Nat} : W (dclrD (.loc l) m) Q ↔ WO m[l]? fun u => W (clrO l u m) Q := V0.wd_clr
theorem clrO_dct {l : Nat} {kvs : List (Key × D)} : W (clrO l (.dct kvs) m) Q ↔ Q (.non, m.set l (.dct [])) := V0.clrO_dct
theorem w_pr2 {v w : D} {R : D × D → Prop} : W (pr2 (.tup [v, w])) R ↔ R (v, w) := V0.w_pr2
theorem ws_swp {a i b j e : E} {R : Fl × Fr × Store → Prop} : W (evS g (.swp a i b j e) r m) R ↔ W (evE g e r m) fun p => W (pr2 p.1) fun vw => W (evE g a r p.2) fun x => W (evE g i r x.2) fun y => W (setD x.1 y.1 vw.1 y.2) fun m4 => W (evE g b r m4) fun x' => W (evE g j r x'.2) fun y' => W (setD x'.1 y'.1 vw.2 y'.2) fun m7 => R (.next, r, m7) := V0.ws_swp
end
theorem bools_map {α : Type} (h : α → Bool) : ∀ l : List α, bools (l.map fun a => .bl (h a)) = some (l.map h)
  | [] => rfl
  | a :: l => by simp [bools, bools_map h l]
/-! ### a def -/
section
variable {g : G} {m m' : Store} {r : Fr} {Q : D × Store → Prop} {d d' : D} {c : Bool} {xs : List D}
def endR (c : Bool) (m m' : Store) : Fl → RD
  | .ret d => finR c d m m'
  | .next => finR c .non m m'
  | _ => .err
theorem W_run {np ns : Nat} {body : Ss} : W (runF g ⟨np, ns, c, body⟩ xs m) Q ↔ Sd (xs.length = np) (W (evSs g body (xs.map some ++ List.replicate (ns - np) none) m) fun p => W (endR c m p.2.2 p.1) Q) := by
  unfold runF
  rw [W_sd]
  show Sd _ (W (match evSs g body (xs.map some ++ List.replicate (ns - np) none) m with
    | .ok (fl, _, m') => (match fl with
      | .ret d => finR c d m m'
      | .next => finR c .non m m'
      | _ => .err)
    | .exc cn fs _ m' => finX c cn fs m m'
    | .err => .err) Q) ↔ _
  cases evSs g body (xs.map some ++ List.replicate (ns - np) none) m with
  | ok p =>
    obtain ⟨fl, r, m'⟩ := p
    rw [W_ok]
    cases fl <;> exact Iff.rfl
  | exc cn fs r' m' =>
    refine ⟨fun h => ⟨h.1, ?_⟩, fun h => ⟨h.1, ?_⟩⟩
    · obtain ⟨b, e, q⟩ := h.2
      exfalso
      replace e : finX c cn fs m m' = .ok b := e
      revert e
      unfold finX need
      split
      · split
        · split <;> exact fun e => nomatch e
        · exact fun e => nomatch e
      · exact fun e => nomatch e
    · obtain ⟨b, e, q⟩ := h.2
      cases e
  | err =>
    refine ⟨fun h => ⟨h.1, ?_⟩, fun h => ⟨h.1, ?_⟩⟩
    · obtain ⟨b, e, q⟩ := h.2
      cases e
    · obtain ⟨b, e, q⟩ := h.2
      cases e
theorem end_ret : endR c m m' (.ret d) = finR c d m m' := rfl
theorem end_next : endR c m m' .next = finR c .non m m' := rfl
/-- nothing new was made -/
theorem W_fin0 (ok : StOk m) (hd : d.under m.length = true) (q : Q (d, m)) : W (finR c d m m) Q := ⟨_, fin_same rfl ok hd, q⟩
theorem add_same {n : String} {fd : FD} : (g.add n fd).fn n = runF g fd := by simp [G.add]
theorem add_ne {n k : String} {fd : FD} (h : k ≠ n) : (g.add n fd).fn k = g.fn k := by simp [G.add, h]
end
mutual
theorem under_mono {n k : Nat} (h : n ≤ k) : ∀ d : D, d.under n = true → d.under k = true
  | .non, _ => by simp [D.under]
  | .bl _, _ => by simp [D.under]
  | .int _, _ => by simp [D.under]
  | .str _, _ => by simp [D.under]
  | .tup xs, q => by rw [D.under] at q ⊢; exact unders_mono h xs q
  | .lst xs, q => by rw [D.under] at q ⊢; exact unders_mono h xs q
  | .dct xs, q => by rw [D.under] at q ⊢; exact underK_mono h xs q
  | .loc l, q => by simp [D.under] at q ⊢; omega
  | .scr xs, q => by rw [D.under] at q ⊢; exact unders_mono h xs q
theorem unders_mono {n k : Nat} (h : n ≤ k) : ∀ d : List D, unders n d = true → unders k d = true
  | [], _ => by simp [unders]
  | x :: xs, q => by
    rw [unders, Bool.and_eq_true] at q ⊢
    exact ⟨under_mono h x q.1, unders_mono h xs q.2⟩
theorem underK_mono {n k : Nat} (h : n ≤ k) : ∀ d : List (Key × D), underK n d = true → underK k d = true
  | [], _ => by simp [underK]
  | (i, x) :: xs, q => by
    rw [underK, Bool.and_eq_true] at q ⊢
    exact ⟨under_mono h x q.1, underK_mono h xs q.2⟩
end
theorem under0 {n : Nat} {d : D} (h : d.under 0 = true) : d.under n = true := under_mono (Nat.zero_le n) d h
theorem unders_iff {n : Nat} : ∀ {xs : List D}, unders n xs = true ↔ ∀ x ∈ xs, x.under n = true
  | [] => by simp [unders]
  | x :: xs => by rw [unders, Bool.and_eq_true, unders_iff]; simp
theorem under_tup {n : Nat} {xs : List D} : (D.tup xs).under n = unders n xs := by rw [D.under]
theorem under_int {n : Nat} {i : Int} : (D.int i).under n = true := by rw [D.under]
theorem log_lit {n : Nat} (h : n < 1000000000000000000000000000000000000000000000000000000000000) : (n.log2 < 9000) = True := by
  refine eq_true ?_
  by_cases h0 : n = 0
  · subst h0; decide
  · exact Nat.lt_trans ((Nat.log2_lt h0).mpr (Nat.lt_trans h (by decide : _ < 2 ^ 200))) (by decide)
theorem seqV_loc {m : Store} {l : Nat} : seqV m (.loc l) = (m[l]?).bind fun o => match o with | .lst xs => some xs | _ => none := by
  simp only [seqV, lstV]
  cases m[l]? with
  | none => rfl
  | some o => cases o <;> rfl
theorem lstV_loc {m : Store} {l : Nat} : lstV m (.loc l) = (m[l]?).bind fun o => match o with | .lst xs => some xs | _ => none := by
  simp only [lstV]
  cases m[l]? with
  | none => rfl
  | some o => cases o <;> rfl
theorem seqV_tup {m : Store} {xs : List D} : seqV m (.tup xs) = some xs := rfl
theorem seqV_lst1 {m : Store} {xs : List D} : seqV m (.lst xs) = some xs := rfl
theorem seqV_scr1 {m : Store} {xs : List D} : seqV m (.scr xs) = some xs := rfl
theorem lstV_lst {m : Store} {xs : List D} : lstV m (.lst xs) = some xs := rfl
theorem lstV_scr {m : Store} {xs : List D} : lstV m (.scr xs) = some xs := rfl
theorem small62_iff {i : Int} : small62 i ↔ -4611686018427387904 ≤ i ∧ i < 4611686018427387904 := Iff.rfl
theorem small61_iff {i : Int} : small61 i ↔ -2305843009213693952 ≤ i ∧ i < 2305843009213693952 := Iff.rfl
theorem int_ite {c : Prop} [Decidable c] {i j : Int} : (if c then D.int i else D.int j) = D.int (if c then i else j) := by split <;> rfl
theorem keyOf_str {x : Str} : keyOf (.str x) = some (.inr x) := rfl
theorem keyOf_int {i : Int} : keyOf (.int i) = some (.inl i) := rfl
theorem dput_nil {k : Key} {v : D} : dput [] k v = [(k, v)] := rfl
theorem ty_non_int {m : Store} : tyB m .non .int = some false := rfl
theorem ty_non_str {m : Store} : tyB m .non .str = some false := rfl
theorem ty_non_bool {m : Store} : tyB m .non .bool = some false := rfl
theorem ty_non_tuple {m : Store} : tyB m .non .tuple = some false := rfl
theorem ty_non_list {m : Store} : tyB m .non .list = some false := rfl
theorem ty_non_dict {m : Store} : tyB m .non .dict = some false := rfl
theorem ty_bl_int {m : Store} {b : Bool} : tyB m (.bl b) .int = some true := rfl
theorem ty_bl_str {m : Store} {b : Bool} : tyB m (.bl b) .str = some false := rfl
theorem ty_bl_bool {m : Store} {b : Bool} : tyB m (.bl b) .bool = some true := rfl
theorem ty_bl_tuple {m : Store} {b : Bool} : tyB m (.bl b) .tuple = some false := rfl
theorem ty_bl_list {m : Store} {b : Bool} : tyB m (.bl b) .list = some false := rfl
theorem ty_bl_dict {m : Store} {b : Bool} : tyB m (.bl b) .dict = some false := rfl
theorem ty_int_int {m : Store} {b : Int} : tyB m (.int b) .int = some true := rfl
theorem ty_int_str {m : Store} {b : Int} : tyB m (.int b) .str = some false := rfl
theorem ty_int_bool {m : Store} {b : Int} : tyB m (.int b) .bool = some false := rfl
theorem ty_int_tuple {m : Store} {b : Int} : tyB m (.int b) .tuple = some false := rfl
theorem ty_int_list {m : Store} {b : Int} : tyB m (.int b) .list = some false := rfl
theorem ty_int_dict {m : Store} {b : Int} : tyB m (.int b) .dict = some false := rfl
theorem ty_str_int {m : Store} {b : Str} : tyB m (.str b) .int = some false := rfl
theorem ty_str_str {m : Store} {b : Str} : tyB m (.str b) .str = some true := rfl
theorem ty_str_bool {m : Store} {b : Str} : tyB m (.str b) .bool = some false := rfl
theorem ty_str_tuple {m : Store} {b : Str} : tyB m (.str b) .tuple = some false := rfl
theorem ty_str_list {m : Store} {b : Str} : tyB m (.str b) .list = some false := rfl
theorem ty_str_dict {m : Store} {b : Str} : tyB m (.str b) .dict = some false := rfl
theorem ty_tup_int {m : Store} {b : List D} : tyB m (.tup b) .int = some false := rfl
theorem ty_tup_str {m : Store} {b : List D} : tyB m (.tup b) .str = some false := rfl
theorem ty_tup_bool {m : Store} {b : List D} : tyB m (.tup b) .bool = some false := rfl
theorem ty_tup_tuple {m : Store} {b : List D} : tyB m (.tup b) .tuple = some true := rfl
theorem ty_tup_list {m : Store} {b : List D} : tyB m (.tup b) .list = some false := rfl
theorem ty_tup_dict {m : Store} {b : List D} : tyB m (.tup b) .dict = some false := rfl
theorem ty_lst_int {m : Store} {b : List D} : tyB m (.lst b) .int = some false := rfl
theorem ty_lst_str {m : Store} {b : List D} : tyB m (.lst b) .str = some false := rfl
theorem ty_lst_bool {m : Store} {b : List D} : tyB m (.lst b) .bool = some false := rfl
theorem ty_lst_tuple {m : Store} {b : List D} : tyB m (.lst b) .tuple = some false := rfl
theorem ty_lst_list {m : Store} {b : List D} : tyB m (.lst b) .list = some true := rfl
theorem ty_lst_dict {m : Store} {b : List D} : tyB m (.lst b) .dict = some false := rfl
theorem ty_dct_int {m : Store} {b : List (Key × D)} : tyB m (.dct b) .int = some false := rfl
theorem ty_dct_str {m : Store} {b : List (Key × D)} : tyB m (.dct b) .str = some false := rfl
theorem ty_dct_bool {m : Store} {b : List (Key × D)} : tyB m (.dct b) .bool = some false := rfl
theorem ty_dct_tuple {m : Store} {b : List (Key × D)} : tyB m (.dct b) .tuple = some false := rfl
theorem ty_dct_list {m : Store} {b : List (Key × D)} : tyB m (.dct b) .list = some false := rfl
theorem ty_dct_dict {m : Store} {b : List (Key × D)} : tyB m (.dct b) .dict = some true := rfl
theorem ty_scr_int {m : Store} {b : List D} : tyB m (.scr b) .int = some false := rfl
theorem ty_scr_str {m : Store} {b : List D} : tyB m (.scr b) .str = some false := rfl
theorem ty_scr_bool {m : Store} {b : List D} : tyB m (.scr b) .bool = some false := rfl
theorem ty_scr_tuple {m : Store} {b : List D} : tyB m (.scr b) .tuple = some false := rfl
theorem ty_scr_list {m : Store} {b : List D} : tyB m (.scr b) .list = some true := rfl
theorem ty_scr_dict {m : Store} {b : List D} : tyB m (.scr b) .dict = some false := rfl
theorem sizeMax_val : sizeMax = 16777216 := rfl
theorem isNon_non : isNon .non = true := rfl
theorem isNon_bl {b : Bool} : isNon (.bl b) = false := rfl
theorem isNon_int {b : Int} : isNon (.int b) = false := rfl
theorem isNon_str {b : Str} : isNon (.str b) = false := rfl
theorem isNon_tup {b : List D} : isNon (.tup b) = false := rfl
theorem isNon_lst {b : List D} : isNon (.lst b) = false := rfl
theorem isNon_dct {b : List (Key × D)} : isNon (.dct b) = false := rfl
theorem wayD {p P Q : Prop} [Decidable p] (h : p → P) (k : ¬p → Q) : Way (decide p) P Q := ⟨fun e => h (of_decide_eq_true e), fun e => k (of_decide_eq_false e)⟩
theorem way_join {α : Type} {b : Bool} {u v : Res α} {P Q : α → Prop} (h : Way b (W u P) (W v P)) (k : ∀ a, P a → Q a) : Way b (W u Q) (W v Q) := ⟨fun e => (h.1 e).mono k, fun e => (h.2 e).mono k⟩
theorem Way_not {b : Bool} {P Q : Prop} : Way (!b) P Q ↔ Way b Q P := by cases b <;> simp [Way_t, Way_f]
/-! ### exceptions -/
section
variable {g : G} {r : Fr} {m : Store}
end
-- walks as far as the rules go
end DV

end
section
set_option Elab.async false
set_option linter.all false
set_option maxRecDepth 100000
set_option autoImplicit false
set_option maxHeartbeats 2000000
/-! Loops; the hand kept in a store. -/
namespace DV
open PySem (Str)
section
open Classical
/-- a comprehension by what holds behind k turns -/
theorem W_loopL {src : Store → Prop} {turn : D → Store → Res (Option D × Store)} {Q : List D × Store → Prop} (I : Nat → List D → Store → Prop) :
    ∀ (xs acc : List D) (m : Store) (k : Nat) , I k acc m → (∀ k acc m, I k acc m → src m) →
    (∀ j x, xs[j]? = some x → ∀ acc m, I (k + j) acc m → W (turn x m) fun q => I (k + j + 1) (acc ++ q.1.toList) q.2) →
    (∀ acc m, I (k + xs.length) acc m → Q (acc, m)) → W (loopL src turn xs acc m) Q
  | [], acc, m, k, h0, hs, ht, hq => by
    rw [loopL, W_need, W_ok]
    exact ⟨hs _ _ _ h0, hq _ _ h0⟩
  | x :: xs, acc, m, k, h0, hs, ht, hq => by
    rw [loopL, W_need, W_bind, W_noX]
    refine ⟨hs _ _ _ h0, (ht 0 x rfl acc m h0).mono fun q hI => ?_⟩
    obtain ⟨o, m'⟩ := q
    have rest : W (loopL src turn xs (acc ++ o.toList) m') Q := by
      refine W_loopL I xs (acc ++ o.toList) m' (k + 1) (by exact hI) hs (fun j y hy acc m h => ?_) (fun acc m h => hq acc m ?_)
      · have := ht (j + 1) y (by simpa using hy) acc m (by rw [show k + (j + 1) = k + 1 + j by omega]; exact h)
        rw [show k + 1 + j + 1 = k + (j + 1) + 1 by omega]
        exact this
      · rw [List.length_cons, show k + (xs.length + 1) = k + 1 + xs.length by omega]; exact h
    cases o with
    | none => simpa using rest
    | some y => exact rest
/-- turns that change nothing and each give one -/
theorem W_map {src : Store → Prop} {turn : D → Store → Res (Option D × Store)} {Q : List D × Store → Prop} {xs acc : List D} {m : Store} (F : D → D) (hs : src m)
    (ht : ∀ x ∈ xs, W (turn x m) fun q => q = (some (F x), m)) (hq : Q (acc ++ xs.map F, m)) : W (loopL src turn xs acc m) Q := by
  refine W_loopL (fun k a s => s = m ∧ a = acc ++ (xs.take k).map F) xs acc m 0 ⟨rfl, by simp⟩ (fun k a s h => h.1 ▸ hs) (fun j x hx a s h => ?_) (fun a s h => ?_)
  · obtain ⟨rfl, rfl⟩ := h
    refine (ht x (List.mem_of_getElem? hx)).mono fun q e => ?_
    subst e
    refine ⟨rfl, ?_⟩
    obtain ⟨hj, rfl⟩ := List.getElem?_eq_some_iff.mp hx
    rw [Nat.zero_add, List.take_succ, List.getElem?_eq_getElem hj, List.map_append, List.append_assoc]; rfl
  · obtain ⟨rfl, rfl⟩ := h
    simpa using hq
/-- what a turn of a for must leave -/
def After (I : Fr → Store → Prop) (Q : Fl × Fr × Store → Prop) : Fl × Fr × Store → Prop
  | (.next, r, m) => I r m
  | (.cont, r, m) => I r m
  | (.brk, r, m) => Q (.next, r, m)
  | (.ret d, r, m) => Q (.ret d, r, m)
theorem W_loopF {src : Store → Prop} {turn : D → Fr → Store → RS} {Q : Fl × Fr × Store → Prop} (I : Nat → Fr → Store → Prop) :
    ∀ (xs : List D) (r : Fr) (m : Store) (k : Nat) , I k r m → (∀ k r m, I k r m → src m) →
    (∀ j x, xs[j]? = some x → ∀ r m, I (k + j) r m → W (turn x r m) (After (I (k + j + 1)) Q)) →
    (∀ r m, I (k + xs.length) r m → Q (.next, r, m)) → W (loopF src turn xs r m) Q
  | [], r, m, k, h0, hs, ht, hq => by
    rw [loopF, W_need, W_ok]
    exact ⟨hs _ _ _ h0, hq _ _ h0⟩
  | x :: xs, r, m, k, h0, hs, ht, hq => by
    rw [loopF, W_need, W_bind]
    refine ⟨hs _ _ _ h0, (ht 0 x rfl r m h0).mono fun q hI => ?_⟩
    obtain ⟨fl, r', m'⟩ := q
    have rest : I (k + 1) r' m' → W (loopF src turn xs r' m') Q := fun hI => by
      refine W_loopF I xs r' m' (k + 1) hI hs (fun j y hy r m h => ?_) (fun r m h => hq r m ?_)
      · have := ht (j + 1) y (by simpa using hy) r m (by rw [show k + (j + 1) = k + 1 + j by omega]; exact h)
        rw [show k + 1 + j + 1 = k + (j + 1) + 1 by omega]
        exact this
      · rw [List.length_cons, show k + (xs.length + 1) = k + 1 + xs.length by omega]; exact h
    cases fl with
    | next => exact rest hI
    | cont => exact rest hI
    | brk => exact W_ok.mpr hI
    | ret d => exact W_ok.mpr hI
end
/-! ### the hand in a store -/
/-- of a kind of hands: what must stand in the store -/
structure Kind where
  good : Nat → Nat → Store → Prop
  lt : ∀ {l n s}, good l n s → l < s.length
  less : ∀ {l n s}, good l (n + 1) s → good l n s
  ext : ∀ {l n s} (t : Store), good l n s → good l n (s ++ t)
/-- the base has its length; behind it stand os -/
structure Hd (K : Kind) (l b n : Nat) (os : Store) (s : Store) : Prop where
  mk ::
  was : ∃ s1, s = s1 ++ os ∧ s1.length = b ∧ StOk s1 ∧ K.good l n s1
  ok : StOk s
section
variable {K : Kind} {l b n k : Nat} {os s : Store} {o : SO}
theorem good_add {l n k : Nat} {s : Store} : K.good l (n + k) s → K.good l n s := by
  induction k with
  | zero => exact fun h => h
  | succ k ih => exact fun h => ih (K.less h)
theorem Hd.len (h : Hd K l b n os s) : s.length = b + os.length := by
  obtain ⟨s1, rfl, e, _, _⟩ := h.was
  rw [List.length_append, e]
theorem Hd.drop (h : Hd K l b k os s) (hn : n ≤ k) : Hd K l b n os s := by
  obtain ⟨s1, e, e2, q0, q⟩ := h.was
  obtain ⟨j, rfl⟩ := Nat.exists_eq_add_of_le hn
  exact ⟨⟨s1, e, e2, q0, good_add q⟩, h.ok⟩
theorem Hd.get (h : Hd K l b n os s) (i : Nat) : s[b + i]? = os[i]? := by
  obtain ⟨s1, rfl, e, _, _⟩ := h.was
  rw [List.getElem?_append_right (by omega), e, Nat.add_sub_cancel_left]
theorem Hd.get0 (h : Hd K l b n os s) : s[b]? = os[0]? := h.get 0
theorem StOk.push {s : Store} (h : StOk s) {o : SO} (ho : o.under (s.length + 1) = true) : StOk (s ++ [o]) := by
  intro q hq
  rw [List.length_append, List.length_singleton]
  rcases List.mem_append.mp hq with hq | hq
  · have := h q hq
    cases q with
    | lst xs => exact unders_mono (Nat.le_succ _) xs this
    | dct xs => exact underK_mono (Nat.le_succ _) xs this
    | ins C fs => exact unders_mono (Nat.le_succ _) _ this
    | exn C fs => exact unders_mono (Nat.le_succ _) _ this
  · rw [List.mem_singleton.mp hq]; exact ho
theorem StOk.set {s : Store} (h : StOk s) {i : Nat} {o : SO} (ho : o.under s.length = true) : StOk (s.set i o) := by
  intro q hq
  rw [List.length_set]
  rcases List.mem_or_eq_of_mem_set hq with hq | rfl
  · exact h q hq
  · exact ho
theorem Hd.push (h : Hd K l b n os s) (ho : o.under (s.length + 1) = true) : Hd K l b n (os ++ [o]) (s ++ [o]) := by
  obtain ⟨s1, rfl, e, q0, q⟩ := h.was
  exact ⟨⟨s1, by rw [List.append_assoc], e, q0, q⟩, h.ok.push ho⟩
theorem Hd.set (h : Hd K l b n os s) (i : Nat) (ho : o.under s.length = true) : Hd K l b n (os.set i o) (s.set (b + i) o) := by
  have ok := h.ok
  obtain ⟨s1, rfl, e, q0, q⟩ := h.was
  refine ⟨⟨s1, ?_, e, q0, q⟩, ok.set ho⟩
  rw [List.set_append_right _ _ (by omega), e, Nat.add_sub_cancel_left]
/-- what a callee sees -/
theorem Hd.sub (h : Hd K l b n os s) : Hd K l s.length n [] s := by
  have ok := h.ok
  obtain ⟨s1, rfl, e, q0, q⟩ := h.was
  exact ⟨⟨s1 ++ os, by simp, rfl, ok, K.ext _ q⟩, ok⟩
end
/-- what a drawer does: the hand alone changes -/
def Draws (K : Kind) (l : Nat) (B : Nat) (P : D → Prop) (F : Store → RD) : Prop :=
  ∀ b n os s, Hd K l b (n + B) os s → W (F s) fun p => Hd K l b n os p.2 ∧ P p.1
end DV

end
section
set_option Elab.async false
set_option linter.all false
set_option maxRecDepth 100000
set_option autoImplicit false
set_option maxHeartbeats 2000000
/-! Hands of one number; what draws give. -/
namespace DV
open PySem (Str)
local macro_rules
  | `(tactic| simp_arith) => `(tactic| simp_arith [])
  | `(tactic| simp_arith [$ts,*]) => `(tactic| simp only [↓W_run, ↓ws_nil, ↓W_way, ↓ws_cons, ↓ws_asg, ↓ws_par, ↓ws_seti, ↓ws_aug, ↓ws_augi, ↓ws_expr, ↓ws_ret, ↓ws_retN, ↓ws_pass, ↓ws_brk, ↓ws_cont, ↓ws_if, ↓ws_while, ↓ws_for, ↓ws_turn,      ow_next, ow_ret, ow_brk, ow_cont, end_ret, end_next,      ↓we_var, ↓we_int, ↓we_bl, ↓we_str, ↓we_non, ↓we_con, ↓we_bin, ↓we_neg, ↓we_cmp, ↓we_cmp2, ↓we_isN, ↓we_notN, ↓we_not, ↓we_ife, ↓we_and, ↓we_or, ↓we_and1, ↓we_or1, ↓we_and2, ↓we_or2, ↓we_tup, ↓we_lst, ↓we_lstN, ↓we_dct,      ↓we_idx, ↓we_slc, ↓we_call, ↓we_bi, ↓we_mt, ↓we_nil, ↓we_cons, ↓we_oN, ↓we_oS, ↓we_cN, ↓we_cS, ↓we_lc, ↓we_turn, ↓we_seq, ↓we_rng1, ↓we_rng2, ↓we_rng3, ↓we_enum, ↓we_zip, ↓we_test,      Int.reduceLE, Int.reduceLT, Int.reduceAbs, log_lit, Nat.reducePow, Int.reduceToNat, Int.reducePow, Int.reduceAdd, Int.reduceSub, Int.reduceMul, Int.reduceNeg, Int.reduceEq, decide_true, decide_false, small62_iff, small61_iff, sizeMax_val, and_true, true_and, and_self, W_ok, WO_some, Way_t, Way_f, Way_not, Sd_t, isBool_bl, isInt_int,      wo_add, wo_sub, wo_mul, wo_fdiv, wo_mod, wo_pow, wo_addS, wo_addT, wo_addL, wo_addLo, wo_addLl, wo_mulS, wo_mulL, wo_mulT, wo_neg, wc_eqI, wc_neI, wc_ltI, wc_gtI, wc_leI, wc_geI, wc_eqS, wc_neS, wc_in, wc_notin,      wi_S, wi_tup, wi_lst, wi_scr, wi_loc, wi_lo, wi_do, at_0, at_1, at_2, at_3, at_4, at_5, at_if, int_ite,      wb_lenS, wb_lenT, wb_lenL, wb_lenScr, wb_lenLo, lenO_lst, lenO_dct, wb_abs, wb_intI, wb_intB, wb_bool, wb_strS, wb_strI, wb_min2, wb_max2, wb_tupT, wb_tupL, wb_tupLo, wb_list, w_listS, w_listT, w_listL, w_listScr, w_listD, w_dictD, ↓we_litems, w_litems, ↓we_isx, ↓we_fld, ↓we_dpop, ↓we_dget, ↓we_dclr, ↓we_tix, isDc_loc, dcO_dct, wd_pop, popX_dct, w_popV, wd_get, dctV_dct, dctV_loc, dctO_dct, Option.isSome_some, wd_clr, clrO_dct, w_pr2, ↓ws_swp, ↓we_lcD, w_isDct, ↓ws_forD, ↓we_zip3, W_newL0, W_newL1, W_newT,      wm_append, appO_lst, wm_extend, extO_lst, recv_loc, recvO_lst, ws_set, setO_lst, setO_dct, lstX_lst, lstX_loc, seqV_loc, lstV_loc, lstV_lst, lstV_scr, wi_str, ↓wdct_nil, ↓wdct_cons, W_newD0, W_newD1, keyOf_str, keyOf_int, dput_nil, ↓we_isi, ↓we_lrg, w_lrg, w_rng3N, w_rng32, ↓we_lset, ↓we_isB, w_isB, w_lsetT, w_lsetL, ↓we_orv, w_orI, w_orN, w_orB, w_only, wb_sum, wb_min, wb_max, wb_sorted, wb_dict, wm_index, w_augA, w_augS, ty_non_int, ty_non_str, ty_non_bool, ty_non_tuple, ty_non_list, ty_non_dict, ty_bl_int, ty_bl_str, ty_bl_bool, ty_bl_tuple, ty_bl_list, ty_bl_dict, ty_int_int, ty_int_str, ty_int_bool, ty_int_tuple, ty_int_list, ty_int_dict, ty_str_int, ty_str_str, ty_str_bool, ty_str_tuple, ty_str_list, ty_str_dict, ty_tup_int, ty_tup_str, ty_tup_bool, ty_tup_tuple, ty_tup_list, ty_tup_dict, ty_lst_int, ty_lst_str, ty_lst_bool, ty_lst_tuple, ty_lst_list, ty_lst_dict, ty_dct_int, ty_dct_str, ty_dct_bool, ty_dct_tuple, ty_dct_list, ty_dct_dict, ty_scr_int, ty_scr_str, ty_scr_bool, ty_scr_tuple, ty_scr_list, ty_scr_dict, ↓we_sm0, ↓we_sm1, ↓we_rev, wsm_upper, wsm_join, wsm_split, wsm_part, wrev_lst, wrev_tup, wrev_loc, seqV_tup, seqV_lst1, seqV_scr1, wsl_tup, wsl_str, wsl_lst, wsl_scr, wsl_loc, popO_0, wm_popAt, wq_tup, wq_lst, wq_scr, wq_str, wq_loc,      isNon_non, isNon_bl, isNon_int, isNon_str, isNon_tup, isNon_lst, isNon_dct,      asgt_name, asg_tup, asg_nil, asg_cons, setEach, some_bind, wipe_nil, wipe_cons, if_t, ite_true, ite_false, Bool.not_true, Bool.not_false, Bool.false_eq_true,      List.append_assoc, List.length_append, List.length_map, List.map_cons, List.map_nil, List.cons_append, List.nil_append, List.replicate_succ, List.replicate_zero, Nat.reduceSub, Nat.reduceAdd, Nat.reduceLT, Nat.reduceLeDiff, Nat.reduceEqDiff, List.length_cons, List.length_nil, List.getElem?_cons_zero, List.getElem?_cons_succ, List.set_cons_zero, List.set_cons_succ, $ts,*])
/-- three numbers: great, seed, count -/
def kindA : Kind where
  good l n s := ∃ h : Hand, s[l]? = some h.enc ∧ h.Ok ∧ h.cnt + n < 2 ^ 39
  lt := fun ⟨h, e, _⟩ => (List.getElem?_eq_some_iff.mp e).1
  less := fun ⟨h, e, o, c⟩ => ⟨h, e, o, by omega⟩
  ext := fun t ⟨h, e, o, c⟩ => ⟨h, by rw [List.getElem?_append_left (List.getElem?_eq_some_iff.mp e).1]; exact e, o, c⟩
/-- a whole number from a to below b -/
def IntIn (a b : Int) (d : D) : Prop := ∃ i, d = .int i ∧ a ≤ i ∧ i < b
abbrev HasT (K : Kind) (F : List D → Store → RD) : Prop := ∀ l k, 0 < k → k < 1000000000000000000000000000000000000000000000000000000000000 → Draws K l 1 (IntIn 0 k) (F [.loc l, .int k])
abbrev HasP (K : Kind) (F : List D → Store → RD) : Prop := ∀ l xs, xs ≠ [] → xs.length ≤ 1000 → (∀ x ∈ xs, x.under 0 = true) → Draws K l 1 (fun d => d ∈ xs) (F [.loc l, .lst xs])
theorem log_small {k : Int} (h0 : 0 < k) (h : k < 1000000000000000000000000000000000000000000000000000000000000) : k.natAbs.log2 < 9000 := by
  have : k.natAbs < 2 ^ 200 := by have : (1000000000000000000000000000000000000000000000000000000000000 : Nat) < 2 ^ 200 := (by decide); omega
  exact Nat.lt_trans ((Nat.log2_lt (by omega)).mpr this) (by decide)
theorem takeA {g : G} : HasT kindA (runF g dTake) := by
  intro l k h0 h1 b n os s ⟨⟨s1, e, hb, ok1, h, eh, ho, hc⟩, ok⟩
  have hl : l < s.length := by
    have := (List.getElem?_eq_some_iff.mp eh).1
    rw [e, List.length_append]; omega
  have es : s = stoH s l h := by
    have e2 : s[l]? = some h.enc := by rw [e, List.getElem?_append_left (List.getElem?_eq_some_iff.mp eh).1]; exact eh
    unfold stoH
    obtain ⟨q1, q2⟩ := List.getElem?_eq_some_iff.mp e2
    rw [← q2, List.set_getElem_self]
  have r := take_run (g := g) (n := k) hl ok ho (by omega) h0 (log_small h0 h1)
  rw [← es] at r
  have hx := nxt_ok (n := k) ho h0 (by omega)
  obtain ⟨a1, a2⟩ := dig_lt h h0
  refine ⟨_, r, ⟨⟨s1.set l (nxt h k).enc, ?_, by rw [List.length_set]; exact hb, stoH_ok ok1, nxt h k, ?_, hx.1, ?_⟩, stoH_ok ok⟩, dig h k, rfl, a1, a2⟩
  · show s.set l _ = _
    rw [e, List.set_append_left _ _ (List.getElem?_eq_some_iff.mp eh).1]
  · rw [List.getElem?_set_self (List.getElem?_eq_some_iff.mp eh).1]
  · have := hx.2; omega
/-- a hand handed on by a def -/
theorem Draws.run {K : Kind} {l B : Nat} {P : D → Prop} {g : G} {c : Bool} {np ns : Nat} {body : Ss} {xs : List D} (hn : xs.length = np)
    (h : ∀ b n os s, Hd K l b (n + B) os s → W (evSs g body (xs.map some ++ List.replicate (ns - np) none) s) fun p => W (endR c s p.2.2 p.1) fun q => Hd K l b n os q.2 ∧ P q.1) : Draws K l B P (runF g ⟨np, ns, c, body⟩ xs) :=
  fun b n os s hd => W_run.mpr ⟨hn, h b n os s hd⟩
theorem W_finH {K : Kind} {l b n n' : Nat} {os s s' : Store} {c : Bool} {d : D} {Q : D × Store → Prop} (h0 : Hd K l b n os s) (h1 : Hd K l b n' os s') (hd : d.under 0 = true) (q : Q (d, s')) : W (finR c d s s') Q :=
  ⟨_, fin_same (by rw [h0.len, h1.len]) h1.ok (under0 hd), q⟩
theorem pick_of {K : Kind} {g : G} (hT : HasT K (g.fn "_law_take")) : HasP K (runF g dPick) := by
  intro l xs hx hn hu
  have hp : 0 < xs.length := List.length_pos_iff.mpr hx
  refine Draws.run rfl fun b n os s hd => ?_
  simp_arith
  refine (hT l xs.length (by omega) (by omega) b n os s hd).mono ?_
  rintro ⟨_, s1⟩ ⟨hs, i, rfl, h0, h1⟩
  have hi : i.toNat < xs.length := by omega
  have e : at_ xs i = some xs[i.toNat] := at_some h0 (by simp [hi])
  simp_arith [e]
  exact W_finH hd hs (hu _ (List.getElem_mem hi)) ⟨hs, List.getElem_mem hi⟩
theorem so_mono {n k : Nat} (h : n ≤ k) {o : SO} (q : o.under n = true) : o.under k = true := by
  cases o with
  | lst xs => exact unders_mono h xs q
  | dct xs => exact underK_mono h xs q
  | ins C fs => exact unders_mono h _ q
  | exn C fs => exact unders_mono h _ q
/-! ### locals behind the base -/
structure Own (K : Kind) (l b : Nat) (os : Store) (B n : Nat) (ls s : Store) : Prop where
  hd : Hd K l b n (os ++ ls) s
  eq : B = b + os.length
section
variable {K : Kind} {l b n n' B : Nat} {os ls s s' : Store} {o : SO} {d d' : D}
theorem Hd.own (h : Hd K l b n os s) : Own K l b os s.length n [] s := ⟨by rw [List.append_nil]; exact h, h.len⟩
theorem Own.len (h : Own K l b os B n ls s) : s.length = B + ls.length := by rw [h.hd.len, h.eq, List.length_append]; omega
theorem Own.get (h : Own K l b os B n ls s) (i : Nat) : s[B + i]? = ls[i]? := by
  rw [h.eq, Nat.add_assoc, h.hd.get, List.getElem?_append_right (by omega), Nat.add_sub_cancel_left]
theorem Own.get0 (h : Own K l b os B n ls s) : s[B]? = ls[0]? := h.get 0
theorem Own.push (h : Own K l b os B n ls s) (ho : o.under (s.length + 1) = true) : Own K l b os B n (ls ++ [o]) (s ++ [o]) := ⟨by rw [← List.append_assoc]; exact h.hd.push ho, h.eq⟩
theorem Own.set (h : Own K l b os B n ls s) (i : Nat) (ho : o.under s.length = true) : Own K l b os B n (ls.set i o) (s.set (B + i) o) := by
  refine ⟨?_, h.eq⟩
  have := h.hd.set (os.length + i) ho
  rw [List.set_append_right _ _ (by omega), Nat.add_sub_cancel_left, ← Nat.add_assoc, ← h.eq] at this
  exact this
theorem Own.drop (h : Own K l b os B n ls s) (hn : n' ≤ n) : Own K l b os B n' ls s := ⟨h.hd.drop hn, h.eq⟩
/-- a draw among locals -/
theorem Draws.own {P : D → Prop} {F : Store → RD} {C : Nat} (hF : Draws K l C P F) (h : Own K l b os B (n + C) ls s) : W (F s) fun p => Own K l b os B n ls p.2 ∧ P p.1 :=
  (hF b n (os ++ ls) s h.hd).mono fun p q => ⟨⟨q.1, h.eq⟩, q.2⟩
/-- a def's end: the locals go, what is told is told as it stands -/
theorem W_finO {Q : D × Store → Prop} {c : Bool} (hc : c = true) (h0 : Hd K l b n os s) (h1 : Own K l b os s.length n' ls s') (hf : frz s.length s' 6 d = some d') (q : ∀ s2, Hd K l b n' os s2 → Q (d', s2)) : W (finR c d s s') Q := by
  obtain ⟨s1, e, e2, ok1, gd⟩ := h1.hd.was
  obtain ⟨s0, f, f2, ok0, gd0⟩ := h0.was
  have hlen : s.length = (s1 ++ os).length := by rw [List.length_append, e2, h0.len]
  have ht : s'.take s.length = s1 ++ os := by
    rw [e, ← List.append_assoc, hlen, List.take_left]
  subst hc
  have hu : ∀ o ∈ s1 ++ os, o.under s.length = true := fun o ho => by
    rcases List.mem_append.mp ho with ho | ho
    · have := ok1 o ho
      rw [e2] at this
      exact so_mono (by rw [h0.len]; omega) this
    · exact h0.ok o (by rw [f]; exact List.mem_append_right _ ho)
  have co : cleanOk s s' := ⟨by rw [h1.len]; omega, by rw [ht]; exact hu⟩
  refine ⟨(d', s1 ++ os), ?_, q _ ⟨⟨s1, rfl, e2, ok1, gd⟩, fun o ho => by rw [← hlen]; exact hu o ho⟩⟩
  simp only [finR, if_true, need, co, hf, ht]
end
/-! ### draws, many -/
theorem W_drawL {T : Nat → Store → Prop} (P : D → Prop) (B cap n : Nat) {src : Store → Prop} {turn : D → Store → Res (Option D × Store)} {Q : List D × Store → Prop} {xs acc : List D} {s : Store}
    (hd : T (n + cap * B) s) (dr : ∀ j k s, j ≤ k → T k s → T j s) (hs : ∀ k s, T k s → src s) (hl : xs.length ≤ cap)
    (ht : ∀ x ∈ xs, ∀ j s, T (j + B) s → W (turn x s) fun q => T j q.2 ∧ ∃ v, q.1 = some v ∧ P v)
    (hq : ∀ vs s, vs.length = xs.length → (∀ v ∈ vs, P v) → T n s → Q (acc ++ vs, s)) : W (loopL src turn xs acc s) Q := by
  refine W_loopL (fun k a s => k ≤ xs.length ∧ T (n + (cap - k) * B) s ∧ ∃ vs, a = acc ++ vs ∧ vs.length = k ∧ ∀ v ∈ vs, P v) xs acc s 0 ⟨Nat.zero_le _, hd, [], by simp, rfl, fun v hv => by simp at hv⟩ (fun k a s h => hs _ _ h.2.1) (fun j x hx a s h => ?_) (fun a s h => ?_)
  · obtain ⟨hj, h1, vs, rfl, h2, h3⟩ := h
    rw [Nat.zero_add] at *
    have hlt : j < xs.length := (List.getElem?_eq_some_iff.mp hx).1
    have e : n + (cap - j) * B = n + (cap - (j + 1)) * B + B := by
      rw [show cap - j = cap - (j + 1) + 1 by omega, Nat.add_mul, Nat.one_mul, Nat.add_assoc]
    rw [e] at h1
    refine (ht x (List.mem_of_getElem? hx) _ _ h1).mono ?_
    rintro ⟨o, s'⟩ ⟨h4, v, rfl, h5⟩
    refine ⟨by omega, h4, vs ++ [v], by simp, by simp [h2], fun w hw => ?_⟩
    rcases List.mem_append.mp hw with hw | hw
    · exact h3 w hw
    · rw [List.mem_singleton.mp hw]; exact h5
  · obtain ⟨_, h1, vs, rfl, h2, h3⟩ := h
    exact hq vs s (by omega) h3 (dr _ _ _ (Nat.le_add_right _ _) h1)
theorem W_drawH {K : Kind} {l b : Nat} {os : Store} (P : D → Prop) (B cap : Nat) {n : Nat} {src : Store → Prop} {turn : D → Store → Res (Option D × Store)} {Q : List D × Store → Prop} {xs acc : List D} {s : Store}
    (hd : Hd K l b (n + cap * B) os s) (hl : xs.length ≤ cap) (hs : ∀ k s, Hd K l b k os s → src s)
    (ht : ∀ x ∈ xs, ∀ j s, Hd K l b (j + B) os s → W (turn x s) fun q => Hd K l b j os q.2 ∧ ∃ v, q.1 = some v ∧ P v)
    (hq : ∀ vs s, vs.length = xs.length → (∀ v ∈ vs, P v) → Hd K l b n os s → Q (acc ++ vs, s)) : W (loopL src turn xs acc s) Q :=
  W_drawL (T := fun n s => Hd K l b n os s) P B cap n hd (fun j k s h q => q.drop h) hs hl ht hq
theorem ints_of {a b : Int} : ∀ {vs : List D}, (∀ v ∈ vs, IntIn a b v) → ∃ is : List Int, vs = is.map .int ∧ ∀ i ∈ is, a ≤ i ∧ i < b
  | [], _ => ⟨[], rfl, fun i hi => by simp at hi⟩
  | v :: vs, h => by
    obtain ⟨i, rfl, h0, h1⟩ := h v List.mem_cons_self
    obtain ⟨is, rfl, hs⟩ := ints_of fun w hw => h w (List.mem_cons_of_mem _ hw)
    refine ⟨i :: is, rfl, fun j hj => ?_⟩
    rcases List.mem_cons.mp hj with rfl | hj
    · exact ⟨h0, h1⟩
    · exact hs j hj
theorem ints_under {n : Nat} (is : List Int) : unders n (is.map .int) = true := unders_iff.mpr fun x hx => by
  obtain ⟨i, _, rfl⟩ := List.mem_map.mp hx
  exact under_int
abbrev HasPI (K : Kind) (F : List D → Store → RD) : Prop := ∀ l (is : List Int), is ≠ [] → is.length ≤ 1000 → Draws K l 1 (fun d => ∃ i, d = .int i ∧ i ∈ is) (F [.loc l, .lst (is.map .int)])
theorem HasP.ints {K : Kind} {F : List D → Store → RD} (h : HasP K F) : HasPI K F := by
  intro l is h0 h1 b n os s hd
  refine (h l (is.map .int) (by simpa using h0) (by simpa using h1) (unders_iff.mp (ints_under is)) b n os s hd).mono ?_
  rintro ⟨d, s'⟩ ⟨h2, h3⟩
  obtain ⟨i, hi, rfl⟩ := List.mem_map.mp h3
  exact ⟨h2, i, rfl, hi⟩
theorem rngL_length (a c : Int) (n : Nat) : (rngL a n c).length = n := by simp [rngL]
/-! ### draws, then on -/
section
variable {K : Kind} {F : List D → Store → RD} {l b n O : Nat} {k : Int} {os ls s : Store} {Q : D × Store → Prop}
theorem take_k (hT : HasT K F) (h0 : 0 < k) (h1 : k < 1000000000000000000000000000000000000000000000000000000000000) (hd : Hd K l b (n + 1) os s)
    (q : ∀ s i, Hd K l b n os s → 0 ≤ i → i < k → Q (.int i, s)) : W (F [.loc l, .int k] s) Q :=
  (hT l k h0 h1 b n os s hd).mono fun ⟨d, s'⟩ ⟨h, i, e, a, c⟩ => by cases e; exact q s' i h a c
theorem takeO_k (hT : HasT K F) (h0 : 0 < k) (h1 : k < 1000000000000000000000000000000000000000000000000000000000000) (hd : Own K l b os O (n + 1) ls s)
    (q : ∀ s i, Own K l b os O n ls s → 0 ≤ i → i < k → Q (.int i, s)) : W (F [.loc l, .int k] s) Q :=
  ((hT l k h0 h1).own hd).mono fun ⟨d, s'⟩ ⟨h, i, e, a, c⟩ => by cases e; exact q s' i h a c
theorem pickI_k (hP : HasPI K F) (is : List Int) (h0 : is ≠ []) (h1 : is.length ≤ 1000) (hd : Hd K l b (n + 1) os s)
    (q : ∀ s i, Hd K l b n os s → i ∈ is → Q (.int i, s)) : W (F [.loc l, .lst (is.map .int)] s) Q :=
  (hP l is h0 h1 b n os s hd).mono fun ⟨d, s'⟩ ⟨h, i, e, a⟩ => by cases e; exact q s' i h a
theorem pick_k (hP : HasP K F) {xs : List D} (h0 : xs ≠ []) (h1 : xs.length ≤ 1000) (hu : ∀ x ∈ xs, x.under 0 = true) (hd : Hd K l b (n + 1) os s)
    (q : ∀ s d, Hd K l b n os s → d ∈ xs → Q (d, s)) : W (F [.loc l, .lst xs] s) Q :=
  (hP l xs h0 h1 hu b n os s hd).mono fun ⟨d, s'⟩ ⟨h, a⟩ => q s' d h a
theorem pickO_k (hP : HasP K F) {xs : List D} (h0 : xs ≠ []) (h1 : xs.length ≤ 1000) (hu : ∀ x ∈ xs, x.under 0 = true) (hd : Own K l b os O (n + 1) ls s)
    (q : ∀ s d, Own K l b os O n ls s → d ∈ xs → Q (d, s)) : W (F [.loc l, .lst xs] s) Q :=
  ((hP l xs h0 h1 hu).own hd).mono fun ⟨d, s'⟩ ⟨h, a⟩ => q s' d h a
theorem draw_k {B : Nat} {P : D → Prop} {F : Store → RD} (hF : Draws K l B P F) (hd : Hd K l b (n + B) os s) (q : ∀ s d, Hd K l b n os s → P d → Q (d, s)) : W (F s) Q :=
  (hF b n os s hd).mono fun ⟨d, s'⟩ ⟨h, a⟩ => q s' d h a
end
end DV

end
section
set_option Elab.async false
set_option linter.all false
set_option maxRecDepth 100000
set_option autoImplicit false
set_option maxHeartbeats 2000000
/-! What can be shown: depth k, at most w signs. -/
namespace DV
open PySem (Str PyData)
structure Tm (k w : Nat) (d : D) : Prop where
  mk ::
  nd : d.nd = true
  dep : d.toPy.depth ≤ k
  sh : d.toPy.showable = true
  len : d.toPy.shown.length ≤ w
section
variable {k w k' w' : Nat} {d : D} {xs : List D}
theorem Tm.le (h : Tm k w d) (hk : k ≤ k') (hw : w ≤ w') : Tm k' w' d := ⟨h.nd, Nat.le_trans h.dep hk, h.sh, Nat.le_trans h.len hw⟩
theorem Tm.ok (h : Tm k w d) (hk : k ≤ 40) (hw : w ≤ 16777216) : depthOk d := ⟨.inl h.nd, Nat.le_trans h.dep hk, h.sh, Nat.le_trans h.len hw⟩
theorem Tm.non : Tm 0 8 .non := ⟨rfl, by decide, by rfl, by decide⟩
theorem Tm.bl {b : Bool} : Tm 0 8 (.bl b) := by cases b <;> exact ⟨rfl, by decide, by rfl, by decide⟩
theorem Tm.int {i : Int} (h0 : -1000000000000000000000000000000000000000000000000000000000000 < i) (h1 : i < 1000000000000000000000000000000000000000000000000000000000000) : Tm 0 80 (.int i) := by
  have h : i.natAbs < 1000000000000000000000000000000000000000000000000000000000000 := by omega
  refine ⟨rfl, by simp [D.toPy, PyData.depth], ?_, ?_⟩
  · simp only [D.toPy, PyData.showable, decide_eq_true_eq]
    by_cases hz : i.natAbs = 0
    · rw [hz]; decide
    · exact Nat.lt_trans ((Nat.log2_lt hz).mpr (Nat.lt_trans h (by decide : _ < 2 ^ 200))) (by decide)
  · have e := PySem.int_text_length_le10 (a := i) (k := 79) (by decide) (Nat.lt_trans h (by decide))
    simp only [D.toPy, PyData.shown]
    rw [PySem.ofString_length]
    exact e
theorem Tm.str {x : Str} {n : Nat} (hx : ∀ c ∈ x.cps.toList, c < 1000) (hn : x.length ≤ n) : Tm 0 (10 * n + 2) (.str x) := by
  refine ⟨rfl, by simp [D.toPy, PyData.depth], by simp [D.toPy, PyData.showable], ?_⟩
  have := PySem.StrLaws.reprText_len x fun c hc => Nat.lt_trans (hx c hc) (by decide)
  simp only [D.toPy, PyData.shown]
  omega
theorem depthAll_le : ∀ {xs : List D}, (∀ x ∈ xs, x.toPy.depth ≤ k) → PyData.depthAll (toPys xs) ≤ k
  | [], _ => by simp [toPys, PyData.depthAll]
  | x :: xs, h => by
    simp only [toPys, PyData.depthAll]
    exact Nat.max_le.mpr ⟨h x List.mem_cons_self, depthAll_le fun y hy => h y (List.mem_cons_of_mem _ hy)⟩
theorem showAll_of : ∀ {xs : List D}, (∀ x ∈ xs, x.toPy.showable = true) → PyData.showableAll (toPys xs) = true
  | [], _ => by simp [toPys, PyData.showableAll]
  | x :: xs, h => by
    simp only [toPys, PyData.showableAll, Bool.and_eq_true]
    exact ⟨h x List.mem_cons_self, showAll_of fun y hy => h y (List.mem_cons_of_mem _ hy)⟩
theorem shownAll_sum : ∀ {xs : List D}, (∀ x ∈ xs, x.toPy.shown.length ≤ w) → ((PyData.shownAll (toPys xs)).map (·.length)).sum ≤ xs.length * w ∧ (PyData.shownAll (toPys xs)).length = xs.length
  | [], _ => by simp [toPys, PyData.shownAll]
  | x :: xs, h => by
    obtain ⟨a, b⟩ := shownAll_sum fun y hy => h y (List.mem_cons_of_mem _ hy)
    have := h x List.mem_cons_self
    simp only [toPys, PyData.shownAll, List.map_cons, List.sum_cons, List.length_cons, Nat.add_mul, Nat.one_mul]
    exact ⟨by omega, by omega⟩
theorem nds_of : ∀ {xs : List D}, (∀ x ∈ xs, x.nd = true) → nds xs = true
  | [], _ => rfl
  | x :: xs, h => by
    rw [nds, Bool.and_eq_true]
    exact ⟨h x List.mem_cons_self, nds_of fun y hy => h y (List.mem_cons_of_mem _ hy)⟩
theorem Tm.tup (h : ∀ x ∈ xs, Tm k w x) {n : Nat} (hn : xs.length ≤ n) : Tm (k + 1) (n * (w + 2) + 3) (.tup xs) := by
  obtain ⟨a, b⟩ := shownAll_sum fun x hx => (h x hx).len
  have hm : xs.length * (w + 2) ≤ n * (w + 2) := Nat.mul_le_mul_right _ hn
  refine ⟨by rw [D.nd]; exact nds_of fun x hx => (h x hx).nd, ?_, ?_, ?_⟩
  · simp only [D.toPy, PyData.depth]
    exact Nat.succ_le_succ (depthAll_le fun x hx => (h x hx).dep)
  · simp only [D.toPy, PyData.showable]
    exact showAll_of fun x hx => (h x hx).sh
  · simp only [D.toPy, PyData.shown]
    have := PySem.tupleText_len_le (PyData.shownAll (toPys xs))
    rw [b] at this
    rw [Nat.mul_add xs.length w 2] at hm
    omega
theorem Tm.lst (h : ∀ x ∈ xs, Tm k w x) {n : Nat} (hn : xs.length ≤ n) : Tm (k + 1) (n * (w + 2) + 3) (.lst xs) := by
  obtain ⟨a, b⟩ := shownAll_sum fun x hx => (h x hx).len
  have hm : xs.length * (w + 2) ≤ n * (w + 2) := Nat.mul_le_mul_right _ hn
  refine ⟨by rw [D.nd]; exact nds_of fun x hx => (h x hx).nd, ?_, ?_, ?_⟩
  · simp only [D.toPy, PyData.depth]
    exact Nat.succ_le_succ (depthAll_le fun x hx => (h x hx).dep)
  · simp only [D.toPy, PyData.showable]
    exact showAll_of fun x hx => (h x hx).sh
  · simp only [D.toPy, PyData.shown]
    have := PySem.listText_len_le (PyData.shownAll (toPys xs))
    rw [b] at this
    rw [Nat.mul_add xs.length w 2] at hm
    omega
theorem Tm.nil : Tm 1 3 (.tup []) := by simpa using Tm.tup (xs := []) (k := 0) (w := 0) (n := 0) (fun x hx => by simp at hx) (by simp)
end
mutual
theorem under_nd {n : Nat} : ∀ d : D, d.nd = true → d.under n = true
  | .non, _ => by simp [D.under]
  | .bl _, _ => by simp [D.under]
  | .int _, _ => by simp [D.under]
  | .str _, _ => by simp [D.under]
  | .tup xs, q => by rw [D.nd] at q; rw [D.under]; exact unders_nd xs q
  | .lst xs, q => by rw [D.nd] at q; rw [D.under]; exact unders_nd xs q
  | .dct xs, q => by simp [D.nd] at q
  | .loc l, q => by simp [D.nd] at q
  | .scr xs, q => by simp [D.nd] at q
theorem unders_nd {n : Nat} : ∀ d : List D, nds d = true → unders n d = true
  | [], _ => by simp [unders]
  | x :: xs, q => by
    rw [nds, Bool.and_eq_true] at q
    rw [unders, Bool.and_eq_true]
    exact ⟨under_nd x q.1, unders_nd xs q.2⟩
end
/-! ### the hand laid; all truths -/
theorem finT {g : G} {m m' : Store} {c : Bool} {Q : D × Store → Prop} {b : Bool} (ok : StOk m) (h : m = []) (q : ∀ s, Q (.bl b, s)) : W (finR c (.bl b) m m') Q := by
  subst h
  cases c with
  | false => exact ⟨_, rfl, q _⟩
  | true =>
    refine ⟨(.bl b, m'.take 0), ?_, q _⟩
    have co : cleanOk [] m' := ⟨by simp, by simp⟩
    simp only [finR, if_true, need, co, List.length_nil, frz, D.mapLoc]
end DV

end
section
set_option Elab.async false
set_option linter.all false
set_option maxRecDepth 100000
set_option autoImplicit false
set_option maxHeartbeats 2000000
/-! Locals of a def that draws nothing; lists of like things. -/
namespace DV
open PySem (Str)
section
variable {n : Nat} {m : Store} {f : Nat} {xs : List D}
end
section
variable {s : Store} {ls : Store} {o : SO} {k : Nat}
theorem get_app : (s ++ ls)[s.length + k]? = ls[k]? := by rw [List.getElem?_append_right (by omega), Nat.add_sub_cancel_left]
theorem get_app0 : (s ++ ls)[s.length]? = ls[0]? := get_app (k := 0)
theorem set_app : (s ++ ls).set (s.length + k) o = s ++ ls.set k o := by rw [List.set_append_right _ _ (by omega), Nat.add_sub_cancel_left]
theorem set_app0 : (s ++ ls).set s.length o = s ++ ls.set 0 o := set_app (k := 0)
end
section
variable {τ : Type}
theorem list_of {enc : τ → D} {P : τ → Prop} : ∀ {ds : List D}, (∀ d ∈ ds, ∃ t, d = enc t ∧ P t) → ∃ ts : List τ, ds = ts.map enc ∧ ∀ t ∈ ts, P t
  | [], _ => ⟨[], rfl, fun t ht => by simp at ht⟩
  | d :: ds, h => by
    obtain ⟨t, rfl, ht⟩ := h d List.mem_cons_self
    obtain ⟨ts, rfl, hs⟩ := list_of fun w hw => h w (List.mem_cons_of_mem _ hw)
    refine ⟨t :: ts, rfl, fun j hj => ?_⟩
    rcases List.mem_cons.mp hj with rfl | hj
    · exact ht
    · exact hs j hj
open Classical
theorem W_mapT {enc F : τ → D} {src : Store → Prop} {turn : D → Store → Res (Option D × Store)} {Q : List D × Store → Prop} {ts : List τ} {acc : List D} {m : Store} (hs : src m)
    (ht : ∀ t ∈ ts, W (turn (enc t) m) fun q => q = (some (F t), m)) (hq : Q (acc ++ ts.map F, m)) : W (loopL src turn (ts.map enc) acc m) Q := by
  refine W_loopL (fun k a s => s = m ∧ a = acc ++ (ts.take k).map F) _ acc m 0 ⟨rfl, by simp⟩ (fun k a s h => h.1 ▸ hs) (fun j x hx a s h => ?_) (fun a s h => ?_)
  · obtain ⟨rfl, rfl⟩ := h
    rw [List.getElem?_map] at hx
    obtain ⟨t, hj, rfl⟩ := Option.map_eq_some_iff.mp hx
    refine (ht t (List.mem_of_getElem? hj)).mono fun q e => ?_
    subst e
    refine ⟨rfl, ?_⟩
    rw [Nat.zero_add, List.take_succ, hj, List.map_append, List.append_assoc]; rfl
  · obtain ⟨rfl, rfl⟩ := h
    rw [Nat.zero_add, List.length_map, List.take_length]
    exact hq
end
end DV

end
section
set_option Elab.async false
set_option linter.all false
set_option maxRecDepth 100000
set_option autoImplicit false
set_option maxHeartbeats 2000000
/-! Hands of great cells, one behind another. -/
namespace DV
open PySem (Str)
local macro_rules
  | `(tactic| simp_arith) => `(tactic| simp_arith [])
  | `(tactic| simp_arith [$ts,*]) => `(tactic| simp only [↓W_run, ↓ws_nil, ↓W_way, ↓ws_cons, ↓ws_asg, ↓ws_par, ↓ws_seti, ↓ws_aug, ↓ws_augi, ↓ws_expr, ↓ws_ret, ↓ws_retN, ↓ws_pass, ↓ws_brk, ↓ws_cont, ↓ws_if, ↓ws_while, ↓ws_for, ↓ws_turn,      ow_next, ow_ret, ow_brk, ow_cont, end_ret, end_next,      ↓we_var, ↓we_int, ↓we_bl, ↓we_str, ↓we_non, ↓we_con, ↓we_bin, ↓we_neg, ↓we_cmp, ↓we_cmp2, ↓we_isN, ↓we_notN, ↓we_not, ↓we_ife, ↓we_and, ↓we_or, ↓we_and1, ↓we_or1, ↓we_and2, ↓we_or2, ↓we_tup, ↓we_lst, ↓we_lstN, ↓we_dct,      ↓we_idx, ↓we_slc, ↓we_call, ↓we_bi, ↓we_mt, ↓we_nil, ↓we_cons, ↓we_oN, ↓we_oS, ↓we_cN, ↓we_cS, ↓we_lc, ↓we_turn, ↓we_seq, ↓we_rng1, ↓we_rng2, ↓we_rng3, ↓we_enum, ↓we_zip, ↓we_test,      Int.reduceLE, Int.reduceLT, Int.reduceAbs, log_lit, Nat.reducePow, Int.reduceToNat, Int.reducePow, Int.reduceAdd, Int.reduceSub, Int.reduceMul, Int.reduceNeg, Int.reduceEq, decide_true, decide_false, small62_iff, small61_iff, sizeMax_val, and_true, true_and, and_self, W_ok, WO_some, Way_t, Way_f, Way_not, Sd_t, isBool_bl, isInt_int,      wo_add, wo_sub, wo_mul, wo_fdiv, wo_mod, wo_pow, wo_addS, wo_addT, wo_addL, wo_addLo, wo_addLl, wo_mulS, wo_mulL, wo_mulT, wo_neg, wc_eqI, wc_neI, wc_ltI, wc_gtI, wc_leI, wc_geI, wc_eqS, wc_neS, wc_in, wc_notin,      wi_S, wi_tup, wi_lst, wi_scr, wi_loc, wi_lo, wi_do, at_0, at_1, at_2, at_3, at_4, at_5, at_if, int_ite,      wb_lenS, wb_lenT, wb_lenL, wb_lenScr, wb_lenLo, lenO_lst, lenO_dct, wb_abs, wb_intI, wb_intB, wb_bool, wb_strS, wb_strI, wb_min2, wb_max2, wb_tupT, wb_tupL, wb_tupLo, wb_list, w_listS, w_listT, w_listL, w_listScr, w_listD, w_dictD, ↓we_litems, w_litems, ↓we_isx, ↓we_fld, ↓we_dpop, ↓we_dget, ↓we_dclr, ↓we_tix, isDc_loc, dcO_dct, wd_pop, popX_dct, w_popV, wd_get, dctV_dct, dctV_loc, dctO_dct, Option.isSome_some, wd_clr, clrO_dct, w_pr2, ↓ws_swp, ↓we_lcD, w_isDct, ↓ws_forD, ↓we_zip3, W_newL0, W_newL1, W_newT,      wm_append, appO_lst, wm_extend, extO_lst, recv_loc, recvO_lst, ws_set, setO_lst, setO_dct, lstX_lst, lstX_loc, seqV_loc, lstV_loc, lstV_lst, lstV_scr, wi_str, ↓wdct_nil, ↓wdct_cons, W_newD0, W_newD1, keyOf_str, keyOf_int, dput_nil, ↓we_isi, ↓we_lrg, w_lrg, w_rng3N, w_rng32, ↓we_lset, ↓we_isB, w_isB, w_lsetT, w_lsetL, ↓we_orv, w_orI, w_orN, w_orB, w_only, wb_sum, wb_min, wb_max, wb_sorted, wb_dict, wm_index, w_augA, w_augS, ty_non_int, ty_non_str, ty_non_bool, ty_non_tuple, ty_non_list, ty_non_dict, ty_bl_int, ty_bl_str, ty_bl_bool, ty_bl_tuple, ty_bl_list, ty_bl_dict, ty_int_int, ty_int_str, ty_int_bool, ty_int_tuple, ty_int_list, ty_int_dict, ty_str_int, ty_str_str, ty_str_bool, ty_str_tuple, ty_str_list, ty_str_dict, ty_tup_int, ty_tup_str, ty_tup_bool, ty_tup_tuple, ty_tup_list, ty_tup_dict, ty_lst_int, ty_lst_str, ty_lst_bool, ty_lst_tuple, ty_lst_list, ty_lst_dict, ty_dct_int, ty_dct_str, ty_dct_bool, ty_dct_tuple, ty_dct_list, ty_dct_dict, ty_scr_int, ty_scr_str, ty_scr_bool, ty_scr_tuple, ty_scr_list, ty_scr_dict, ↓we_sm0, ↓we_sm1, ↓we_rev, wsm_upper, wsm_join, wsm_split, wsm_part, wrev_lst, wrev_tup, wrev_loc, seqV_tup, seqV_lst1, seqV_scr1, wsl_tup, wsl_str, wsl_lst, wsl_scr, wsl_loc, popO_0, wm_popAt, wq_tup, wq_lst, wq_scr, wq_str, wq_loc,      isNon_non, isNon_bl, isNon_int, isNon_str, isNon_tup, isNon_lst, isNon_dct,      asgt_name, asg_tup, asg_nil, asg_cons, setEach, some_bind, wipe_nil, wipe_cons, if_t, ite_true, ite_false, Bool.not_true, Bool.not_false, Bool.false_eq_true,      List.append_assoc, List.length_append, List.length_map, List.map_cons, List.map_nil, List.cons_append, List.nil_append, List.replicate_succ, List.replicate_zero, Nat.reduceSub, Nat.reduceAdd, Nat.reduceLT, Nat.reduceLeDiff, Nat.reduceEqDiff, List.length_cons, List.length_nil, List.getElem?_cons_zero, List.getElem?_cons_succ, List.set_cons_zero, List.set_cons_succ, $ts,*])
def encB (l2 : Nat) (mx c : Int) : SO := .lst [.loc l2, .int mx, .int c]
def encX (xs : List Int) : SO := .lst (xs.map .int)
def put (l l2 : Nat) (s : Store) (xs : List Int) (mx c : Int) : Store := (s.set l (encB l2 mx c)).set l2 (encX xs)
section
variable {l l2 : Nat} {s : Store} {xs ys : List Int} {mx c mx' c' : Int}
end
theorem cut_len {α : Type} (xs : List α) (lo hi : Option Int) : (cut xs lo hi).length ≤ xs.length := by
  unfold cut
  rw [List.length_take, List.length_drop]
  omega
end DV

end
section
set_option Elab.async false
set_option linter.all false
set_option maxRecDepth 100000
set_option autoImplicit false
set_option maxHeartbeats 2000000
/-! Texts: lengths, picks of signs; another hand of one number. -/
namespace DV
open PySem (Str)
local macro_rules
  | `(tactic| simp_arith) => `(tactic| simp_arith [])
  | `(tactic| simp_arith [$ts,*]) => `(tactic| simp only [↓W_run, ↓ws_nil, ↓W_way, ↓ws_cons, ↓ws_asg, ↓ws_par, ↓ws_seti, ↓ws_aug, ↓ws_augi, ↓ws_expr, ↓ws_ret, ↓ws_retN, ↓ws_pass, ↓ws_brk, ↓ws_cont, ↓ws_if, ↓ws_while, ↓ws_for, ↓ws_turn,      ow_next, ow_ret, ow_brk, ow_cont, end_ret, end_next,      ↓we_var, ↓we_int, ↓we_bl, ↓we_str, ↓we_non, ↓we_con, ↓we_bin, ↓we_neg, ↓we_cmp, ↓we_cmp2, ↓we_isN, ↓we_notN, ↓we_not, ↓we_ife, ↓we_and, ↓we_or, ↓we_and1, ↓we_or1, ↓we_and2, ↓we_or2, ↓we_tup, ↓we_lst, ↓we_lstN, ↓we_dct,      ↓we_idx, ↓we_slc, ↓we_call, ↓we_bi, ↓we_mt, ↓we_nil, ↓we_cons, ↓we_oN, ↓we_oS, ↓we_cN, ↓we_cS, ↓we_lc, ↓we_turn, ↓we_seq, ↓we_rng1, ↓we_rng2, ↓we_rng3, ↓we_enum, ↓we_zip, ↓we_test,      Int.reduceLE, Int.reduceLT, Int.reduceAbs, log_lit, Nat.reducePow, Int.reduceToNat, Int.reducePow, Int.reduceAdd, Int.reduceSub, Int.reduceMul, Int.reduceNeg, Int.reduceEq, decide_true, decide_false, small62_iff, small61_iff, sizeMax_val, and_true, true_and, and_self, W_ok, WO_some, Way_t, Way_f, Way_not, Sd_t, isBool_bl, isInt_int,      wo_add, wo_sub, wo_mul, wo_fdiv, wo_mod, wo_pow, wo_addS, wo_addT, wo_addL, wo_addLo, wo_addLl, wo_mulS, wo_mulL, wo_mulT, wo_neg, wc_eqI, wc_neI, wc_ltI, wc_gtI, wc_leI, wc_geI, wc_eqS, wc_neS, wc_in, wc_notin,      wi_S, wi_tup, wi_lst, wi_scr, wi_loc, wi_lo, wi_do, at_0, at_1, at_2, at_3, at_4, at_5, at_if, int_ite,      wb_lenS, wb_lenT, wb_lenL, wb_lenScr, wb_lenLo, lenO_lst, lenO_dct, wb_abs, wb_intI, wb_intB, wb_bool, wb_strS, wb_strI, wb_min2, wb_max2, wb_tupT, wb_tupL, wb_tupLo, wb_list, w_listS, w_listT, w_listL, w_listScr, w_listD, w_dictD, ↓we_litems, w_litems, ↓we_isx, ↓we_fld, ↓we_dpop, ↓we_dget, ↓we_dclr, ↓we_tix, isDc_loc, dcO_dct, wd_pop, popX_dct, w_popV, wd_get, dctV_dct, dctV_loc, dctO_dct, Option.isSome_some, wd_clr, clrO_dct, w_pr2, ↓ws_swp, ↓we_lcD, w_isDct, ↓ws_forD, ↓we_zip3, W_newL0, W_newL1, W_newT,      wm_append, appO_lst, wm_extend, extO_lst, recv_loc, recvO_lst, ws_set, setO_lst, setO_dct, lstX_lst, lstX_loc, seqV_loc, lstV_loc, lstV_lst, lstV_scr, wi_str, ↓wdct_nil, ↓wdct_cons, W_newD0, W_newD1, keyOf_str, keyOf_int, dput_nil, ↓we_isi, ↓we_lrg, w_lrg, w_rng3N, w_rng32, ↓we_lset, ↓we_isB, w_isB, w_lsetT, w_lsetL, ↓we_orv, w_orI, w_orN, w_orB, w_only, wb_sum, wb_min, wb_max, wb_sorted, wb_dict, wm_index, w_augA, w_augS, ty_non_int, ty_non_str, ty_non_bool, ty_non_tuple, ty_non_list, ty_non_dict, ty_bl_int, ty_bl_str, ty_bl_bool, ty_bl_tuple, ty_bl_list, ty_bl_dict, ty_int_int, ty_int_str, ty_int_bool, ty_int_tuple, ty_int_list, ty_int_dict, ty_str_int, ty_str_str, ty_str_bool, ty_str_tuple, ty_str_list, ty_str_dict, ty_tup_int, ty_tup_str, ty_tup_bool, ty_tup_tuple, ty_tup_list, ty_tup_dict, ty_lst_int, ty_lst_str, ty_lst_bool, ty_lst_tuple, ty_lst_list, ty_lst_dict, ty_dct_int, ty_dct_str, ty_dct_bool, ty_dct_tuple, ty_dct_list, ty_dct_dict, ty_scr_int, ty_scr_str, ty_scr_bool, ty_scr_tuple, ty_scr_list, ty_scr_dict, ↓we_sm0, ↓we_sm1, ↓we_rev, wsm_upper, wsm_join, wsm_split, wsm_part, wrev_lst, wrev_tup, wrev_loc, seqV_tup, seqV_lst1, seqV_scr1, wsl_tup, wsl_str, wsl_lst, wsl_scr, wsl_loc, popO_0, wm_popAt, wq_tup, wq_lst, wq_scr, wq_str, wq_loc,      isNon_non, isNon_bl, isNon_int, isNon_str, isNon_tup, isNon_lst, isNon_dct,      asgt_name, asg_tup, asg_nil, asg_cons, setEach, some_bind, wipe_nil, wipe_cons, if_t, ite_true, ite_false, Bool.not_true, Bool.not_false, Bool.false_eq_true,      List.append_assoc, List.length_append, List.length_map, List.map_cons, List.map_nil, List.cons_append, List.nil_append, List.replicate_succ, List.replicate_zero, Nat.reduceSub, Nat.reduceAdd, Nat.reduceLT, Nat.reduceLeDiff, Nat.reduceEqDiff, List.length_cons, List.length_nil, List.getElem?_cons_zero, List.getElem?_cons_succ, List.set_cons_zero, List.set_cons_succ, $ts,*])
theorem str_len {x : Str} : x.cps.toList.length = x.length := by simp [Str.length]
theorem atC_some {x : Str} {i : Int} (h0 : 0 ≤ i) (h1 : i < x.length) : ∃ c, atC x i = some c ∧ c ∈ x.cps.toList := by
  have hi : i.toNat < x.cps.toList.length := by rw [str_len]; omega
  refine ⟨x.cps.toList[i.toNat], ?_, List.getElem_mem hi⟩
  unfold atC ixN
  rw [if_pos h0, if_pos (by rw [str_len]; omega)]
  simp [hi]
abbrev HasPS (K : Kind) (F : List D → Store → RD) : Prop := ∀ l (x : Str), 0 < x.length → x.length ≤ 1000 → Draws K l 1 (fun d => ∃ c ∈ x.cps.toList, d = sign c) (F [.loc l, .str x])
theorem pickS_of {K : Kind} {g : G} (hT : HasT K (g.fn "_law_take")) : HasPS K (runF g dPick) := by
  intro l x hx hn
  refine Draws.run rfl fun b n os s hd => ?_
  simp_arith [show x.length ≤ 16777216 by omega]
  refine take_k hT (by omega) (by omega) hd fun s1 i hs h0 h1 => ?_
  obtain ⟨c, e, hc⟩ := atC_some h0 h1
  simp_arith [show x.length ≤ 16777216 by omega, e]
  exact W_finH hd hs rfl ⟨hs, c, hc, rfl⟩
section
variable {K : Kind} {F : List D → Store → RD} {l b n O : Nat} {os ls s : Store} {Q : D × Store → Prop} {x : Str}
theorem pickS_k (hP : HasPS K F) (h0 : 0 < x.length) (h1 : x.length ≤ 1000) (hd : Hd K l b (n + 1) os s)
    (q : ∀ s c, Hd K l b n os s → c ∈ x.cps.toList → Q (sign c, s)) : W (F [.loc l, .str x] s) Q :=
  (hP l x h0 h1 b n os s hd).mono fun ⟨d, s'⟩ ⟨h, c, hc, e⟩ => by cases e; exact q s' c h hc
end
theorem cutStr_list (x : Str) (lo hi : Option Int) : (cutStr x lo hi).cps.toList = cut x.cps.toList lo hi := by simp [cutStr]
theorem slice_len (x : Str) (lo hi : Option Int) : (cutStr x lo hi).length ≤ x.length := by
  rw [← str_len, ← str_len, cutStr_list]
  unfold cut
  rw [List.length_take, List.length_drop]
  omega
theorem mem_cut {α : Type} {xs : List α} {lo hi : Option Int} {x : α} (h : x ∈ cut xs lo hi) : x ∈ xs := List.mem_of_mem_drop (List.mem_of_mem_take h)
theorem app_list (x y : Str) : (x ++ y).cps.toList = x.cps.toList ++ y.cps.toList := by
  show (x.cps ++ y.cps).toList = _
  simp
/-- plain signs -/
def Asc (x : Str) : Prop := ∀ c ∈ x.cps.toList, c < 1000
instance (x : Str) : Decidable (Asc x) := by unfold Asc; infer_instance
theorem Asc.cut {x : Str} (h : Asc x) (lo hi : Option Int) : Asc (cutStr x lo hi) := fun c hc => by rw [cutStr_list] at hc; exact h c (mem_cut hc)
theorem Asc.app {x y : Str} (h : Asc x) (k : Asc y) : Asc (x ++ y) := fun c hc => by
  rw [app_list] at hc
  rcases List.mem_append.mp hc with hc | hc
  · exact h c hc
  · exact k c hc
def sgn (c : Nat) : Str := ⟨#[c]⟩
theorem sign_str (c : Nat) : sign c = .str (sgn c) := rfl
theorem sgn_len (c : Nat) : (sgn c).length = 1 := rfl
theorem Asc.sgn {c : Nat} (h : c < 1000) : Asc (sgn c) := fun d hd => by
  have : d = c := by simpa [DV.sgn] using hd
  omega
/-! ### signs in texts, texts in tuples -/
/-! ### the hand laid by ifs -/
def dHandA2 : FD := ⟨2, 4, false, .cons (.asg (.name 2) (.int 0)) (.cons (.if_ (.cmp .lt (.var 1) (.bi false .len (.cons (.var 0) .nil))) (.cons (.asg (.name 2) (.idx (.var 0) (.var 1))) .nil) .nil) (.cons (.asg (.name 3) (.bin false .mul (.bin false .mod (.var 2) (.bin false .mul (.bin false .mul (.bin false .pow (.int 10) (.int 60)) (.bin false .pow (.int 10) (.int 60))) (.bin false .pow (.int 10) (.int 60)))) (.bi false .int (.cons (.cmp .ge (.var 2) (.bin false .pow (.int 10) (.int 18))) .nil)))) (.cons (.ret (.lst true (.cons (.var 3) (.cons (.bin false .mod (.bin false .add (.bin false .add (.bin false .mod (.var 2) (.int 2305843009213693951)) (.bin false .mul (.int 7919) (.var 1))) (.int 3)) (.int 2305843009213693951)) (.cons (.int 0) .nil))))) .nil)))⟩
theorem at_script {ns : List Int} {k : Int} (h0 : 0 ≤ k) (h : k < ns.length) : at_ (ns.map D.int) k = some (.int (ns.getD k.toNat 0)) := by
  have hb : k.toNat < ns.length := by omega
  refine at_some h0 ?_
  rw [List.getElem?_map, List.getElem?_eq_getElem hb]
  simp [hb]
theorem handA2_w {g : G} {m : Store} {ns : List Int} {k : Int} (ok : StOk m) (hk : 0 ≤ k) : W (runF g dHandA2 [.scr (ns.map .int), .int k] m) fun p => p.1 = .loc m.length ∧ Hd kindA m.length (m.length + 1) 1000000 [] p.2 := by
  unfold dHandA2
  simp_arith [List.length_map]
  refine way_join (P := fun p => ∃ cell : Int, p = (.next, [some (.scr (ns.map .int)), some (.int k), some (.int cell), none], m)) ?_ ?_
  · refine wayD (fun h => ?_) (fun h => ?_)
    · simp_arith [at_script hk h]
      exact ⟨_, rfl⟩
    · simp_arith
      exact ⟨_, rfl⟩
  · rintro _ ⟨cell, rfl⟩
    have q1 : mulOk (1000000000000000000000000000000000000000000000000000000000000 : Int) 1000000000000000000000000000000000000000000000000000000000000 := by decide +kernel
    have q2 : ∀ (a : Int) (b : Bool), mulOk a (if b = true then 1 else 0) := fun a b => .inl (.inr (by cases b <;> decide))
    simp_arith [q1]
    refine sd (by decide +kernel) ?_
    have q3 : mulOk 7919 k := .inl (.inl (by decide))
    simp_arith [q2, q3]
    generalize hG : cell % _ * _ = great
    generalize hS : (cell % 2305843009213693951 + 7919 * k + 3) % 2305843009213693951 = seed
    have g0 : 0 ≤ great := by
      rw [← hG]
      exact Int.mul_nonneg (Int.emod_nonneg _ (by decide)) (by split <;> decide)
    have s0 : 0 ≤ seed ∧ seed < 2305843009213693951 := by rw [← hS]; exact ⟨Int.emod_nonneg _ (by decide), Int.emod_lt_of_pos _ (by decide)⟩
    have ok2 : StOk (m ++ [(⟨great, seed, 0⟩ : Hand).enc]) := ok.push (by rfl)
    refine ⟨_, rfl, rfl, ⟨⟨m ++ [(⟨great, seed, 0⟩ : Hand).enc], by simp [Hand.enc], by simp, ok2, ⟨great, seed, 0⟩, by simp, ⟨g0, s0.1, by show seed < 2 ^ 61; omega, Int.le_refl _, (by show (0 : Int) < 2 ^ 40; decide)⟩, (by show (0 : Int) + ((1000000 : Nat) : Int) < 2 ^ 39; decide)⟩, ok2⟩⟩
end DV

end
section
set_option Elab.async false
set_option linter.all false
set_option maxRecDepth 100000
set_option autoImplicit false
set_option maxHeartbeats 2000000
/-! sorted, sum, min, max of whole numbers. -/
namespace DV
open PySem (Str)
theorem af_ret {I : Fr → Store → Prop} {Q : Fl × Fr × Store → Prop} {d : D} {r : Fr} {m : Store} : After I Q (.ret d, r, m) ↔ Q (.ret d, r, m) := Iff.rfl
theorem af_brk {I : Fr → Store → Prop} {Q : Fl × Fr × Store → Prop} {r : Fr} {m : Store} : After I Q (.brk, r, m) ↔ Q (.next, r, m) := Iff.rfl
section
variable {f : Bool} {m : Store} {Q : D × Store → Prop}
theorem sortable_ints (ns : List Int) : Sortable (ns.map .int) := by
  refine ⟨fun x hx => ?_, fun x hx y hy => ?_, .inr fun x hx => ?_⟩
  · obtain ⟨i, _, rfl⟩ := List.mem_map.mp hx; exact ⟨rfl, by show (0 : Nat) ≤ 30; decide⟩
  · obtain ⟨i, _, rfl⟩ := List.mem_map.mp hx; obtain ⟨j, _, rfl⟩ := List.mem_map.mp hy; rfl
  · obtain ⟨i, _, rfl⟩ := List.mem_map.mp hx; rfl
open Classical in
theorem W_maxT {n : Int} {ns : List Int} : W (maxA (.tup (.int n :: ns.map .int)) m) Q ↔ Q (.int (ns.foldl (fun a b => if a < b then b else a) n), m) := by
  have e : isInts (.tup (.int n :: ns.map .int)) m = false := rfl
  unfold maxA
  rw [e, if_neg (by decide)]
  unfold bestD
  have e2 : seqV m (.tup (.int n :: ns.map .int)) = some (.int n :: ns.map .int) := rfl
  rw [e2]
  simp only
  rw [W_sd]
  have sb := sortable_ints (n :: ns)
  have e3 : ∀ (ns : List Int) (n : Int), maxD (.int n) (ns.map .int) = .int (ns.foldl (fun a b => if a < b then b else a) n) := by
    intro ns
    induction ns with
    | nil => intro n; rfl
    | cons k r ih =>
      intro n
      show maxD (if ltD (.int n) (.int k) = true then .int k else .int n) (r.map .int) = _
      rw [List.foldl_cons, ← ih]
      congr 1
      have hl : ltD (.int n) (.int k) = decide (n < k) := by simp only [ltD]
      by_cases hk : n < k
      · rw [if_pos (by rw [hl]; exact decide_eq_true hk), if_pos hk]
      · rw [if_neg (by rw [hl]; simpa using hk), if_neg hk]
  rw [e3]
  exact ⟨fun q => W_ok.mp q.2, fun q => ⟨sb, W_ok.mpr q⟩⟩
theorem rng_at {n j : Nat} {x : D} (h : (rngL 0 n 1)[j]? = some x) : j < n ∧ x = .int (j : Int) := by
  have hj := (List.getElem?_eq_some_iff.mp h).1
  rw [rngL_length] at hj
  simp only [rngL, List.getElem?_map, List.getElem?_range hj, Option.map_some, Option.some.injEq] at h
  refine ⟨hj, ?_⟩
  rw [← h]; congr 1; omega
end
end DV

end
section
set_option Elab.async false
set_option linter.all false
set_option maxRecDepth 100000
set_option autoImplicit false
set_option maxHeartbeats 1000000
/-! What raises: Xv v c fs m says that v raises an exception of the class c, its fields fs, at the store m. -/
namespace DV
open PySem (Str)
def Xv {α : Type} (v : Res α) (c : String) (fs : List (Str × D)) (m : Store) : Prop := ∃ r, v = .exc c fs r m
section
variable {g : G} {r : Fr} {m m' : Store} {c : String} {fs : List (Str × D)}
variable {R : Fr → Prop}
end
/-! ### what is drawn for each thing of a list -/
def All2 {α β : Type} (R : α → β → Prop) : List α → List β → Prop
  | [], [] => True
  | x :: xs, v :: vs => R x v ∧ All2 R xs vs
  | _, _ => False
theorem All2.length {α β : Type} {R : α → β → Prop} : ∀ {xs : List α} {vs : List β}, All2 R xs vs → vs.length = xs.length
  | [], [], _ => rfl
  | a :: xs, b :: vs, h => by simp [All2.length h.2]
end DV

end
section
set_option autoImplicit false
/-! The defs that many laws share. -/
namespace DV
def dP_is_whole : FD := ⟨1, 1, true, .cons (.ret (.and (.cons (.isi .int (.var 0)) (.cons (.not (.isi .bool (.var 0))) .nil)))) .nil⟩
end DV

end
section
set_option Elab.async false
set_option linter.all false
set_option maxRecDepth 100000
set_option autoImplicit false
set_option maxHeartbeats 2000000
namespace DV
open PySem (Str)
local macro_rules
  | `(tactic| simp_arith) => `(tactic| simp_arith [])
  | `(tactic| simp_arith [$ts,*]) => `(tactic| simp only [↓W_run, ↓ws_nil, ↓W_way, ↓ws_cons, ↓ws_asg, ↓ws_par, ↓ws_seti, ↓ws_aug, ↓ws_augi, ↓ws_expr, ↓ws_ret, ↓ws_retN, ↓ws_pass, ↓ws_brk, ↓ws_cont, ↓ws_if, ↓ws_while, ↓ws_for, ↓ws_turn,      ow_next, ow_ret, ow_brk, ow_cont, end_ret, end_next,      ↓we_var, ↓we_int, ↓we_bl, ↓we_str, ↓we_non, ↓we_con, ↓we_bin, ↓we_neg, ↓we_cmp, ↓we_cmp2, ↓we_isN, ↓we_notN, ↓we_not, ↓we_ife, ↓we_and, ↓we_or, ↓we_and1, ↓we_or1, ↓we_and2, ↓we_or2, ↓we_tup, ↓we_lst, ↓we_lstN, ↓we_dct,      ↓we_idx, ↓we_slc, ↓we_call, ↓we_bi, ↓we_mt, ↓we_nil, ↓we_cons, ↓we_oN, ↓we_oS, ↓we_cN, ↓we_cS, ↓we_lc, ↓we_turn, ↓we_seq, ↓we_rng1, ↓we_rng2, ↓we_rng3, ↓we_enum, ↓we_zip, ↓we_test,      Int.reduceLE, Int.reduceLT, Int.reduceAbs, log_lit, Nat.reducePow, Int.reduceToNat, Int.reducePow, Int.reduceAdd, Int.reduceSub, Int.reduceMul, Int.reduceNeg, Int.reduceEq, decide_true, decide_false, small62_iff, small61_iff, sizeMax_val, and_true, true_and, and_self, W_ok, WO_some, Way_t, Way_f, Way_not, Sd_t, isBool_bl, isInt_int,      wo_add, wo_sub, wo_mul, wo_fdiv, wo_mod, wo_pow, wo_addS, wo_addT, wo_addL, wo_addLo, wo_addLl, wo_mulS, wo_mulL, wo_mulT, wo_neg, wc_eqI, wc_neI, wc_ltI, wc_gtI, wc_leI, wc_geI, wc_eqS, wc_neS, wc_in, wc_notin,      wi_S, wi_tup, wi_lst, wi_scr, wi_loc, wi_lo, wi_do, at_0, at_1, at_2, at_3, at_4, at_5, at_if, int_ite,      wb_lenS, wb_lenT, wb_lenL, wb_lenScr, wb_lenLo, lenO_lst, lenO_dct, wb_abs, wb_intI, wb_intB, wb_bool, wb_strS, wb_strI, wb_min2, wb_max2, wb_tupT, wb_tupL, wb_tupLo, wb_list, w_listS, w_listT, w_listL, w_listScr, w_listD, w_dictD, ↓we_litems, w_litems, ↓we_isx, ↓we_fld, ↓we_dpop, ↓we_dget, ↓we_dclr, ↓we_tix, isDc_loc, dcO_dct, wd_pop, popX_dct, w_popV, wd_get, dctV_dct, dctV_loc, dctO_dct, Option.isSome_some, wd_clr, clrO_dct, w_pr2, ↓ws_swp, ↓we_lcD, w_isDct, ↓ws_forD, ↓we_zip3, W_newL0, W_newL1, W_newT,      wm_append, appO_lst, wm_extend, extO_lst, recv_loc, recvO_lst, ws_set, setO_lst, setO_dct, lstX_lst, lstX_loc, seqV_loc, lstV_loc, lstV_lst, lstV_scr, wi_str, ↓wdct_nil, ↓wdct_cons, W_newD0, W_newD1, keyOf_str, keyOf_int, dput_nil, ↓we_isi, ↓we_lrg, w_lrg, w_rng3N, w_rng32, ↓we_lset, ↓we_isB, w_isB, w_lsetT, w_lsetL, ↓we_orv, w_orI, w_orN, w_orB, w_only, wb_sum, wb_min, wb_max, wb_sorted, wb_dict, wm_index, w_augA, w_augS, ty_non_int, ty_non_str, ty_non_bool, ty_non_tuple, ty_non_list, ty_non_dict, ty_bl_int, ty_bl_str, ty_bl_bool, ty_bl_tuple, ty_bl_list, ty_bl_dict, ty_int_int, ty_int_str, ty_int_bool, ty_int_tuple, ty_int_list, ty_int_dict, ty_str_int, ty_str_str, ty_str_bool, ty_str_tuple, ty_str_list, ty_str_dict, ty_tup_int, ty_tup_str, ty_tup_bool, ty_tup_tuple, ty_tup_list, ty_tup_dict, ty_lst_int, ty_lst_str, ty_lst_bool, ty_lst_tuple, ty_lst_list, ty_lst_dict, ty_dct_int, ty_dct_str, ty_dct_bool, ty_dct_tuple, ty_dct_list, ty_dct_dict, ty_scr_int, ty_scr_str, ty_scr_bool, ty_scr_tuple, ty_scr_list, ty_scr_dict, ↓we_sm0, ↓we_sm1, ↓we_rev, wsm_upper, wsm_join, wsm_split, wsm_part, wrev_lst, wrev_tup, wrev_loc, seqV_tup, seqV_lst1, seqV_scr1, wsl_tup, wsl_str, wsl_lst, wsl_scr, wsl_loc, popO_0, wm_popAt, wq_tup, wq_lst, wq_scr, wq_str, wq_loc,      isNon_non, isNon_bl, isNon_int, isNon_str, isNon_tup, isNon_lst, isNon_dct,      asgt_name, asg_tup, asg_nil, asg_cons, setEach, some_bind, wipe_nil, wipe_cons, if_t, ite_true, ite_false, Bool.not_true, Bool.not_false, Bool.false_eq_true,      List.append_assoc, List.length_append, List.length_map, List.map_cons, List.map_nil, List.cons_append, List.nil_append, List.replicate_succ, List.replicate_zero, Nat.reduceSub, Nat.reduceAdd, Nat.reduceLT, Nat.reduceLeDiff, Nat.reduceEqDiff, List.length_cons, List.length_nil, List.getElem?_cons_zero, List.getElem?_cons_succ, List.set_cons_zero, List.set_cons_succ, $ts,*])
end DV

end
section
set_option Elab.async false
set_option linter.all false
set_option maxRecDepth 100000
set_option autoImplicit false
set_option maxHeartbeats 2000000
namespace DV
open PySem (Str)
local macro_rules
  | `(tactic| simp_arith) => `(tactic| simp_arith [])
  | `(tactic| simp_arith [$ts,*]) => `(tactic| simp only [↓W_run, ↓ws_nil, ↓W_way, ↓ws_cons, ↓ws_asg, ↓ws_par, ↓ws_seti, ↓ws_aug, ↓ws_augi, ↓ws_expr, ↓ws_ret, ↓ws_retN, ↓ws_pass, ↓ws_brk, ↓ws_cont, ↓ws_if, ↓ws_while, ↓ws_for, ↓ws_turn,      ow_next, ow_ret, ow_brk, ow_cont, end_ret, end_next,      ↓we_var, ↓we_int, ↓we_bl, ↓we_str, ↓we_non, ↓we_con, ↓we_bin, ↓we_neg, ↓we_cmp, ↓we_cmp2, ↓we_isN, ↓we_notN, ↓we_not, ↓we_ife, ↓we_and, ↓we_or, ↓we_and1, ↓we_or1, ↓we_and2, ↓we_or2, ↓we_tup, ↓we_lst, ↓we_lstN, ↓we_dct,      ↓we_idx, ↓we_slc, ↓we_call, ↓we_bi, ↓we_mt, ↓we_nil, ↓we_cons, ↓we_oN, ↓we_oS, ↓we_cN, ↓we_cS, ↓we_lc, ↓we_turn, ↓we_seq, ↓we_rng1, ↓we_rng2, ↓we_rng3, ↓we_enum, ↓we_zip, ↓we_test,      Int.reduceLE, Int.reduceLT, Int.reduceAbs, log_lit, Nat.reducePow, Int.reduceToNat, Int.reducePow, Int.reduceAdd, Int.reduceSub, Int.reduceMul, Int.reduceNeg, Int.reduceEq, decide_true, decide_false, small62_iff, small61_iff, sizeMax_val, and_true, true_and, and_self, W_ok, WO_some, Way_t, Way_f, Way_not, Sd_t, isBool_bl, isInt_int,      wo_add, wo_sub, wo_mul, wo_fdiv, wo_mod, wo_pow, wo_addS, wo_addT, wo_addL, wo_addLo, wo_addLl, wo_mulS, wo_mulL, wo_mulT, wo_neg, wc_eqI, wc_neI, wc_ltI, wc_gtI, wc_leI, wc_geI, wc_eqS, wc_neS, wc_in, wc_notin,      wi_S, wi_tup, wi_lst, wi_scr, wi_loc, wi_lo, wi_do, at_0, at_1, at_2, at_3, at_4, at_5, at_if, int_ite,      wb_lenS, wb_lenT, wb_lenL, wb_lenScr, wb_lenLo, lenO_lst, lenO_dct, wb_abs, wb_intI, wb_intB, wb_bool, wb_strS, wb_strI, wb_min2, wb_max2, wb_tupT, wb_tupL, wb_tupLo, wb_list, w_listS, w_listT, w_listL, w_listScr, w_listD, w_dictD, ↓we_litems, w_litems, ↓we_isx, ↓we_fld, ↓we_dpop, ↓we_dget, ↓we_dclr, ↓we_tix, isDc_loc, dcO_dct, wd_pop, popX_dct, w_popV, wd_get, dctV_dct, dctV_loc, dctO_dct, Option.isSome_some, wd_clr, clrO_dct, w_pr2, ↓ws_swp, ↓we_lcD, w_isDct, ↓ws_forD, ↓we_zip3, W_newL0, W_newL1, W_newT,      wm_append, appO_lst, wm_extend, extO_lst, recv_loc, recvO_lst, ws_set, setO_lst, setO_dct, lstX_lst, lstX_loc, seqV_loc, lstV_loc, lstV_lst, lstV_scr, wi_str, ↓wdct_nil, ↓wdct_cons, W_newD0, W_newD1, keyOf_str, keyOf_int, dput_nil, ↓we_isi, ↓we_lrg, w_lrg, w_rng3N, w_rng32, ↓we_lset, ↓we_isB, w_isB, w_lsetT, w_lsetL, ↓we_orv, w_orI, w_orN, w_orB, w_only, wb_sum, wb_min, wb_max, wb_sorted, wb_dict, wm_index, w_augA, w_augS, ty_non_int, ty_non_str, ty_non_bool, ty_non_tuple, ty_non_list, ty_non_dict, ty_bl_int, ty_bl_str, ty_bl_bool, ty_bl_tuple, ty_bl_list, ty_bl_dict, ty_int_int, ty_int_str, ty_int_bool, ty_int_tuple, ty_int_list, ty_int_dict, ty_str_int, ty_str_str, ty_str_bool, ty_str_tuple, ty_str_list, ty_str_dict, ty_tup_int, ty_tup_str, ty_tup_bool, ty_tup_tuple, ty_tup_list, ty_tup_dict, ty_lst_int, ty_lst_str, ty_lst_bool, ty_lst_tuple, ty_lst_list, ty_lst_dict, ty_dct_int, ty_dct_str, ty_dct_bool, ty_dct_tuple, ty_dct_list, ty_dct_dict, ty_scr_int, ty_scr_str, ty_scr_bool, ty_scr_tuple, ty_scr_list, ty_scr_dict, ↓we_sm0, ↓we_sm1, ↓we_rev, wsm_upper, wsm_join, wsm_split, wsm_part, wrev_lst, wrev_tup, wrev_loc, seqV_tup, seqV_lst1, seqV_scr1, wsl_tup, wsl_str, wsl_lst, wsl_scr, wsl_loc, popO_0, wm_popAt, wq_tup, wq_lst, wq_scr, wq_str, wq_loc,      isNon_non, isNon_bl, isNon_int, isNon_str, isNon_tup, isNon_lst, isNon_dct,      asgt_name, asg_tup, asg_nil, asg_cons, setEach, some_bind, wipe_nil, wipe_cons, if_t, ite_true, ite_false, Bool.not_true, Bool.not_false, Bool.false_eq_true,      List.append_assoc, List.length_append, List.length_map, List.map_cons, List.map_nil, List.cons_append, List.nil_append, List.replicate_succ, List.replicate_zero, Nat.reduceSub, Nat.reduceAdd, Nat.reduceLT, Nat.reduceLeDiff, Nat.reduceEqDiff, List.length_cons, List.length_nil, List.getElem?_cons_zero, List.getElem?_cons_succ, List.set_cons_zero, List.set_cons_succ, $ts,*])
structure FormG where
  seats : List Int
  ro : Int
  even : Int
  per : Int
  wo : List Int
def FormG.enc (f : FormG) : D := .tup [.tup (f.seats.map .int), .int f.ro, .int f.even, .int f.per, .tup (f.wo.map .int)]
structure FormG.Ok (f : FormG) : Prop where
  s0 : 1 ≤ f.seats.length
  s1 : f.seats.length ≤ 6
  se : ∀ x ∈ f.seats, 1 ≤ x ∧ x ≤ 30
  r0 : 1 ≤ f.ro
  r1 : f.ro ≤ 12
  e0 : 0 ≤ f.even
  e1 : f.even < 100000000000000000000000000000000000
  p0 : 1 ≤ f.per
  p1 : f.per ≤ 100000000000000000000000000000000000
  w0 : 1 ≤ f.wo.length
  w1 : f.wo.length ≤ 6
  we : ∀ x ∈ f.wo, 1 ≤ x ∧ x ≤ 100000000000000000000000000000000000
section
variable {f : FormG} {m : Store}
end
/-! ### outcomes -/
end DV

end
section
set_option Elab.async false
set_option linter.all false
set_option maxRecDepth 100000
set_option autoImplicit false
set_option maxHeartbeats 2000000
namespace DV
open PySem (Str)
local macro_rules
  | `(tactic| simp_arith) => `(tactic| simp_arith [])
  | `(tactic| simp_arith [$ts,*]) => `(tactic| simp only [↓W_run, ↓ws_nil, ↓W_way, ↓ws_cons, ↓ws_asg, ↓ws_par, ↓ws_seti, ↓ws_aug, ↓ws_augi, ↓ws_expr, ↓ws_ret, ↓ws_retN, ↓ws_pass, ↓ws_brk, ↓ws_cont, ↓ws_if, ↓ws_while, ↓ws_for, ↓ws_turn,      ow_next, ow_ret, ow_brk, ow_cont, end_ret, end_next,      ↓we_var, ↓we_int, ↓we_bl, ↓we_str, ↓we_non, ↓we_con, ↓we_bin, ↓we_neg, ↓we_cmp, ↓we_cmp2, ↓we_isN, ↓we_notN, ↓we_not, ↓we_ife, ↓we_and, ↓we_or, ↓we_and1, ↓we_or1, ↓we_and2, ↓we_or2, ↓we_tup, ↓we_lst, ↓we_lstN, ↓we_dct,      ↓we_idx, ↓we_slc, ↓we_call, ↓we_bi, ↓we_mt, ↓we_nil, ↓we_cons, ↓we_oN, ↓we_oS, ↓we_cN, ↓we_cS, ↓we_lc, ↓we_turn, ↓we_seq, ↓we_rng1, ↓we_rng2, ↓we_rng3, ↓we_enum, ↓we_zip, ↓we_test,      Int.reduceLE, Int.reduceLT, Int.reduceAbs, log_lit, Nat.reducePow, Int.reduceToNat, Int.reducePow, Int.reduceAdd, Int.reduceSub, Int.reduceMul, Int.reduceNeg, Int.reduceEq, decide_true, decide_false, small62_iff, small61_iff, sizeMax_val, and_true, true_and, and_self, W_ok, WO_some, Way_t, Way_f, Way_not, Sd_t, isBool_bl, isInt_int,      wo_add, wo_sub, wo_mul, wo_fdiv, wo_mod, wo_pow, wo_addS, wo_addT, wo_addL, wo_addLo, wo_addLl, wo_mulS, wo_mulL, wo_mulT, wo_neg, wc_eqI, wc_neI, wc_ltI, wc_gtI, wc_leI, wc_geI, wc_eqS, wc_neS, wc_in, wc_notin,      wi_S, wi_tup, wi_lst, wi_scr, wi_loc, wi_lo, wi_do, at_0, at_1, at_2, at_3, at_4, at_5, at_if, int_ite,      wb_lenS, wb_lenT, wb_lenL, wb_lenScr, wb_lenLo, lenO_lst, lenO_dct, wb_abs, wb_intI, wb_intB, wb_bool, wb_strS, wb_strI, wb_min2, wb_max2, wb_tupT, wb_tupL, wb_tupLo, wb_list, w_listS, w_listT, w_listL, w_listScr, w_listD, w_dictD, ↓we_litems, w_litems, ↓we_isx, ↓we_fld, ↓we_dpop, ↓we_dget, ↓we_dclr, ↓we_tix, isDc_loc, dcO_dct, wd_pop, popX_dct, w_popV, wd_get, dctV_dct, dctV_loc, dctO_dct, Option.isSome_some, wd_clr, clrO_dct, w_pr2, ↓ws_swp, ↓we_lcD, w_isDct, ↓ws_forD, ↓we_zip3, W_newL0, W_newL1, W_newT,      wm_append, appO_lst, wm_extend, extO_lst, recv_loc, recvO_lst, ws_set, setO_lst, setO_dct, lstX_lst, lstX_loc, seqV_loc, lstV_loc, lstV_lst, lstV_scr, wi_str, ↓wdct_nil, ↓wdct_cons, W_newD0, W_newD1, keyOf_str, keyOf_int, dput_nil, ↓we_isi, ↓we_lrg, w_lrg, w_rng3N, w_rng32, ↓we_lset, ↓we_isB, w_isB, w_lsetT, w_lsetL, ↓we_orv, w_orI, w_orN, w_orB, w_only, wb_sum, wb_min, wb_max, wb_sorted, wb_dict, wm_index, w_augA, w_augS, ty_non_int, ty_non_str, ty_non_bool, ty_non_tuple, ty_non_list, ty_non_dict, ty_bl_int, ty_bl_str, ty_bl_bool, ty_bl_tuple, ty_bl_list, ty_bl_dict, ty_int_int, ty_int_str, ty_int_bool, ty_int_tuple, ty_int_list, ty_int_dict, ty_str_int, ty_str_str, ty_str_bool, ty_str_tuple, ty_str_list, ty_str_dict, ty_tup_int, ty_tup_str, ty_tup_bool, ty_tup_tuple, ty_tup_list, ty_tup_dict, ty_lst_int, ty_lst_str, ty_lst_bool, ty_lst_tuple, ty_lst_list, ty_lst_dict, ty_dct_int, ty_dct_str, ty_dct_bool, ty_dct_tuple, ty_dct_list, ty_dct_dict, ty_scr_int, ty_scr_str, ty_scr_bool, ty_scr_tuple, ty_scr_list, ty_scr_dict, ↓we_sm0, ↓we_sm1, ↓we_rev, wsm_upper, wsm_join, wsm_split, wsm_part, wrev_lst, wrev_tup, wrev_loc, seqV_tup, seqV_lst1, seqV_scr1, wsl_tup, wsl_str, wsl_lst, wsl_scr, wsl_loc, popO_0, wm_popAt, wq_tup, wq_lst, wq_scr, wq_str, wq_loc,      isNon_non, isNon_bl, isNon_int, isNon_str, isNon_tup, isNon_lst, isNon_dct,      asgt_name, asg_tup, asg_nil, asg_cons, setEach, some_bind, wipe_nil, wipe_cons, if_t, ite_true, ite_false, Bool.not_true, Bool.not_false, Bool.false_eq_true,      List.append_assoc, List.length_append, List.length_map, List.map_cons, List.map_nil, List.cons_append, List.nil_append, List.replicate_succ, List.replicate_zero, Nat.reduceSub, Nat.reduceAdd, Nat.reduceLT, Nat.reduceLeDiff, Nat.reduceEqDiff, List.length_cons, List.length_nil, List.getElem?_cons_zero, List.getElem?_cons_succ, List.set_cons_zero, List.set_cons_succ, $ts,*])
structure NameOk (x : Str) : Prop where
  l0 : 1 ≤ x.length
  l1 : x.length ≤ 12
  ch : ∀ c ∈ x.cps.toList, 97 ≤ c ∧ c ≤ 122
end DV

end
section
set_option Elab.async false
set_option linter.all false
set_option maxRecDepth 100000
set_option autoImplicit false
set_option maxHeartbeats 2000000
namespace DV
open PySem (Str)
local macro_rules
  | `(tactic| simp_arith) => `(tactic| simp_arith [])
  | `(tactic| simp_arith [$ts,*]) => `(tactic| simp only [↓W_run, ↓ws_nil, ↓W_way, ↓ws_cons, ↓ws_asg, ↓ws_par, ↓ws_seti, ↓ws_aug, ↓ws_augi, ↓ws_expr, ↓ws_ret, ↓ws_retN, ↓ws_pass, ↓ws_brk, ↓ws_cont, ↓ws_if, ↓ws_while, ↓ws_for, ↓ws_turn,      ow_next, ow_ret, ow_brk, ow_cont, end_ret, end_next,      ↓we_var, ↓we_int, ↓we_bl, ↓we_str, ↓we_non, ↓we_con, ↓we_bin, ↓we_neg, ↓we_cmp, ↓we_cmp2, ↓we_isN, ↓we_notN, ↓we_not, ↓we_ife, ↓we_and, ↓we_or, ↓we_and1, ↓we_or1, ↓we_and2, ↓we_or2, ↓we_tup, ↓we_lst, ↓we_lstN, ↓we_dct,      ↓we_idx, ↓we_slc, ↓we_call, ↓we_bi, ↓we_mt, ↓we_nil, ↓we_cons, ↓we_oN, ↓we_oS, ↓we_cN, ↓we_cS, ↓we_lc, ↓we_turn, ↓we_seq, ↓we_rng1, ↓we_rng2, ↓we_rng3, ↓we_enum, ↓we_zip, ↓we_test,      Int.reduceLE, Int.reduceLT, Int.reduceAbs, log_lit, Nat.reducePow, Int.reduceToNat, Int.reducePow, Int.reduceAdd, Int.reduceSub, Int.reduceMul, Int.reduceNeg, Int.reduceEq, decide_true, decide_false, small62_iff, small61_iff, sizeMax_val, and_true, true_and, and_self, W_ok, WO_some, Way_t, Way_f, Way_not, Sd_t, isBool_bl, isInt_int,      wo_add, wo_sub, wo_mul, wo_fdiv, wo_mod, wo_pow, wo_addS, wo_addT, wo_addL, wo_addLo, wo_addLl, wo_mulS, wo_mulL, wo_mulT, wo_neg, wc_eqI, wc_neI, wc_ltI, wc_gtI, wc_leI, wc_geI, wc_eqS, wc_neS, wc_in, wc_notin,      wi_S, wi_tup, wi_lst, wi_scr, wi_loc, wi_lo, wi_do, at_0, at_1, at_2, at_3, at_4, at_5, at_if, int_ite,      wb_lenS, wb_lenT, wb_lenL, wb_lenScr, wb_lenLo, lenO_lst, lenO_dct, wb_abs, wb_intI, wb_intB, wb_bool, wb_strS, wb_strI, wb_min2, wb_max2, wb_tupT, wb_tupL, wb_tupLo, wb_list, w_listS, w_listT, w_listL, w_listScr, w_listD, w_dictD, ↓we_litems, w_litems, ↓we_isx, ↓we_fld, ↓we_dpop, ↓we_dget, ↓we_dclr, ↓we_tix, isDc_loc, dcO_dct, wd_pop, popX_dct, w_popV, wd_get, dctV_dct, dctV_loc, dctO_dct, Option.isSome_some, wd_clr, clrO_dct, w_pr2, ↓ws_swp, ↓we_lcD, w_isDct, ↓ws_forD, ↓we_zip3, W_newL0, W_newL1, W_newT,      wm_append, appO_lst, wm_extend, extO_lst, recv_loc, recvO_lst, ws_set, setO_lst, setO_dct, lstX_lst, lstX_loc, seqV_loc, lstV_loc, lstV_lst, lstV_scr, wi_str, ↓wdct_nil, ↓wdct_cons, W_newD0, W_newD1, keyOf_str, keyOf_int, dput_nil, ↓we_isi, ↓we_lrg, w_lrg, w_rng3N, w_rng32, ↓we_lset, ↓we_isB, w_isB, w_lsetT, w_lsetL, ↓we_orv, w_orI, w_orN, w_orB, w_only, wb_sum, wb_min, wb_max, wb_sorted, wb_dict, wm_index, w_augA, w_augS, ty_non_int, ty_non_str, ty_non_bool, ty_non_tuple, ty_non_list, ty_non_dict, ty_bl_int, ty_bl_str, ty_bl_bool, ty_bl_tuple, ty_bl_list, ty_bl_dict, ty_int_int, ty_int_str, ty_int_bool, ty_int_tuple, ty_int_list, ty_int_dict, ty_str_int, ty_str_str, ty_str_bool, ty_str_tuple, ty_str_list, ty_str_dict, ty_tup_int, ty_tup_str, ty_tup_bool, ty_tup_tuple, ty_tup_list, ty_tup_dict, ty_lst_int, ty_lst_str, ty_lst_bool, ty_lst_tuple, ty_lst_list, ty_lst_dict, ty_dct_int, ty_dct_str, ty_dct_bool, ty_dct_tuple, ty_dct_list, ty_dct_dict, ty_scr_int, ty_scr_str, ty_scr_bool, ty_scr_tuple, ty_scr_list, ty_scr_dict, ↓we_sm0, ↓we_sm1, ↓we_rev, wsm_upper, wsm_join, wsm_split, wsm_part, wrev_lst, wrev_tup, wrev_loc, seqV_tup, seqV_lst1, seqV_scr1, wsl_tup, wsl_str, wsl_lst, wsl_scr, wsl_loc, popO_0, wm_popAt, wq_tup, wq_lst, wq_scr, wq_str, wq_loc,      isNon_non, isNon_bl, isNon_int, isNon_str, isNon_tup, isNon_lst, isNon_dct,      asgt_name, asg_tup, asg_nil, asg_cons, setEach, some_bind, wipe_nil, wipe_cons, if_t, ite_true, ite_false, Bool.not_true, Bool.not_false, Bool.false_eq_true,      List.append_assoc, List.length_append, List.length_map, List.map_cons, List.map_nil, List.cons_append, List.nil_append, List.replicate_succ, List.replicate_zero, Nat.reduceSub, Nat.reduceAdd, Nat.reduceLT, Nat.reduceLeDiff, Nat.reduceEqDiff, List.length_cons, List.length_nil, List.getElem?_cons_zero, List.getElem?_cons_succ, List.set_cons_zero, List.set_cons_succ, $ts,*])
end DV

end
section
set_option Elab.async false
set_option linter.all false
set_option maxRecDepth 100000
set_option autoImplicit false
set_option maxHeartbeats 2000000
namespace DV
open PySem (Str)
local macro_rules
  | `(tactic| simp_arith) => `(tactic| simp_arith [])
  | `(tactic| simp_arith [$ts,*]) => `(tactic| simp only [↓W_run, ↓ws_nil, ↓W_way, ↓ws_cons, ↓ws_asg, ↓ws_par, ↓ws_seti, ↓ws_aug, ↓ws_augi, ↓ws_expr, ↓ws_ret, ↓ws_retN, ↓ws_pass, ↓ws_brk, ↓ws_cont, ↓ws_if, ↓ws_while, ↓ws_for, ↓ws_turn,      ow_next, ow_ret, ow_brk, ow_cont, end_ret, end_next,      ↓we_var, ↓we_int, ↓we_bl, ↓we_str, ↓we_non, ↓we_con, ↓we_bin, ↓we_neg, ↓we_cmp, ↓we_cmp2, ↓we_isN, ↓we_notN, ↓we_not, ↓we_ife, ↓we_and, ↓we_or, ↓we_and1, ↓we_or1, ↓we_and2, ↓we_or2, ↓we_tup, ↓we_lst, ↓we_lstN, ↓we_dct,      ↓we_idx, ↓we_slc, ↓we_call, ↓we_bi, ↓we_mt, ↓we_nil, ↓we_cons, ↓we_oN, ↓we_oS, ↓we_cN, ↓we_cS, ↓we_lc, ↓we_turn, ↓we_seq, ↓we_rng1, ↓we_rng2, ↓we_rng3, ↓we_enum, ↓we_zip, ↓we_test,      Int.reduceLE, Int.reduceLT, Int.reduceAbs, log_lit, Nat.reducePow, Int.reduceToNat, Int.reducePow, Int.reduceAdd, Int.reduceSub, Int.reduceMul, Int.reduceNeg, Int.reduceEq, decide_true, decide_false, small62_iff, small61_iff, sizeMax_val, and_true, true_and, and_self, W_ok, WO_some, Way_t, Way_f, Way_not, Sd_t, isBool_bl, isInt_int,      wo_add, wo_sub, wo_mul, wo_fdiv, wo_mod, wo_pow, wo_addS, wo_addT, wo_addL, wo_addLo, wo_addLl, wo_mulS, wo_mulL, wo_mulT, wo_neg, wc_eqI, wc_neI, wc_ltI, wc_gtI, wc_leI, wc_geI, wc_eqS, wc_neS, wc_in, wc_notin,      wi_S, wi_tup, wi_lst, wi_scr, wi_loc, wi_lo, wi_do, at_0, at_1, at_2, at_3, at_4, at_5, at_if, int_ite,      wb_lenS, wb_lenT, wb_lenL, wb_lenScr, wb_lenLo, lenO_lst, lenO_dct, wb_abs, wb_intI, wb_intB, wb_bool, wb_strS, wb_strI, wb_min2, wb_max2, wb_tupT, wb_tupL, wb_tupLo, wb_list, w_listS, w_listT, w_listL, w_listScr, w_listD, w_dictD, ↓we_litems, w_litems, ↓we_isx, ↓we_fld, ↓we_dpop, ↓we_dget, ↓we_dclr, ↓we_tix, isDc_loc, dcO_dct, wd_pop, popX_dct, w_popV, wd_get, dctV_dct, dctV_loc, dctO_dct, Option.isSome_some, wd_clr, clrO_dct, w_pr2, ↓ws_swp, ↓we_lcD, w_isDct, ↓ws_forD, ↓we_zip3, W_newL0, W_newL1, W_newT,      wm_append, appO_lst, wm_extend, extO_lst, recv_loc, recvO_lst, ws_set, setO_lst, setO_dct, lstX_lst, lstX_loc, seqV_loc, lstV_loc, lstV_lst, lstV_scr, wi_str, ↓wdct_nil, ↓wdct_cons, W_newD0, W_newD1, keyOf_str, keyOf_int, dput_nil, ↓we_isi, ↓we_lrg, w_lrg, w_rng3N, w_rng32, ↓we_lset, ↓we_isB, w_isB, w_lsetT, w_lsetL, ↓we_orv, w_orI, w_orN, w_orB, w_only, wb_sum, wb_min, wb_max, wb_sorted, wb_dict, wm_index, w_augA, w_augS, ty_non_int, ty_non_str, ty_non_bool, ty_non_tuple, ty_non_list, ty_non_dict, ty_bl_int, ty_bl_str, ty_bl_bool, ty_bl_tuple, ty_bl_list, ty_bl_dict, ty_int_int, ty_int_str, ty_int_bool, ty_int_tuple, ty_int_list, ty_int_dict, ty_str_int, ty_str_str, ty_str_bool, ty_str_tuple, ty_str_list, ty_str_dict, ty_tup_int, ty_tup_str, ty_tup_bool, ty_tup_tuple, ty_tup_list, ty_tup_dict, ty_lst_int, ty_lst_str, ty_lst_bool, ty_lst_tuple, ty_lst_list, ty_lst_dict, ty_dct_int, ty_dct_str, ty_dct_bool, ty_dct_tuple, ty_dct_list, ty_dct_dict, ty_scr_int, ty_scr_str, ty_scr_bool, ty_scr_tuple, ty_scr_list, ty_scr_dict, ↓we_sm0, ↓we_sm1, ↓we_rev, wsm_upper, wsm_join, wsm_split, wsm_part, wrev_lst, wrev_tup, wrev_loc, seqV_tup, seqV_lst1, seqV_scr1, wsl_tup, wsl_str, wsl_lst, wsl_scr, wsl_loc, popO_0, wm_popAt, wq_tup, wq_lst, wq_scr, wq_str, wq_loc,      isNon_non, isNon_bl, isNon_int, isNon_str, isNon_tup, isNon_lst, isNon_dct,      asgt_name, asg_tup, asg_nil, asg_cons, setEach, some_bind, wipe_nil, wipe_cons, if_t, ite_true, ite_false, Bool.not_true, Bool.not_false, Bool.false_eq_true,      List.append_assoc, List.length_append, List.length_map, List.map_cons, List.map_nil, List.cons_append, List.nil_append, List.replicate_succ, List.replicate_zero, Nat.reduceSub, Nat.reduceAdd, Nat.reduceLT, Nat.reduceLeDiff, Nat.reduceEqDiff, List.length_cons, List.length_nil, List.getElem?_cons_zero, List.getElem?_cons_succ, List.set_cons_zero, List.set_cons_succ, $ts,*])
end DV

end
section
set_option Elab.async false
set_option linter.all false
set_option maxRecDepth 100000
set_option autoImplicit false
set_option maxHeartbeats 2000000
namespace DV
open PySem (Str)
local macro_rules
  | `(tactic| simp_arith) => `(tactic| simp_arith [])
  | `(tactic| simp_arith [$ts,*]) => `(tactic| simp only [↓W_run, ↓ws_nil, ↓W_way, ↓ws_cons, ↓ws_asg, ↓ws_par, ↓ws_seti, ↓ws_aug, ↓ws_augi, ↓ws_expr, ↓ws_ret, ↓ws_retN, ↓ws_pass, ↓ws_brk, ↓ws_cont, ↓ws_if, ↓ws_while, ↓ws_for, ↓ws_turn,      ow_next, ow_ret, ow_brk, ow_cont, end_ret, end_next,      ↓we_var, ↓we_int, ↓we_bl, ↓we_str, ↓we_non, ↓we_con, ↓we_bin, ↓we_neg, ↓we_cmp, ↓we_cmp2, ↓we_isN, ↓we_notN, ↓we_not, ↓we_ife, ↓we_and, ↓we_or, ↓we_and1, ↓we_or1, ↓we_and2, ↓we_or2, ↓we_tup, ↓we_lst, ↓we_lstN, ↓we_dct,      ↓we_idx, ↓we_slc, ↓we_call, ↓we_bi, ↓we_mt, ↓we_nil, ↓we_cons, ↓we_oN, ↓we_oS, ↓we_cN, ↓we_cS, ↓we_lc, ↓we_turn, ↓we_seq, ↓we_rng1, ↓we_rng2, ↓we_rng3, ↓we_enum, ↓we_zip, ↓we_test,      Int.reduceLE, Int.reduceLT, Int.reduceAbs, log_lit, Nat.reducePow, Int.reduceToNat, Int.reducePow, Int.reduceAdd, Int.reduceSub, Int.reduceMul, Int.reduceNeg, Int.reduceEq, decide_true, decide_false, small62_iff, small61_iff, sizeMax_val, and_true, true_and, and_self, W_ok, WO_some, Way_t, Way_f, Way_not, Sd_t, isBool_bl, isInt_int,      wo_add, wo_sub, wo_mul, wo_fdiv, wo_mod, wo_pow, wo_addS, wo_addT, wo_addL, wo_addLo, wo_addLl, wo_mulS, wo_mulL, wo_mulT, wo_neg, wc_eqI, wc_neI, wc_ltI, wc_gtI, wc_leI, wc_geI, wc_eqS, wc_neS, wc_in, wc_notin,      wi_S, wi_tup, wi_lst, wi_scr, wi_loc, wi_lo, wi_do, at_0, at_1, at_2, at_3, at_4, at_5, at_if, int_ite,      wb_lenS, wb_lenT, wb_lenL, wb_lenScr, wb_lenLo, lenO_lst, lenO_dct, wb_abs, wb_intI, wb_intB, wb_bool, wb_strS, wb_strI, wb_min2, wb_max2, wb_tupT, wb_tupL, wb_tupLo, wb_list, w_listS, w_listT, w_listL, w_listScr, w_listD, w_dictD, ↓we_litems, w_litems, ↓we_isx, ↓we_fld, ↓we_dpop, ↓we_dget, ↓we_dclr, ↓we_tix, isDc_loc, dcO_dct, wd_pop, popX_dct, w_popV, wd_get, dctV_dct, dctV_loc, dctO_dct, Option.isSome_some, wd_clr, clrO_dct, w_pr2, ↓ws_swp, ↓we_lcD, w_isDct, ↓ws_forD, ↓we_zip3, W_newL0, W_newL1, W_newT,      wm_append, appO_lst, wm_extend, extO_lst, recv_loc, recvO_lst, ws_set, setO_lst, setO_dct, lstX_lst, lstX_loc, seqV_loc, lstV_loc, lstV_lst, lstV_scr, wi_str, ↓wdct_nil, ↓wdct_cons, W_newD0, W_newD1, keyOf_str, keyOf_int, dput_nil, ↓we_isi, ↓we_lrg, w_lrg, w_rng3N, w_rng32, ↓we_lset, ↓we_isB, w_isB, w_lsetT, w_lsetL, ↓we_orv, w_orI, w_orN, w_orB, w_only, wb_sum, wb_min, wb_max, wb_sorted, wb_dict, wm_index, w_augA, w_augS, ty_non_int, ty_non_str, ty_non_bool, ty_non_tuple, ty_non_list, ty_non_dict, ty_bl_int, ty_bl_str, ty_bl_bool, ty_bl_tuple, ty_bl_list, ty_bl_dict, ty_int_int, ty_int_str, ty_int_bool, ty_int_tuple, ty_int_list, ty_int_dict, ty_str_int, ty_str_str, ty_str_bool, ty_str_tuple, ty_str_list, ty_str_dict, ty_tup_int, ty_tup_str, ty_tup_bool, ty_tup_tuple, ty_tup_list, ty_tup_dict, ty_lst_int, ty_lst_str, ty_lst_bool, ty_lst_tuple, ty_lst_list, ty_lst_dict, ty_dct_int, ty_dct_str, ty_dct_bool, ty_dct_tuple, ty_dct_list, ty_dct_dict, ty_scr_int, ty_scr_str, ty_scr_bool, ty_scr_tuple, ty_scr_list, ty_scr_dict, ↓we_sm0, ↓we_sm1, ↓we_rev, wsm_upper, wsm_join, wsm_split, wsm_part, wrev_lst, wrev_tup, wrev_loc, seqV_tup, seqV_lst1, seqV_scr1, wsl_tup, wsl_str, wsl_lst, wsl_scr, wsl_loc, popO_0, wm_popAt, wq_tup, wq_lst, wq_scr, wq_str, wq_loc,      isNon_non, isNon_bl, isNon_int, isNon_str, isNon_tup, isNon_lst, isNon_dct,      asgt_name, asg_tup, asg_nil, asg_cons, setEach, some_bind, wipe_nil, wipe_cons, if_t, ite_true, ite_false, Bool.not_true, Bool.not_false, Bool.false_eq_true,      List.append_assoc, List.length_append, List.length_map, List.map_cons, List.map_nil, List.cons_append, List.nil_append, List.replicate_succ, List.replicate_zero, Nat.reduceSub, Nat.reduceAdd, Nat.reduceLT, Nat.reduceLeDiff, Nat.reduceEqDiff, List.length_cons, List.length_nil, List.getElem?_cons_zero, List.getElem?_cons_succ, List.set_cons_zero, List.set_cons_succ, $ts,*])
end DV

end
section
set_option Elab.async false
set_option linter.all false
set_option maxRecDepth 100000
set_option autoImplicit false
set_option maxHeartbeats 2000000
/-! The program's defs: outcomes, dues, standings, claims. -/
namespace DV
open PySem (Str)
local macro_rules
  | `(tactic| simp_arith) => `(tactic| simp_arith [])
  | `(tactic| simp_arith [$ts,*]) => `(tactic| simp only [↓W_run, ↓ws_nil, ↓W_way, ↓ws_cons, ↓ws_asg, ↓ws_par, ↓ws_seti, ↓ws_aug, ↓ws_augi, ↓ws_expr, ↓ws_ret, ↓ws_retN, ↓ws_pass, ↓ws_brk, ↓ws_cont, ↓ws_if, ↓ws_while, ↓ws_for, ↓ws_turn,      ow_next, ow_ret, ow_brk, ow_cont, end_ret, end_next,      ↓we_var, ↓we_int, ↓we_bl, ↓we_str, ↓we_non, ↓we_con, ↓we_bin, ↓we_neg, ↓we_cmp, ↓we_cmp2, ↓we_isN, ↓we_notN, ↓we_not, ↓we_ife, ↓we_and, ↓we_or, ↓we_and1, ↓we_or1, ↓we_and2, ↓we_or2, ↓we_tup, ↓we_lst, ↓we_lstN, ↓we_dct,      ↓we_idx, ↓we_slc, ↓we_call, ↓we_bi, ↓we_mt, ↓we_nil, ↓we_cons, ↓we_oN, ↓we_oS, ↓we_cN, ↓we_cS, ↓we_lc, ↓we_turn, ↓we_seq, ↓we_rng1, ↓we_rng2, ↓we_rng3, ↓we_enum, ↓we_zip, ↓we_test,      Int.reduceLE, Int.reduceLT, Int.reduceAbs, log_lit, Nat.reducePow, Int.reduceToNat, Int.reducePow, Int.reduceAdd, Int.reduceSub, Int.reduceMul, Int.reduceNeg, Int.reduceEq, decide_true, decide_false, small62_iff, small61_iff, sizeMax_val, and_true, true_and, and_self, W_ok, WO_some, Way_t, Way_f, Way_not, Sd_t, isBool_bl, isInt_int,      wo_add, wo_sub, wo_mul, wo_fdiv, wo_mod, wo_pow, wo_addS, wo_addT, wo_addL, wo_addLo, wo_addLl, wo_mulS, wo_mulL, wo_mulT, wo_neg, wc_eqI, wc_neI, wc_ltI, wc_gtI, wc_leI, wc_geI, wc_eqS, wc_neS, wc_in, wc_notin,      wi_S, wi_tup, wi_lst, wi_scr, wi_loc, wi_lo, wi_do, at_0, at_1, at_2, at_3, at_4, at_5, at_if, int_ite,      wb_lenS, wb_lenT, wb_lenL, wb_lenScr, wb_lenLo, lenO_lst, lenO_dct, wb_abs, wb_intI, wb_intB, wb_bool, wb_strS, wb_strI, wb_min2, wb_max2, wb_tupT, wb_tupL, wb_tupLo, wb_list, w_listS, w_listT, w_listL, w_listScr, w_listD, w_dictD, ↓we_litems, w_litems, ↓we_isx, ↓we_fld, ↓we_dpop, ↓we_dget, ↓we_dclr, ↓we_tix, isDc_loc, dcO_dct, wd_pop, popX_dct, w_popV, wd_get, dctV_dct, dctV_loc, dctO_dct, Option.isSome_some, wd_clr, clrO_dct, w_pr2, ↓ws_swp, ↓we_lcD, w_isDct, ↓ws_forD, ↓we_zip3, W_newL0, W_newL1, W_newT,      wm_append, appO_lst, wm_extend, extO_lst, recv_loc, recvO_lst, ws_set, setO_lst, setO_dct, lstX_lst, lstX_loc, seqV_loc, lstV_loc, lstV_lst, lstV_scr, wi_str, ↓wdct_nil, ↓wdct_cons, W_newD0, W_newD1, keyOf_str, keyOf_int, dput_nil, ↓we_isi, ↓we_lrg, w_lrg, w_rng3N, w_rng32, ↓we_lset, ↓we_isB, w_isB, w_lsetT, w_lsetL, ↓we_orv, w_orI, w_orN, w_orB, w_only, wb_sum, wb_min, wb_max, wb_sorted, wb_dict, wm_index, w_augA, w_augS, ty_non_int, ty_non_str, ty_non_bool, ty_non_tuple, ty_non_list, ty_non_dict, ty_bl_int, ty_bl_str, ty_bl_bool, ty_bl_tuple, ty_bl_list, ty_bl_dict, ty_int_int, ty_int_str, ty_int_bool, ty_int_tuple, ty_int_list, ty_int_dict, ty_str_int, ty_str_str, ty_str_bool, ty_str_tuple, ty_str_list, ty_str_dict, ty_tup_int, ty_tup_str, ty_tup_bool, ty_tup_tuple, ty_tup_list, ty_tup_dict, ty_lst_int, ty_lst_str, ty_lst_bool, ty_lst_tuple, ty_lst_list, ty_lst_dict, ty_dct_int, ty_dct_str, ty_dct_bool, ty_dct_tuple, ty_dct_list, ty_dct_dict, ty_scr_int, ty_scr_str, ty_scr_bool, ty_scr_tuple, ty_scr_list, ty_scr_dict, ↓we_sm0, ↓we_sm1, ↓we_rev, wsm_upper, wsm_join, wsm_split, wsm_part, wrev_lst, wrev_tup, wrev_loc, seqV_tup, seqV_lst1, seqV_scr1, wsl_tup, wsl_str, wsl_lst, wsl_scr, wsl_loc, popO_0, wm_popAt, wq_tup, wq_lst, wq_scr, wq_str, wq_loc,      isNon_non, isNon_bl, isNon_int, isNon_str, isNon_tup, isNon_lst, isNon_dct,      asgt_name, asg_tup, asg_nil, asg_cons, setEach, some_bind, wipe_nil, wipe_cons, if_t, ite_true, ite_false, Bool.not_true, Bool.not_false, Bool.false_eq_true,      List.append_assoc, List.length_append, List.length_map, List.map_cons, List.map_nil, List.cons_append, List.nil_append, List.replicate_succ, List.replicate_zero, Nat.reduceSub, Nat.reduceAdd, Nat.reduceLT, Nat.reduceLeDiff, Nat.reduceEqDiff, List.length_cons, List.length_nil, List.getElem?_cons_zero, List.getElem?_cons_succ, List.set_cons_zero, List.set_cons_succ, $ts,*])
abbrev Fun := List D → Store → RD
/-! ### dues -/
structure Due where
  at_ : Nat
  after : Str
  word : Str
def Due.enc (d : Due) : D := .tup [.int d.at_, .str d.after, .str d.word]
end DV

end
section
set_option Elab.async false
set_option linter.all false
set_option maxRecDepth 100000
set_option autoImplicit false
set_option maxHeartbeats 2000000
namespace DV
open PySem (Str)
local macro_rules
  | `(tactic| simp_arith) => `(tactic| simp_arith [])
  | `(tactic| simp_arith [$ts,*]) => `(tactic| simp only [↓W_run, ↓ws_nil, ↓W_way, ↓ws_cons, ↓ws_asg, ↓ws_par, ↓ws_seti, ↓ws_aug, ↓ws_augi, ↓ws_expr, ↓ws_ret, ↓ws_retN, ↓ws_pass, ↓ws_brk, ↓ws_cont, ↓ws_if, ↓ws_while, ↓ws_for, ↓ws_turn,      ow_next, ow_ret, ow_brk, ow_cont, end_ret, end_next,      ↓we_var, ↓we_int, ↓we_bl, ↓we_str, ↓we_non, ↓we_con, ↓we_bin, ↓we_neg, ↓we_cmp, ↓we_cmp2, ↓we_isN, ↓we_notN, ↓we_not, ↓we_ife, ↓we_and, ↓we_or, ↓we_and1, ↓we_or1, ↓we_and2, ↓we_or2, ↓we_tup, ↓we_lst, ↓we_lstN, ↓we_dct,      ↓we_idx, ↓we_slc, ↓we_call, ↓we_bi, ↓we_mt, ↓we_nil, ↓we_cons, ↓we_oN, ↓we_oS, ↓we_cN, ↓we_cS, ↓we_lc, ↓we_turn, ↓we_seq, ↓we_rng1, ↓we_rng2, ↓we_rng3, ↓we_enum, ↓we_zip, ↓we_test,      Int.reduceLE, Int.reduceLT, Int.reduceAbs, log_lit, Nat.reducePow, Int.reduceToNat, Int.reducePow, Int.reduceAdd, Int.reduceSub, Int.reduceMul, Int.reduceNeg, Int.reduceEq, decide_true, decide_false, small62_iff, small61_iff, sizeMax_val, and_true, true_and, and_self, W_ok, WO_some, Way_t, Way_f, Way_not, Sd_t, isBool_bl, isInt_int,      wo_add, wo_sub, wo_mul, wo_fdiv, wo_mod, wo_pow, wo_addS, wo_addT, wo_addL, wo_addLo, wo_addLl, wo_mulS, wo_mulL, wo_mulT, wo_neg, wc_eqI, wc_neI, wc_ltI, wc_gtI, wc_leI, wc_geI, wc_eqS, wc_neS, wc_in, wc_notin,      wi_S, wi_tup, wi_lst, wi_scr, wi_loc, wi_lo, wi_do, at_0, at_1, at_2, at_3, at_4, at_5, at_if, int_ite,      wb_lenS, wb_lenT, wb_lenL, wb_lenScr, wb_lenLo, lenO_lst, lenO_dct, wb_abs, wb_intI, wb_intB, wb_bool, wb_strS, wb_strI, wb_min2, wb_max2, wb_tupT, wb_tupL, wb_tupLo, wb_list, w_listS, w_listT, w_listL, w_listScr, w_listD, w_dictD, ↓we_litems, w_litems, ↓we_isx, ↓we_fld, ↓we_dpop, ↓we_dget, ↓we_dclr, ↓we_tix, isDc_loc, dcO_dct, wd_pop, popX_dct, w_popV, wd_get, dctV_dct, dctV_loc, dctO_dct, Option.isSome_some, wd_clr, clrO_dct, w_pr2, ↓ws_swp, ↓we_lcD, w_isDct, ↓ws_forD, ↓we_zip3, W_newL0, W_newL1, W_newT,      wm_append, appO_lst, wm_extend, extO_lst, recv_loc, recvO_lst, ws_set, setO_lst, setO_dct, lstX_lst, lstX_loc, seqV_loc, lstV_loc, lstV_lst, lstV_scr, wi_str, ↓wdct_nil, ↓wdct_cons, W_newD0, W_newD1, keyOf_str, keyOf_int, dput_nil, ↓we_isi, ↓we_lrg, w_lrg, w_rng3N, w_rng32, ↓we_lset, ↓we_isB, w_isB, w_lsetT, w_lsetL, ↓we_orv, w_orI, w_orN, w_orB, w_only, wb_sum, wb_min, wb_max, wb_sorted, wb_dict, wm_index, w_augA, w_augS, ty_non_int, ty_non_str, ty_non_bool, ty_non_tuple, ty_non_list, ty_non_dict, ty_bl_int, ty_bl_str, ty_bl_bool, ty_bl_tuple, ty_bl_list, ty_bl_dict, ty_int_int, ty_int_str, ty_int_bool, ty_int_tuple, ty_int_list, ty_int_dict, ty_str_int, ty_str_str, ty_str_bool, ty_str_tuple, ty_str_list, ty_str_dict, ty_tup_int, ty_tup_str, ty_tup_bool, ty_tup_tuple, ty_tup_list, ty_tup_dict, ty_lst_int, ty_lst_str, ty_lst_bool, ty_lst_tuple, ty_lst_list, ty_lst_dict, ty_dct_int, ty_dct_str, ty_dct_bool, ty_dct_tuple, ty_dct_list, ty_dct_dict, ty_scr_int, ty_scr_str, ty_scr_bool, ty_scr_tuple, ty_scr_list, ty_scr_dict, ↓we_sm0, ↓we_sm1, ↓we_rev, wsm_upper, wsm_join, wsm_split, wsm_part, wrev_lst, wrev_tup, wrev_loc, seqV_tup, seqV_lst1, seqV_scr1, wsl_tup, wsl_str, wsl_lst, wsl_scr, wsl_loc, popO_0, wm_popAt, wq_tup, wq_lst, wq_scr, wq_str, wq_loc,      isNon_non, isNon_bl, isNon_int, isNon_str, isNon_tup, isNon_lst, isNon_dct,      asgt_name, asg_tup, asg_nil, asg_cons, setEach, some_bind, wipe_nil, wipe_cons, if_t, ite_true, ite_false, Bool.not_true, Bool.not_false, Bool.false_eq_true,      List.append_assoc, List.length_append, List.length_map, List.map_cons, List.map_nil, List.cons_append, List.nil_append, List.replicate_succ, List.replicate_zero, Nat.reduceSub, Nat.reduceAdd, Nat.reduceLT, Nat.reduceLeDiff, Nat.reduceEqDiff, List.length_cons, List.length_nil, List.getElem?_cons_zero, List.getElem?_cons_succ, List.set_cons_zero, List.set_cons_succ, $ts,*])
abbrev Tab := List (List (Str × Str))
/-- one who stands in a table -/
structure Std where
  name : Str
  state : Str
  bench : Nat
  seat : Nat
def Std.enc (r : Std) : D := .tup [.str r.name, .str r.state, .int r.bench, .int r.seat]
def cells (t : Tab) : List (Nat × Str × Str) := (t.mapIdx fun b r => r.map fun p => (b, p)).flatten
end DV

end
section
set_option Elab.async false
set_option linter.all false
set_option maxRecDepth 100000
set_option autoImplicit false
set_option maxHeartbeats 2000000
namespace DV
open PySem (Str)
local macro_rules
  | `(tactic| simp_arith) => `(tactic| simp_arith [])
  | `(tactic| simp_arith [$ts,*]) => `(tactic| simp only [↓W_run, ↓ws_nil, ↓W_way, ↓ws_cons, ↓ws_asg, ↓ws_par, ↓ws_seti, ↓ws_aug, ↓ws_augi, ↓ws_expr, ↓ws_ret, ↓ws_retN, ↓ws_pass, ↓ws_brk, ↓ws_cont, ↓ws_if, ↓ws_while, ↓ws_for, ↓ws_turn,      ow_next, ow_ret, ow_brk, ow_cont, end_ret, end_next,      ↓we_var, ↓we_int, ↓we_bl, ↓we_str, ↓we_non, ↓we_con, ↓we_bin, ↓we_neg, ↓we_cmp, ↓we_cmp2, ↓we_isN, ↓we_notN, ↓we_not, ↓we_ife, ↓we_and, ↓we_or, ↓we_and1, ↓we_or1, ↓we_and2, ↓we_or2, ↓we_tup, ↓we_lst, ↓we_lstN, ↓we_dct,      ↓we_idx, ↓we_slc, ↓we_call, ↓we_bi, ↓we_mt, ↓we_nil, ↓we_cons, ↓we_oN, ↓we_oS, ↓we_cN, ↓we_cS, ↓we_lc, ↓we_turn, ↓we_seq, ↓we_rng1, ↓we_rng2, ↓we_rng3, ↓we_enum, ↓we_zip, ↓we_test,      Int.reduceLE, Int.reduceLT, Int.reduceAbs, log_lit, Nat.reducePow, Int.reduceToNat, Int.reducePow, Int.reduceAdd, Int.reduceSub, Int.reduceMul, Int.reduceNeg, Int.reduceEq, decide_true, decide_false, small62_iff, small61_iff, sizeMax_val, and_true, true_and, and_self, W_ok, WO_some, Way_t, Way_f, Way_not, Sd_t, isBool_bl, isInt_int,      wo_add, wo_sub, wo_mul, wo_fdiv, wo_mod, wo_pow, wo_addS, wo_addT, wo_addL, wo_addLo, wo_addLl, wo_mulS, wo_mulL, wo_mulT, wo_neg, wc_eqI, wc_neI, wc_ltI, wc_gtI, wc_leI, wc_geI, wc_eqS, wc_neS, wc_in, wc_notin,      wi_S, wi_tup, wi_lst, wi_scr, wi_loc, wi_lo, wi_do, at_0, at_1, at_2, at_3, at_4, at_5, at_if, int_ite,      wb_lenS, wb_lenT, wb_lenL, wb_lenScr, wb_lenLo, lenO_lst, lenO_dct, wb_abs, wb_intI, wb_intB, wb_bool, wb_strS, wb_strI, wb_min2, wb_max2, wb_tupT, wb_tupL, wb_tupLo, wb_list, w_listS, w_listT, w_listL, w_listScr, w_listD, w_dictD, ↓we_litems, w_litems, ↓we_isx, ↓we_fld, ↓we_dpop, ↓we_dget, ↓we_dclr, ↓we_tix, isDc_loc, dcO_dct, wd_pop, popX_dct, w_popV, wd_get, dctV_dct, dctV_loc, dctO_dct, Option.isSome_some, wd_clr, clrO_dct, w_pr2, ↓ws_swp, ↓we_lcD, w_isDct, ↓ws_forD, ↓we_zip3, W_newL0, W_newL1, W_newT,      wm_append, appO_lst, wm_extend, extO_lst, recv_loc, recvO_lst, ws_set, setO_lst, setO_dct, lstX_lst, lstX_loc, seqV_loc, lstV_loc, lstV_lst, lstV_scr, wi_str, ↓wdct_nil, ↓wdct_cons, W_newD0, W_newD1, keyOf_str, keyOf_int, dput_nil, ↓we_isi, ↓we_lrg, w_lrg, w_rng3N, w_rng32, ↓we_lset, ↓we_isB, w_isB, w_lsetT, w_lsetL, ↓we_orv, w_orI, w_orN, w_orB, w_only, wb_sum, wb_min, wb_max, wb_sorted, wb_dict, wm_index, w_augA, w_augS, ty_non_int, ty_non_str, ty_non_bool, ty_non_tuple, ty_non_list, ty_non_dict, ty_bl_int, ty_bl_str, ty_bl_bool, ty_bl_tuple, ty_bl_list, ty_bl_dict, ty_int_int, ty_int_str, ty_int_bool, ty_int_tuple, ty_int_list, ty_int_dict, ty_str_int, ty_str_str, ty_str_bool, ty_str_tuple, ty_str_list, ty_str_dict, ty_tup_int, ty_tup_str, ty_tup_bool, ty_tup_tuple, ty_tup_list, ty_tup_dict, ty_lst_int, ty_lst_str, ty_lst_bool, ty_lst_tuple, ty_lst_list, ty_lst_dict, ty_dct_int, ty_dct_str, ty_dct_bool, ty_dct_tuple, ty_dct_list, ty_dct_dict, ty_scr_int, ty_scr_str, ty_scr_bool, ty_scr_tuple, ty_scr_list, ty_scr_dict, ↓we_sm0, ↓we_sm1, ↓we_rev, wsm_upper, wsm_join, wsm_split, wsm_part, wrev_lst, wrev_tup, wrev_loc, seqV_tup, seqV_lst1, seqV_scr1, wsl_tup, wsl_str, wsl_lst, wsl_scr, wsl_loc, popO_0, wm_popAt, wq_tup, wq_lst, wq_scr, wq_str, wq_loc,      isNon_non, isNon_bl, isNon_int, isNon_str, isNon_tup, isNon_lst, isNon_dct,      asgt_name, asg_tup, asg_nil, asg_cons, setEach, some_bind, wipe_nil, wipe_cons, if_t, ite_true, ite_false, Bool.not_true, Bool.not_false, Bool.false_eq_true,      List.append_assoc, List.length_append, List.length_map, List.map_cons, List.map_nil, List.cons_append, List.nil_append, List.replicate_succ, List.replicate_zero, Nat.reduceSub, Nat.reduceAdd, Nat.reduceLT, Nat.reduceLeDiff, Nat.reduceEqDiff, List.length_cons, List.length_nil, List.getElem?_cons_zero, List.getElem?_cons_succ, List.set_cons_zero, List.set_cons_succ, $ts,*])
structure Clm where
  right : Int
  lack : Int
  seat : Nat
  name : Str
  due : Due
def Clm.enc (c : Clm) : D := .tup [.tup [.int c.right, .int c.lack, .int c.seat], .str c.name, .int c.due.at_, .str c.due.after, .str c.due.word]
/-! ### what is told of a name -/
def look (kvs : List (Str × Option Int)) (n : Str) : Option (Option Int) := (kvs.find? fun p => decide (p.1 = n)).map (·.2)
end DV

end
section
set_option Elab.async false
set_option linter.all false
set_option maxRecDepth 100000
set_option autoImplicit false
set_option maxHeartbeats 2000000
namespace DV
open PySem (Str)
local macro_rules
  | `(tactic| simp_arith) => `(tactic| simp_arith [])
  | `(tactic| simp_arith [$ts,*]) => `(tactic| simp only [↓W_run, ↓ws_nil, ↓W_way, ↓ws_cons, ↓ws_asg, ↓ws_par, ↓ws_seti, ↓ws_aug, ↓ws_augi, ↓ws_expr, ↓ws_ret, ↓ws_retN, ↓ws_pass, ↓ws_brk, ↓ws_cont, ↓ws_if, ↓ws_while, ↓ws_for, ↓ws_turn,      ow_next, ow_ret, ow_brk, ow_cont, end_ret, end_next,      ↓we_var, ↓we_int, ↓we_bl, ↓we_str, ↓we_non, ↓we_con, ↓we_bin, ↓we_neg, ↓we_cmp, ↓we_cmp2, ↓we_isN, ↓we_notN, ↓we_not, ↓we_ife, ↓we_and, ↓we_or, ↓we_and1, ↓we_or1, ↓we_and2, ↓we_or2, ↓we_tup, ↓we_lst, ↓we_lstN, ↓we_dct,      ↓we_idx, ↓we_slc, ↓we_call, ↓we_bi, ↓we_mt, ↓we_nil, ↓we_cons, ↓we_oN, ↓we_oS, ↓we_cN, ↓we_cS, ↓we_lc, ↓we_turn, ↓we_seq, ↓we_rng1, ↓we_rng2, ↓we_rng3, ↓we_enum, ↓we_zip, ↓we_test,      Int.reduceLE, Int.reduceLT, Int.reduceAbs, log_lit, Nat.reducePow, Int.reduceToNat, Int.reducePow, Int.reduceAdd, Int.reduceSub, Int.reduceMul, Int.reduceNeg, Int.reduceEq, decide_true, decide_false, small62_iff, small61_iff, sizeMax_val, and_true, true_and, and_self, W_ok, WO_some, Way_t, Way_f, Way_not, Sd_t, isBool_bl, isInt_int,      wo_add, wo_sub, wo_mul, wo_fdiv, wo_mod, wo_pow, wo_addS, wo_addT, wo_addL, wo_addLo, wo_addLl, wo_mulS, wo_mulL, wo_mulT, wo_neg, wc_eqI, wc_neI, wc_ltI, wc_gtI, wc_leI, wc_geI, wc_eqS, wc_neS, wc_in, wc_notin,      wi_S, wi_tup, wi_lst, wi_scr, wi_loc, wi_lo, wi_do, at_0, at_1, at_2, at_3, at_4, at_5, at_if, int_ite,      wb_lenS, wb_lenT, wb_lenL, wb_lenScr, wb_lenLo, lenO_lst, lenO_dct, wb_abs, wb_intI, wb_intB, wb_bool, wb_strS, wb_strI, wb_min2, wb_max2, wb_tupT, wb_tupL, wb_tupLo, wb_list, w_listS, w_listT, w_listL, w_listScr, w_listD, w_dictD, ↓we_litems, w_litems, ↓we_isx, ↓we_fld, ↓we_dpop, ↓we_dget, ↓we_dclr, ↓we_tix, isDc_loc, dcO_dct, wd_pop, popX_dct, w_popV, wd_get, dctV_dct, dctV_loc, dctO_dct, Option.isSome_some, wd_clr, clrO_dct, w_pr2, ↓ws_swp, ↓we_lcD, w_isDct, ↓ws_forD, ↓we_zip3, W_newL0, W_newL1, W_newT,      wm_append, appO_lst, wm_extend, extO_lst, recv_loc, recvO_lst, ws_set, setO_lst, setO_dct, lstX_lst, lstX_loc, seqV_loc, lstV_loc, lstV_lst, lstV_scr, wi_str, ↓wdct_nil, ↓wdct_cons, W_newD0, W_newD1, keyOf_str, keyOf_int, dput_nil, ↓we_isi, ↓we_lrg, w_lrg, w_rng3N, w_rng32, ↓we_lset, ↓we_isB, w_isB, w_lsetT, w_lsetL, ↓we_orv, w_orI, w_orN, w_orB, w_only, wb_sum, wb_min, wb_max, wb_sorted, wb_dict, wm_index, w_augA, w_augS, ty_non_int, ty_non_str, ty_non_bool, ty_non_tuple, ty_non_list, ty_non_dict, ty_bl_int, ty_bl_str, ty_bl_bool, ty_bl_tuple, ty_bl_list, ty_bl_dict, ty_int_int, ty_int_str, ty_int_bool, ty_int_tuple, ty_int_list, ty_int_dict, ty_str_int, ty_str_str, ty_str_bool, ty_str_tuple, ty_str_list, ty_str_dict, ty_tup_int, ty_tup_str, ty_tup_bool, ty_tup_tuple, ty_tup_list, ty_tup_dict, ty_lst_int, ty_lst_str, ty_lst_bool, ty_lst_tuple, ty_lst_list, ty_lst_dict, ty_dct_int, ty_dct_str, ty_dct_bool, ty_dct_tuple, ty_dct_list, ty_dct_dict, ty_scr_int, ty_scr_str, ty_scr_bool, ty_scr_tuple, ty_scr_list, ty_scr_dict, ↓we_sm0, ↓we_sm1, ↓we_rev, wsm_upper, wsm_join, wsm_split, wsm_part, wrev_lst, wrev_tup, wrev_loc, seqV_tup, seqV_lst1, seqV_scr1, wsl_tup, wsl_str, wsl_lst, wsl_scr, wsl_loc, popO_0, wm_popAt, wq_tup, wq_lst, wq_scr, wq_str, wq_loc,      isNon_non, isNon_bl, isNon_int, isNon_str, isNon_tup, isNon_lst, isNon_dct,      asgt_name, asg_tup, asg_nil, asg_cons, setEach, some_bind, wipe_nil, wipe_cons, if_t, ite_true, ite_false, Bool.not_true, Bool.not_false, Bool.false_eq_true,      List.append_assoc, List.length_append, List.length_map, List.map_cons, List.map_nil, List.cons_append, List.nil_append, List.replicate_succ, List.replicate_zero, Nat.reduceSub, Nat.reduceAdd, Nat.reduceLT, Nat.reduceLeDiff, Nat.reduceEqDiff, List.length_cons, List.length_nil, List.getElem?_cons_zero, List.getElem?_cons_succ, List.set_cons_zero, List.set_cons_succ, $ts,*])
/-! ### seats -/
section
variable {τ : Type} {enc : τ → D} {s : Store} {bs : List (List τ)} {k : Nat}
end
end DV

end
section
set_option Elab.async false
set_option linter.all false
set_option maxRecDepth 100000
set_option autoImplicit false
set_option maxHeartbeats 2000000
namespace DV
open PySem (Str)
local macro_rules
  | `(tactic| simp_arith) => `(tactic| simp_arith [])
  | `(tactic| simp_arith [$ts,*]) => `(tactic| simp only [↓W_run, ↓ws_nil, ↓W_way, ↓ws_cons, ↓ws_asg, ↓ws_par, ↓ws_seti, ↓ws_aug, ↓ws_augi, ↓ws_expr, ↓ws_ret, ↓ws_retN, ↓ws_pass, ↓ws_brk, ↓ws_cont, ↓ws_if, ↓ws_while, ↓ws_for, ↓ws_turn,      ow_next, ow_ret, ow_brk, ow_cont, end_ret, end_next,      ↓we_var, ↓we_int, ↓we_bl, ↓we_str, ↓we_non, ↓we_con, ↓we_bin, ↓we_neg, ↓we_cmp, ↓we_cmp2, ↓we_isN, ↓we_notN, ↓we_not, ↓we_ife, ↓we_and, ↓we_or, ↓we_and1, ↓we_or1, ↓we_and2, ↓we_or2, ↓we_tup, ↓we_lst, ↓we_lstN, ↓we_dct,      ↓we_idx, ↓we_slc, ↓we_call, ↓we_bi, ↓we_mt, ↓we_nil, ↓we_cons, ↓we_oN, ↓we_oS, ↓we_cN, ↓we_cS, ↓we_lc, ↓we_turn, ↓we_seq, ↓we_rng1, ↓we_rng2, ↓we_rng3, ↓we_enum, ↓we_zip, ↓we_test,      Int.reduceLE, Int.reduceLT, Int.reduceAbs, log_lit, Nat.reducePow, Int.reduceToNat, Int.reducePow, Int.reduceAdd, Int.reduceSub, Int.reduceMul, Int.reduceNeg, Int.reduceEq, decide_true, decide_false, small62_iff, small61_iff, sizeMax_val, and_true, true_and, and_self, W_ok, WO_some, Way_t, Way_f, Way_not, Sd_t, isBool_bl, isInt_int,      wo_add, wo_sub, wo_mul, wo_fdiv, wo_mod, wo_pow, wo_addS, wo_addT, wo_addL, wo_addLo, wo_addLl, wo_mulS, wo_mulL, wo_mulT, wo_neg, wc_eqI, wc_neI, wc_ltI, wc_gtI, wc_leI, wc_geI, wc_eqS, wc_neS, wc_in, wc_notin,      wi_S, wi_tup, wi_lst, wi_scr, wi_loc, wi_lo, wi_do, at_0, at_1, at_2, at_3, at_4, at_5, at_if, int_ite,      wb_lenS, wb_lenT, wb_lenL, wb_lenScr, wb_lenLo, lenO_lst, lenO_dct, wb_abs, wb_intI, wb_intB, wb_bool, wb_strS, wb_strI, wb_min2, wb_max2, wb_tupT, wb_tupL, wb_tupLo, wb_list, w_listS, w_listT, w_listL, w_listScr, w_listD, w_dictD, ↓we_litems, w_litems, ↓we_isx, ↓we_fld, ↓we_dpop, ↓we_dget, ↓we_dclr, ↓we_tix, isDc_loc, dcO_dct, wd_pop, popX_dct, w_popV, wd_get, dctV_dct, dctV_loc, dctO_dct, Option.isSome_some, wd_clr, clrO_dct, w_pr2, ↓ws_swp, ↓we_lcD, w_isDct, ↓ws_forD, ↓we_zip3, W_newL0, W_newL1, W_newT,      wm_append, appO_lst, wm_extend, extO_lst, recv_loc, recvO_lst, ws_set, setO_lst, setO_dct, lstX_lst, lstX_loc, seqV_loc, lstV_loc, lstV_lst, lstV_scr, wi_str, ↓wdct_nil, ↓wdct_cons, W_newD0, W_newD1, keyOf_str, keyOf_int, dput_nil, ↓we_isi, ↓we_lrg, w_lrg, w_rng3N, w_rng32, ↓we_lset, ↓we_isB, w_isB, w_lsetT, w_lsetL, ↓we_orv, w_orI, w_orN, w_orB, w_only, wb_sum, wb_min, wb_max, wb_sorted, wb_dict, wm_index, w_augA, w_augS, ty_non_int, ty_non_str, ty_non_bool, ty_non_tuple, ty_non_list, ty_non_dict, ty_bl_int, ty_bl_str, ty_bl_bool, ty_bl_tuple, ty_bl_list, ty_bl_dict, ty_int_int, ty_int_str, ty_int_bool, ty_int_tuple, ty_int_list, ty_int_dict, ty_str_int, ty_str_str, ty_str_bool, ty_str_tuple, ty_str_list, ty_str_dict, ty_tup_int, ty_tup_str, ty_tup_bool, ty_tup_tuple, ty_tup_list, ty_tup_dict, ty_lst_int, ty_lst_str, ty_lst_bool, ty_lst_tuple, ty_lst_list, ty_lst_dict, ty_dct_int, ty_dct_str, ty_dct_bool, ty_dct_tuple, ty_dct_list, ty_dct_dict, ty_scr_int, ty_scr_str, ty_scr_bool, ty_scr_tuple, ty_scr_list, ty_scr_dict, ↓we_sm0, ↓we_sm1, ↓we_rev, wsm_upper, wsm_join, wsm_split, wsm_part, wrev_lst, wrev_tup, wrev_loc, seqV_tup, seqV_lst1, seqV_scr1, wsl_tup, wsl_str, wsl_lst, wsl_scr, wsl_loc, popO_0, wm_popAt, wq_tup, wq_lst, wq_scr, wq_str, wq_loc,      isNon_non, isNon_bl, isNon_int, isNon_str, isNon_tup, isNon_lst, isNon_dct,      asgt_name, asg_tup, asg_nil, asg_cons, setEach, some_bind, wipe_nil, wipe_cons, if_t, ite_true, ite_false, Bool.not_true, Bool.not_false, Bool.false_eq_true,      List.append_assoc, List.length_append, List.length_map, List.map_cons, List.map_nil, List.cons_append, List.nil_append, List.replicate_succ, List.replicate_zero, Nat.reduceSub, Nat.reduceAdd, Nat.reduceLT, Nat.reduceLeDiff, Nat.reduceEqDiff, List.length_cons, List.length_nil, List.getElem?_cons_zero, List.getElem?_cons_succ, List.set_cons_zero, List.set_cons_succ, $ts,*])
/-! ### the order by seats -/
end DV

end
section
set_option Elab.async false
set_option linter.all false
set_option maxRecDepth 100000
set_option autoImplicit false
set_option maxHeartbeats 2000000
/-! What can be shown: no lists, dicts perhaps. -/
namespace DV
open PySem (Str PyData)
structure Tn (k w : Nat) (d : D) : Prop where
  mk ::
  nol : d.nol = true
  dep : d.toPy.depth ≤ k
  sh : d.toPy.showable = true
  len : d.toPy.shown.length ≤ w
section
variable {k w k' w' : Nat} {d : D} {xs : List D}
theorem Tn.le (h : Tn k w d) (hk : k ≤ k') (hw : w ≤ w') : Tn k' w' d := ⟨h.nol, Nat.le_trans h.dep hk, h.sh, Nat.le_trans h.len hw⟩
theorem Tn.ok (h : Tn k w d) (hk : k ≤ 40) (hw : w ≤ 16777216) : depthOk d := ⟨.inr h.nol, Nat.le_trans h.dep hk, h.sh, Nat.le_trans h.len hw⟩
theorem Tm.tn (h : Tm k w d) (n : d.nol = true) : Tn k w d := ⟨n, h.dep, h.sh, h.len⟩
theorem nols_of : ∀ {xs : List D}, (∀ x ∈ xs, x.nol = true) → nols xs = true
  | [], _ => rfl
  | x :: xs, h => by
    rw [nols, Bool.and_eq_true]
    exact ⟨h x List.mem_cons_self, nols_of fun y hy => h y (List.mem_cons_of_mem _ hy)⟩
theorem Tn.tup (h : ∀ x ∈ xs, Tn k w x) {n : Nat} (hn : xs.length ≤ n) : Tn (k + 1) (n * (w + 2) + 3) (.tup xs) := by
  obtain ⟨a, b⟩ := shownAll_sum fun x hx => (h x hx).len
  have hm : xs.length * (w + 2) ≤ n * (w + 2) := Nat.mul_le_mul_right _ hn
  refine ⟨by rw [D.nol]; exact nols_of fun x hx => (h x hx).nol, ?_, ?_, ?_⟩
  · simp only [D.toPy, PyData.depth]
    exact Nat.succ_le_succ (depthAll_le fun x hx => (h x hx).dep)
  · simp only [D.toPy, PyData.showable]
    exact showAll_of fun x hx => (h x hx).sh
  · simp only [D.toPy, PyData.shown]
    have := PySem.tupleText_len_le (PyData.shownAll (toPys xs))
    rw [b] at this
    rw [Nat.mul_add xs.length w 2] at hm
    omega
theorem nolK_of : ∀ {xs : List (Key × D)}, (∀ x ∈ xs, x.2.nol = true) → nolK xs = true
  | [], _ => rfl
  | (_, x) :: xs, h => by
    rw [nolK, Bool.and_eq_true]
    exact ⟨h _ List.mem_cons_self, nolK_of fun y hy => h y (List.mem_cons_of_mem _ hy)⟩
/-- a dict whose keys are plain texts -/
theorem dct_parts {L : Nat} : ∀ {kvs : List (Key × D)}, (∀ p ∈ kvs, ∃ x, p.1 = .inr x ∧ Asc x ∧ x.length ≤ L ∧ Tn k w p.2) →
    PyData.depthKv (toPyK kvs) ≤ k ∧ PyData.showableKv (toPyK kvs) = true ∧ ((PyData.shownKv (toPyK kvs)).map (·.length)).sum ≤ kvs.length * (10 * L + 4 + w) ∧ (PyData.shownKv (toPyK kvs)).length = kvs.length
  | [], _ => by simp [toPyK, PyData.depthKv, PyData.showableKv, PyData.shownKv]
  | (key, d) :: kvs, h => by
    obtain ⟨x, ek, ha, hl, ht⟩ := h _ List.mem_cons_self
    simp only at ek ht
    subst ek
    obtain ⟨h1, h2, h3, h4⟩ := dct_parts fun p hp => h p (List.mem_cons_of_mem _ hp)
    have tk := Tm.str ha hl
    have l1 := tk.len
    have l2 := ht.len
    have two : (Str.ofString ": ").length = 2 := rfl
    simp only [D.toPy] at l1
    refine ⟨?_, ?_, ?_, ?_⟩
    · simp only [toPyK, PyData.depthKv, PyData.depth]
      exact Nat.max_le.mpr ⟨Nat.max_le.mpr ⟨Nat.zero_le _, ht.dep⟩, h1⟩
    · simp only [toPyK, PyData.showableKv, PyData.showable, ht.sh, h2, Bool.and_true]
    · simp only [toPyK, PyData.shownKv, List.map_cons, List.sum_cons, List.length_cons, Nat.add_mul, Nat.one_mul, PySem.strLen_append, two]
      omega
    · simp only [toPyK, PyData.shownKv, List.length_cons, h4]
theorem Tn.dct {L n : Nat} {kvs : List (Key × D)} (h : ∀ p ∈ kvs, ∃ x, p.1 = .inr x ∧ Asc x ∧ x.length ≤ L ∧ Tn k w p.2) (hn : kvs.length ≤ n) : Tn (k + 1) (n * (10 * L + 6 + w) + 3) (.dct kvs) := by
  obtain ⟨h1, h2, h3, h4⟩ := dct_parts h
  have hm : kvs.length * (10 * L + 6 + w) ≤ n * (10 * L + 6 + w) := Nat.mul_le_mul_right _ hn
  refine ⟨by rw [D.nol]; exact nolK_of fun p hp => let ⟨_, _, _, _, t⟩ := h p hp; t.nol, ?_, ?_, ?_⟩
  · simp only [D.toPy, PyData.depth]; omega
  · simp only [D.toPy, PyData.showable]; exact h2
  · simp only [D.toPy, PyData.shown]
    have := PySem.dictText_len_le (PyData.shownKv (toPyK kvs))
    rw [h4] at this
    have e : kvs.length * (10 * L + 6 + w) = kvs.length * (10 * L + 4 + w) + kvs.length * 2 := by rw [← Nat.mul_add]; congr 1; omega
    omega
end
/-! ### tables and outcomes shown -/
/-! ### the new table shown -/
end DV

end
section
set_option Elab.async false
set_option linter.all false
set_option maxRecDepth 100000
set_option autoImplicit false
set_option maxHeartbeats 2000000
/-! Papers. -/
namespace DV
open PySem (Str)
local macro_rules
  | `(tactic| simp_arith) => `(tactic| simp_arith [])
  | `(tactic| simp_arith [$ts,*]) => `(tactic| simp only [↓W_run, ↓ws_nil, ↓W_way, ↓ws_cons, ↓ws_asg, ↓ws_par, ↓ws_seti, ↓ws_aug, ↓ws_augi, ↓ws_expr, ↓ws_ret, ↓ws_retN, ↓ws_pass, ↓ws_brk, ↓ws_cont, ↓ws_if, ↓ws_while, ↓ws_for, ↓ws_turn,      ow_next, ow_ret, ow_brk, ow_cont, end_ret, end_next,      ↓we_var, ↓we_int, ↓we_bl, ↓we_str, ↓we_non, ↓we_con, ↓we_bin, ↓we_neg, ↓we_cmp, ↓we_cmp2, ↓we_isN, ↓we_notN, ↓we_not, ↓we_ife, ↓we_and, ↓we_or, ↓we_and1, ↓we_or1, ↓we_and2, ↓we_or2, ↓we_tup, ↓we_lst, ↓we_lstN, ↓we_dct,      ↓we_idx, ↓we_slc, ↓we_call, ↓we_bi, ↓we_mt, ↓we_nil, ↓we_cons, ↓we_oN, ↓we_oS, ↓we_cN, ↓we_cS, ↓we_lc, ↓we_turn, ↓we_seq, ↓we_rng1, ↓we_rng2, ↓we_rng3, ↓we_enum, ↓we_zip, ↓we_test,      Int.reduceLE, Int.reduceLT, Int.reduceAbs, log_lit, Nat.reducePow, Int.reduceToNat, Int.reducePow, Int.reduceAdd, Int.reduceSub, Int.reduceMul, Int.reduceNeg, Int.reduceEq, decide_true, decide_false, small62_iff, small61_iff, sizeMax_val, and_true, true_and, and_self, W_ok, WO_some, Way_t, Way_f, Way_not, Sd_t, isBool_bl, isInt_int,      wo_add, wo_sub, wo_mul, wo_fdiv, wo_mod, wo_pow, wo_addS, wo_addT, wo_addL, wo_addLo, wo_addLl, wo_mulS, wo_mulL, wo_mulT, wo_neg, wc_eqI, wc_neI, wc_ltI, wc_gtI, wc_leI, wc_geI, wc_eqS, wc_neS, wc_in, wc_notin,      wi_S, wi_tup, wi_lst, wi_scr, wi_loc, wi_lo, wi_do, at_0, at_1, at_2, at_3, at_4, at_5, at_if, int_ite,      wb_lenS, wb_lenT, wb_lenL, wb_lenScr, wb_lenLo, lenO_lst, lenO_dct, wb_abs, wb_intI, wb_intB, wb_bool, wb_strS, wb_strI, wb_min2, wb_max2, wb_tupT, wb_tupL, wb_tupLo, wb_list, w_listS, w_listT, w_listL, w_listScr, w_listD, w_dictD, ↓we_litems, w_litems, ↓we_isx, ↓we_fld, ↓we_dpop, ↓we_dget, ↓we_dclr, ↓we_tix, isDc_loc, dcO_dct, wd_pop, popX_dct, w_popV, wd_get, dctV_dct, dctV_loc, dctO_dct, Option.isSome_some, wd_clr, clrO_dct, w_pr2, ↓ws_swp, ↓we_lcD, w_isDct, ↓ws_forD, ↓we_zip3, W_newL0, W_newL1, W_newT,      wm_append, appO_lst, wm_extend, extO_lst, recv_loc, recvO_lst, ws_set, setO_lst, setO_dct, lstX_lst, lstX_loc, seqV_loc, lstV_loc, lstV_lst, lstV_scr, wi_str, ↓wdct_nil, ↓wdct_cons, W_newD0, W_newD1, keyOf_str, keyOf_int, dput_nil, ↓we_isi, ↓we_lrg, w_lrg, w_rng3N, w_rng32, ↓we_lset, ↓we_isB, w_isB, w_lsetT, w_lsetL, ↓we_orv, w_orI, w_orN, w_orB, w_only, wb_sum, wb_min, wb_max, wb_sorted, wb_dict, wm_index, w_augA, w_augS, ty_non_int, ty_non_str, ty_non_bool, ty_non_tuple, ty_non_list, ty_non_dict, ty_bl_int, ty_bl_str, ty_bl_bool, ty_bl_tuple, ty_bl_list, ty_bl_dict, ty_int_int, ty_int_str, ty_int_bool, ty_int_tuple, ty_int_list, ty_int_dict, ty_str_int, ty_str_str, ty_str_bool, ty_str_tuple, ty_str_list, ty_str_dict, ty_tup_int, ty_tup_str, ty_tup_bool, ty_tup_tuple, ty_tup_list, ty_tup_dict, ty_lst_int, ty_lst_str, ty_lst_bool, ty_lst_tuple, ty_lst_list, ty_lst_dict, ty_dct_int, ty_dct_str, ty_dct_bool, ty_dct_tuple, ty_dct_list, ty_dct_dict, ty_scr_int, ty_scr_str, ty_scr_bool, ty_scr_tuple, ty_scr_list, ty_scr_dict, ↓we_sm0, ↓we_sm1, ↓we_rev, wsm_upper, wsm_join, wsm_split, wsm_part, wrev_lst, wrev_tup, wrev_loc, seqV_tup, seqV_lst1, seqV_scr1, wsl_tup, wsl_str, wsl_lst, wsl_scr, wsl_loc, popO_0, wm_popAt, wq_tup, wq_lst, wq_scr, wq_str, wq_loc,      isNon_non, isNon_bl, isNon_int, isNon_str, isNon_tup, isNon_lst, isNon_dct,      asgt_name, asg_tup, asg_nil, asg_cons, setEach, some_bind, wipe_nil, wipe_cons, if_t, ite_true, ite_false, Bool.not_true, Bool.not_false, Bool.false_eq_true,      List.append_assoc, List.length_append, List.length_map, List.map_cons, List.map_nil, List.cons_append, List.nil_append, List.replicate_succ, List.replicate_zero, Nat.reduceSub, Nat.reduceAdd, Nat.reduceLT, Nat.reduceLeDiff, Nat.reduceEqDiff, List.length_cons, List.length_nil, List.getElem?_cons_zero, List.getElem?_cons_succ, List.set_cons_zero, List.set_cons_succ, $ts,*])
end DV
namespace DV
open PySem (Str)
end DV

end
section
set_option Elab.async false
set_option linter.all false
set_option maxRecDepth 100000
set_option autoImplicit false
set_option maxHeartbeats 2000000
/-! All on one bench. -/
namespace DV
open PySem (Str)
section
variable {α β : Type} {n b k : Nat} {xs : List α}
end
end DV

end
section
set_option Elab.async false
set_option linter.all false
set_option maxRecDepth 100000
set_option autoImplicit false
set_option maxHeartbeats 2000000
/-! The new table is a table. -/
namespace DV
open PySem (Str)
end DV

end
section
set_option Elab.async false
set_option linter.all false
set_option maxRecDepth 100000
set_option autoImplicit false
set_option maxHeartbeats 2000000
/-! Who has the right to a seat sits where he is due. -/
namespace DV
open PySem (Str)
end DV

end
section
set_option Elab.async false
set_option linter.all false
set_option maxRecDepth 100000
set_option autoImplicit false
set_option maxHeartbeats 2000000
/-! Trees told alike; dicts by names; rows in order. -/
namespace DV
open PySem (Str)
mutual
theorem eqD_refl : ∀ {d : D}, d.nd = true → eqD d d = true
  | .non, _ => by rw [eqD]
  | .bl b, _ => by simp [eqD]
  | .int i, _ => by simp [eqD]
  | .str x, _ => by simp [eqD]
  | .tup xs, h => by rw [eqD]; exact eqDs_refl (by rwa [D.nd] at h)
  | .lst xs, h => by rw [eqD]; exact eqDs_refl (by rwa [D.nd] at h)
  | .dct _, h => by simp [D.nd] at h
  | .loc _, h => by simp [D.nd] at h
  | .scr _, h => by simp [D.nd] at h
theorem eqDs_refl : ∀ {ds : List D}, nds ds = true → eqDs ds ds = true
  | [], _ => by rw [eqDs]
  | d :: ds, h => by
    rw [nds, Bool.and_eq_true] at h
    rw [eqDs, eqD_refl h.1, eqDs_refl h.2]; rfl
end
/-! ### texts sorted -/
/-! ### dicts by texts -/
/-! ### the rows of a bench stand in order -/
end DV

end
section
set_option Elab.async false
set_option linter.all false
set_option maxRecDepth 100000
set_option autoImplicit false
set_option maxHeartbeats 2000000
/-! The benches that one passes are full of better claims; who is ahead. -/
namespace DV
open PySem (Str)
end DV

end
section
set_option Elab.async false
set_option linter.all false
set_option maxRecDepth 100000
set_option autoImplicit false
set_option maxHeartbeats 2000000
/-! Who is ahead, and why. -/
namespace DV
open PySem (Str)
local macro_rules
  | `(tactic| simp_arith) => `(tactic| simp_arith [])
  | `(tactic| simp_arith [$ts,*]) => `(tactic| simp only [↓W_run, ↓ws_nil, ↓W_way, ↓ws_cons, ↓ws_asg, ↓ws_par, ↓ws_seti, ↓ws_aug, ↓ws_augi, ↓ws_expr, ↓ws_ret, ↓ws_retN, ↓ws_pass, ↓ws_brk, ↓ws_cont, ↓ws_if, ↓ws_while, ↓ws_for, ↓ws_turn,      ow_next, ow_ret, ow_brk, ow_cont, end_ret, end_next,      ↓we_var, ↓we_int, ↓we_bl, ↓we_str, ↓we_non, ↓we_con, ↓we_bin, ↓we_neg, ↓we_cmp, ↓we_cmp2, ↓we_isN, ↓we_notN, ↓we_not, ↓we_ife, ↓we_and, ↓we_or, ↓we_and1, ↓we_or1, ↓we_and2, ↓we_or2, ↓we_tup, ↓we_lst, ↓we_lstN, ↓we_dct,      ↓we_idx, ↓we_slc, ↓we_call, ↓we_bi, ↓we_mt, ↓we_nil, ↓we_cons, ↓we_oN, ↓we_oS, ↓we_cN, ↓we_cS, ↓we_lc, ↓we_turn, ↓we_seq, ↓we_rng1, ↓we_rng2, ↓we_rng3, ↓we_enum, ↓we_zip, ↓we_test,      Int.reduceLE, Int.reduceLT, Int.reduceAbs, log_lit, Nat.reducePow, Int.reduceToNat, Int.reducePow, Int.reduceAdd, Int.reduceSub, Int.reduceMul, Int.reduceNeg, Int.reduceEq, decide_true, decide_false, small62_iff, small61_iff, sizeMax_val, and_true, true_and, and_self, W_ok, WO_some, Way_t, Way_f, Way_not, Sd_t, isBool_bl, isInt_int,      wo_add, wo_sub, wo_mul, wo_fdiv, wo_mod, wo_pow, wo_addS, wo_addT, wo_addL, wo_addLo, wo_addLl, wo_mulS, wo_mulL, wo_mulT, wo_neg, wc_eqI, wc_neI, wc_ltI, wc_gtI, wc_leI, wc_geI, wc_eqS, wc_neS, wc_in, wc_notin,      wi_S, wi_tup, wi_lst, wi_scr, wi_loc, wi_lo, wi_do, at_0, at_1, at_2, at_3, at_4, at_5, at_if, int_ite,      wb_lenS, wb_lenT, wb_lenL, wb_lenScr, wb_lenLo, lenO_lst, lenO_dct, wb_abs, wb_intI, wb_intB, wb_bool, wb_strS, wb_strI, wb_min2, wb_max2, wb_tupT, wb_tupL, wb_tupLo, wb_list, w_listS, w_listT, w_listL, w_listScr, w_listD, w_dictD, ↓we_litems, w_litems, ↓we_isx, ↓we_fld, ↓we_dpop, ↓we_dget, ↓we_dclr, ↓we_tix, isDc_loc, dcO_dct, wd_pop, popX_dct, w_popV, wd_get, dctV_dct, dctV_loc, dctO_dct, Option.isSome_some, wd_clr, clrO_dct, w_pr2, ↓ws_swp, ↓we_lcD, w_isDct, ↓ws_forD, ↓we_zip3, W_newL0, W_newL1, W_newT,      wm_append, appO_lst, wm_extend, extO_lst, recv_loc, recvO_lst, ws_set, setO_lst, setO_dct, lstX_lst, lstX_loc, seqV_loc, lstV_loc, lstV_lst, lstV_scr, wi_str, ↓wdct_nil, ↓wdct_cons, W_newD0, W_newD1, keyOf_str, keyOf_int, dput_nil, ↓we_isi, ↓we_lrg, w_lrg, w_rng3N, w_rng32, ↓we_lset, ↓we_isB, w_isB, w_lsetT, w_lsetL, ↓we_orv, w_orI, w_orN, w_orB, w_only, wb_sum, wb_min, wb_max, wb_sorted, wb_dict, wm_index, w_augA, w_augS, ty_non_int, ty_non_str, ty_non_bool, ty_non_tuple, ty_non_list, ty_non_dict, ty_bl_int, ty_bl_str, ty_bl_bool, ty_bl_tuple, ty_bl_list, ty_bl_dict, ty_int_int, ty_int_str, ty_int_bool, ty_int_tuple, ty_int_list, ty_int_dict, ty_str_int, ty_str_str, ty_str_bool, ty_str_tuple, ty_str_list, ty_str_dict, ty_tup_int, ty_tup_str, ty_tup_bool, ty_tup_tuple, ty_tup_list, ty_tup_dict, ty_lst_int, ty_lst_str, ty_lst_bool, ty_lst_tuple, ty_lst_list, ty_lst_dict, ty_dct_int, ty_dct_str, ty_dct_bool, ty_dct_tuple, ty_dct_list, ty_dct_dict, ty_scr_int, ty_scr_str, ty_scr_bool, ty_scr_tuple, ty_scr_list, ty_scr_dict, ↓we_sm0, ↓we_sm1, ↓we_rev, wsm_upper, wsm_join, wsm_split, wsm_part, wrev_lst, wrev_tup, wrev_loc, seqV_tup, seqV_lst1, seqV_scr1, wsl_tup, wsl_str, wsl_lst, wsl_scr, wsl_loc, popO_0, wm_popAt, wq_tup, wq_lst, wq_scr, wq_str, wq_loc,      isNon_non, isNon_bl, isNon_int, isNon_str, isNon_tup, isNon_lst, isNon_dct,      asgt_name, asg_tup, asg_nil, asg_cons, setEach, some_bind, wipe_nil, wipe_cons, if_t, ite_true, ite_false, Bool.not_true, Bool.not_false, Bool.false_eq_true,      List.append_assoc, List.length_append, List.length_map, List.map_cons, List.map_nil, List.cons_append, List.nil_append, List.replicate_succ, List.replicate_zero, Nat.reduceSub, Nat.reduceAdd, Nat.reduceLT, Nat.reduceLeDiff, Nat.reduceEqDiff, List.length_cons, List.length_nil, List.getElem?_cons_zero, List.getElem?_cons_succ, List.set_cons_zero, List.set_cons_succ, $ts,*])
/-! ### the rule -/
/-! ### who is ahead -/
end DV

end
section
set_option Elab.async false
set_option linter.all false
set_option maxRecDepth 100000
set_option autoImplicit false
set_option maxHeartbeats 2000000
/-! Where each sits in the new table. -/
namespace DV
open PySem (Str)
end DV

end
section
set_option Elab.async false
set_option linter.all false
set_option maxRecDepth 100000
set_option autoImplicit false
set_option maxHeartbeats 2000000
/-! What results make of a table's members. -/
namespace DV
open PySem (Str)
local macro_rules
  | `(tactic| simp_arith) => `(tactic| simp_arith [])
  | `(tactic| simp_arith [$ts,*]) => `(tactic| simp only [↓W_run, ↓ws_nil, ↓W_way, ↓ws_cons, ↓ws_asg, ↓ws_par, ↓ws_seti, ↓ws_aug, ↓ws_augi, ↓ws_expr, ↓ws_ret, ↓ws_retN, ↓ws_pass, ↓ws_brk, ↓ws_cont, ↓ws_if, ↓ws_while, ↓ws_for, ↓ws_turn,      ow_next, ow_ret, ow_brk, ow_cont, end_ret, end_next,      ↓we_var, ↓we_int, ↓we_bl, ↓we_str, ↓we_non, ↓we_con, ↓we_bin, ↓we_neg, ↓we_cmp, ↓we_cmp2, ↓we_isN, ↓we_notN, ↓we_not, ↓we_ife, ↓we_and, ↓we_or, ↓we_and1, ↓we_or1, ↓we_and2, ↓we_or2, ↓we_tup, ↓we_lst, ↓we_lstN, ↓we_dct,      ↓we_idx, ↓we_slc, ↓we_call, ↓we_bi, ↓we_mt, ↓we_nil, ↓we_cons, ↓we_oN, ↓we_oS, ↓we_cN, ↓we_cS, ↓we_lc, ↓we_turn, ↓we_seq, ↓we_rng1, ↓we_rng2, ↓we_rng3, ↓we_enum, ↓we_zip, ↓we_test,      Int.reduceLE, Int.reduceLT, Int.reduceAbs, log_lit, Nat.reducePow, Int.reduceToNat, Int.reducePow, Int.reduceAdd, Int.reduceSub, Int.reduceMul, Int.reduceNeg, Int.reduceEq, decide_true, decide_false, small62_iff, small61_iff, sizeMax_val, and_true, true_and, and_self, W_ok, WO_some, Way_t, Way_f, Way_not, Sd_t, isBool_bl, isInt_int,      wo_add, wo_sub, wo_mul, wo_fdiv, wo_mod, wo_pow, wo_addS, wo_addT, wo_addL, wo_addLo, wo_addLl, wo_mulS, wo_mulL, wo_mulT, wo_neg, wc_eqI, wc_neI, wc_ltI, wc_gtI, wc_leI, wc_geI, wc_eqS, wc_neS, wc_in, wc_notin,      wi_S, wi_tup, wi_lst, wi_scr, wi_loc, wi_lo, wi_do, at_0, at_1, at_2, at_3, at_4, at_5, at_if, int_ite,      wb_lenS, wb_lenT, wb_lenL, wb_lenScr, wb_lenLo, lenO_lst, lenO_dct, wb_abs, wb_intI, wb_intB, wb_bool, wb_strS, wb_strI, wb_min2, wb_max2, wb_tupT, wb_tupL, wb_tupLo, wb_list, w_listS, w_listT, w_listL, w_listScr, w_listD, w_dictD, ↓we_litems, w_litems, ↓we_isx, ↓we_fld, ↓we_dpop, ↓we_dget, ↓we_dclr, ↓we_tix, isDc_loc, dcO_dct, wd_pop, popX_dct, w_popV, wd_get, dctV_dct, dctV_loc, dctO_dct, Option.isSome_some, wd_clr, clrO_dct, w_pr2, ↓ws_swp, ↓we_lcD, w_isDct, ↓ws_forD, ↓we_zip3, W_newL0, W_newL1, W_newT,      wm_append, appO_lst, wm_extend, extO_lst, recv_loc, recvO_lst, ws_set, setO_lst, setO_dct, lstX_lst, lstX_loc, seqV_loc, lstV_loc, lstV_lst, lstV_scr, wi_str, ↓wdct_nil, ↓wdct_cons, W_newD0, W_newD1, keyOf_str, keyOf_int, dput_nil, ↓we_isi, ↓we_lrg, w_lrg, w_rng3N, w_rng32, ↓we_lset, ↓we_isB, w_isB, w_lsetT, w_lsetL, ↓we_orv, w_orI, w_orN, w_orB, w_only, wb_sum, wb_min, wb_max, wb_sorted, wb_dict, wm_index, w_augA, w_augS, ty_non_int, ty_non_str, ty_non_bool, ty_non_tuple, ty_non_list, ty_non_dict, ty_bl_int, ty_bl_str, ty_bl_bool, ty_bl_tuple, ty_bl_list, ty_bl_dict, ty_int_int, ty_int_str, ty_int_bool, ty_int_tuple, ty_int_list, ty_int_dict, ty_str_int, ty_str_str, ty_str_bool, ty_str_tuple, ty_str_list, ty_str_dict, ty_tup_int, ty_tup_str, ty_tup_bool, ty_tup_tuple, ty_tup_list, ty_tup_dict, ty_lst_int, ty_lst_str, ty_lst_bool, ty_lst_tuple, ty_lst_list, ty_lst_dict, ty_dct_int, ty_dct_str, ty_dct_bool, ty_dct_tuple, ty_dct_list, ty_dct_dict, ty_scr_int, ty_scr_str, ty_scr_bool, ty_scr_tuple, ty_scr_list, ty_scr_dict, ↓we_sm0, ↓we_sm1, ↓we_rev, wsm_upper, wsm_join, wsm_split, wsm_part, wrev_lst, wrev_tup, wrev_loc, seqV_tup, seqV_lst1, seqV_scr1, wsl_tup, wsl_str, wsl_lst, wsl_scr, wsl_loc, popO_0, wm_popAt, wq_tup, wq_lst, wq_scr, wq_str, wq_loc,      isNon_non, isNon_bl, isNon_int, isNon_str, isNon_tup, isNon_lst, isNon_dct,      asgt_name, asg_tup, asg_nil, asg_cons, setEach, some_bind, wipe_nil, wipe_cons, if_t, ite_true, ite_false, Bool.not_true, Bool.not_false, Bool.false_eq_true,      List.append_assoc, List.length_append, List.length_map, List.map_cons, List.map_nil, List.cons_append, List.nil_append, List.replicate_succ, List.replicate_zero, Nat.reduceSub, Nat.reduceAdd, Nat.reduceLT, Nat.reduceLeDiff, Nat.reduceEqDiff, List.length_cons, List.length_nil, List.getElem?_cons_zero, List.getElem?_cons_succ, List.set_cons_zero, List.set_cons_succ, $ts,*])
/-! ### worth -/
/-! ### dicts over names -/
/-! ### results -/
structure Rsl where
  name : Str
  met : Nat
  won : Bool
def Rsl.enc (r : Rsl) : D := .tup [.str r.name, .int r.met, .bl r.won]
end DV

end
section
set_option Elab.async false
set_option linter.all false
set_option maxRecDepth 100000
set_option autoImplicit false
set_option maxHeartbeats 2000000
/-! The outcomes that results make. -/
namespace DV
open PySem (Str)
local macro_rules
  | `(tactic| simp_arith) => `(tactic| simp_arith [])
  | `(tactic| simp_arith [$ts,*]) => `(tactic| simp only [↓W_run, ↓ws_nil, ↓W_way, ↓ws_cons, ↓ws_asg, ↓ws_par, ↓ws_seti, ↓ws_aug, ↓ws_augi, ↓ws_expr, ↓ws_ret, ↓ws_retN, ↓ws_pass, ↓ws_brk, ↓ws_cont, ↓ws_if, ↓ws_while, ↓ws_for, ↓ws_turn,      ow_next, ow_ret, ow_brk, ow_cont, end_ret, end_next,      ↓we_var, ↓we_int, ↓we_bl, ↓we_str, ↓we_non, ↓we_con, ↓we_bin, ↓we_neg, ↓we_cmp, ↓we_cmp2, ↓we_isN, ↓we_notN, ↓we_not, ↓we_ife, ↓we_and, ↓we_or, ↓we_and1, ↓we_or1, ↓we_and2, ↓we_or2, ↓we_tup, ↓we_lst, ↓we_lstN, ↓we_dct,      ↓we_idx, ↓we_slc, ↓we_call, ↓we_bi, ↓we_mt, ↓we_nil, ↓we_cons, ↓we_oN, ↓we_oS, ↓we_cN, ↓we_cS, ↓we_lc, ↓we_turn, ↓we_seq, ↓we_rng1, ↓we_rng2, ↓we_rng3, ↓we_enum, ↓we_zip, ↓we_test,      Int.reduceLE, Int.reduceLT, Int.reduceAbs, log_lit, Nat.reducePow, Int.reduceToNat, Int.reducePow, Int.reduceAdd, Int.reduceSub, Int.reduceMul, Int.reduceNeg, Int.reduceEq, decide_true, decide_false, small62_iff, small61_iff, sizeMax_val, and_true, true_and, and_self, W_ok, WO_some, Way_t, Way_f, Way_not, Sd_t, isBool_bl, isInt_int,      wo_add, wo_sub, wo_mul, wo_fdiv, wo_mod, wo_pow, wo_addS, wo_addT, wo_addL, wo_addLo, wo_addLl, wo_mulS, wo_mulL, wo_mulT, wo_neg, wc_eqI, wc_neI, wc_ltI, wc_gtI, wc_leI, wc_geI, wc_eqS, wc_neS, wc_in, wc_notin,      wi_S, wi_tup, wi_lst, wi_scr, wi_loc, wi_lo, wi_do, at_0, at_1, at_2, at_3, at_4, at_5, at_if, int_ite,      wb_lenS, wb_lenT, wb_lenL, wb_lenScr, wb_lenLo, lenO_lst, lenO_dct, wb_abs, wb_intI, wb_intB, wb_bool, wb_strS, wb_strI, wb_min2, wb_max2, wb_tupT, wb_tupL, wb_tupLo, wb_list, w_listS, w_listT, w_listL, w_listScr, w_listD, w_dictD, ↓we_litems, w_litems, ↓we_isx, ↓we_fld, ↓we_dpop, ↓we_dget, ↓we_dclr, ↓we_tix, isDc_loc, dcO_dct, wd_pop, popX_dct, w_popV, wd_get, dctV_dct, dctV_loc, dctO_dct, Option.isSome_some, wd_clr, clrO_dct, w_pr2, ↓ws_swp, ↓we_lcD, w_isDct, ↓ws_forD, ↓we_zip3, W_newL0, W_newL1, W_newT,      wm_append, appO_lst, wm_extend, extO_lst, recv_loc, recvO_lst, ws_set, setO_lst, setO_dct, lstX_lst, lstX_loc, seqV_loc, lstV_loc, lstV_lst, lstV_scr, wi_str, ↓wdct_nil, ↓wdct_cons, W_newD0, W_newD1, keyOf_str, keyOf_int, dput_nil, ↓we_isi, ↓we_lrg, w_lrg, w_rng3N, w_rng32, ↓we_lset, ↓we_isB, w_isB, w_lsetT, w_lsetL, ↓we_orv, w_orI, w_orN, w_orB, w_only, wb_sum, wb_min, wb_max, wb_sorted, wb_dict, wm_index, w_augA, w_augS, ty_non_int, ty_non_str, ty_non_bool, ty_non_tuple, ty_non_list, ty_non_dict, ty_bl_int, ty_bl_str, ty_bl_bool, ty_bl_tuple, ty_bl_list, ty_bl_dict, ty_int_int, ty_int_str, ty_int_bool, ty_int_tuple, ty_int_list, ty_int_dict, ty_str_int, ty_str_str, ty_str_bool, ty_str_tuple, ty_str_list, ty_str_dict, ty_tup_int, ty_tup_str, ty_tup_bool, ty_tup_tuple, ty_tup_list, ty_tup_dict, ty_lst_int, ty_lst_str, ty_lst_bool, ty_lst_tuple, ty_lst_list, ty_lst_dict, ty_dct_int, ty_dct_str, ty_dct_bool, ty_dct_tuple, ty_dct_list, ty_dct_dict, ty_scr_int, ty_scr_str, ty_scr_bool, ty_scr_tuple, ty_scr_list, ty_scr_dict, ↓we_sm0, ↓we_sm1, ↓we_rev, wsm_upper, wsm_join, wsm_split, wsm_part, wrev_lst, wrev_tup, wrev_loc, seqV_tup, seqV_lst1, seqV_scr1, wsl_tup, wsl_str, wsl_lst, wsl_scr, wsl_loc, popO_0, wm_popAt, wq_tup, wq_lst, wq_scr, wq_str, wq_loc,      isNon_non, isNon_bl, isNon_int, isNon_str, isNon_tup, isNon_lst, isNon_dct,      asgt_name, asg_tup, asg_nil, asg_cons, setEach, some_bind, wipe_nil, wipe_cons, if_t, ite_true, ite_false, Bool.not_true, Bool.not_false, Bool.false_eq_true,      List.append_assoc, List.length_append, List.length_map, List.map_cons, List.map_nil, List.cons_append, List.nil_append, List.replicate_succ, List.replicate_zero, Nat.reduceSub, Nat.reduceAdd, Nat.reduceLT, Nat.reduceLeDiff, Nat.reduceEqDiff, List.length_cons, List.length_nil, List.getElem?_cons_zero, List.getElem?_cons_succ, List.set_cons_zero, List.set_cons_succ, $ts,*])
section
variable {τ : Type} {enc : τ → D} {s T : Store} {bs : List (List τ)} {k : Nat}
end
/-! ### several names from one list -/
end DV

end
section
set_option Elab.async false
set_option linter.all false
set_option maxRecDepth 100000
set_option autoImplicit false
set_option maxHeartbeats 2000000
/-! Names of drawn stems, tables dealt: what k16 and k68 draw. -/
namespace DV
open PySem (Str)
local macro_rules
  | `(tactic| simp_arith) => `(tactic| simp_arith [])
  | `(tactic| simp_arith [$ts,*]) => `(tactic| simp only [↓W_run, ↓ws_nil, ↓W_way, ↓ws_cons, ↓ws_asg, ↓ws_par, ↓ws_seti, ↓ws_aug, ↓ws_augi, ↓ws_expr, ↓ws_ret, ↓ws_retN, ↓ws_pass, ↓ws_brk, ↓ws_cont, ↓ws_if, ↓ws_while, ↓ws_for, ↓ws_turn,      ow_next, ow_ret, ow_brk, ow_cont, end_ret, end_next,      ↓we_var, ↓we_int, ↓we_bl, ↓we_str, ↓we_non, ↓we_con, ↓we_bin, ↓we_neg, ↓we_cmp, ↓we_cmp2, ↓we_isN, ↓we_notN, ↓we_not, ↓we_ife, ↓we_and, ↓we_or, ↓we_and1, ↓we_or1, ↓we_and2, ↓we_or2, ↓we_tup, ↓we_lst, ↓we_lstN, ↓we_dct,      ↓we_idx, ↓we_slc, ↓we_call, ↓we_bi, ↓we_mt, ↓we_nil, ↓we_cons, ↓we_oN, ↓we_oS, ↓we_cN, ↓we_cS, ↓we_lc, ↓we_turn, ↓we_seq, ↓we_rng1, ↓we_rng2, ↓we_rng3, ↓we_enum, ↓we_zip, ↓we_test,      Int.reduceLE, Int.reduceLT, Int.reduceAbs, log_lit, Nat.reducePow, Int.reduceToNat, Int.reducePow, Int.reduceAdd, Int.reduceSub, Int.reduceMul, Int.reduceNeg, Int.reduceEq, decide_true, decide_false, small62_iff, small61_iff, sizeMax_val, and_true, true_and, and_self, W_ok, WO_some, Way_t, Way_f, Way_not, Sd_t, isBool_bl, isInt_int,      wo_add, wo_sub, wo_mul, wo_fdiv, wo_mod, wo_pow, wo_addS, wo_addT, wo_addL, wo_addLo, wo_addLl, wo_mulS, wo_mulL, wo_mulT, wo_neg, wc_eqI, wc_neI, wc_ltI, wc_gtI, wc_leI, wc_geI, wc_eqS, wc_neS, wc_in, wc_notin,      wi_S, wi_tup, wi_lst, wi_scr, wi_loc, wi_lo, wi_do, at_0, at_1, at_2, at_3, at_4, at_5, at_if, int_ite,      wb_lenS, wb_lenT, wb_lenL, wb_lenScr, wb_lenLo, lenO_lst, lenO_dct, wb_abs, wb_intI, wb_intB, wb_bool, wb_strS, wb_strI, wb_min2, wb_max2, wb_tupT, wb_tupL, wb_tupLo, wb_list, w_listS, w_listT, w_listL, w_listScr, w_listD, w_dictD, ↓we_litems, w_litems, ↓we_isx, ↓we_fld, ↓we_dpop, ↓we_dget, ↓we_dclr, ↓we_tix, isDc_loc, dcO_dct, wd_pop, popX_dct, w_popV, wd_get, dctV_dct, dctV_loc, dctO_dct, Option.isSome_some, wd_clr, clrO_dct, w_pr2, ↓ws_swp, ↓we_lcD, w_isDct, ↓ws_forD, ↓we_zip3, W_newL0, W_newL1, W_newT,      wm_append, appO_lst, wm_extend, extO_lst, recv_loc, recvO_lst, ws_set, setO_lst, setO_dct, lstX_lst, lstX_loc, seqV_loc, lstV_loc, lstV_lst, lstV_scr, wi_str, ↓wdct_nil, ↓wdct_cons, W_newD0, W_newD1, keyOf_str, keyOf_int, dput_nil, ↓we_isi, ↓we_lrg, w_lrg, w_rng3N, w_rng32, ↓we_lset, ↓we_isB, w_isB, w_lsetT, w_lsetL, ↓we_orv, w_orI, w_orN, w_orB, w_only, wb_sum, wb_min, wb_max, wb_sorted, wb_dict, wm_index, w_augA, w_augS, ty_non_int, ty_non_str, ty_non_bool, ty_non_tuple, ty_non_list, ty_non_dict, ty_bl_int, ty_bl_str, ty_bl_bool, ty_bl_tuple, ty_bl_list, ty_bl_dict, ty_int_int, ty_int_str, ty_int_bool, ty_int_tuple, ty_int_list, ty_int_dict, ty_str_int, ty_str_str, ty_str_bool, ty_str_tuple, ty_str_list, ty_str_dict, ty_tup_int, ty_tup_str, ty_tup_bool, ty_tup_tuple, ty_tup_list, ty_tup_dict, ty_lst_int, ty_lst_str, ty_lst_bool, ty_lst_tuple, ty_lst_list, ty_lst_dict, ty_dct_int, ty_dct_str, ty_dct_bool, ty_dct_tuple, ty_dct_list, ty_dct_dict, ty_scr_int, ty_scr_str, ty_scr_bool, ty_scr_tuple, ty_scr_list, ty_scr_dict, ↓we_sm0, ↓we_sm1, ↓we_rev, wsm_upper, wsm_join, wsm_split, wsm_part, wrev_lst, wrev_tup, wrev_loc, seqV_tup, seqV_lst1, seqV_scr1, wsl_tup, wsl_str, wsl_lst, wsl_scr, wsl_loc, popO_0, wm_popAt, wq_tup, wq_lst, wq_scr, wq_str, wq_loc,      isNon_non, isNon_bl, isNon_int, isNon_str, isNon_tup, isNon_lst, isNon_dct,      asgt_name, asg_tup, asg_nil, asg_cons, setEach, some_bind, wipe_nil, wipe_cons, if_t, ite_true, ite_false, Bool.not_true, Bool.not_false, Bool.false_eq_true,      List.append_assoc, List.length_append, List.length_map, List.map_cons, List.map_nil, List.cons_append, List.nil_append, List.replicate_succ, List.replicate_zero, Nat.reduceSub, Nat.reduceAdd, Nat.reduceLT, Nat.reduceLeDiff, Nat.reduceEqDiff, List.length_cons, List.length_nil, List.getElem?_cons_zero, List.getElem?_cons_succ, List.set_cons_zero, List.set_cons_succ, $ts,*])
/-- how the names of one turn look -/
inductive Fm (stem : Str) (at_ : Nat) (rest : List Nat) (i : Nat) : Nat → Str → Prop
  | mid {c : Nat} (h : rest[i]? = some c) (w : Str) (e : w.cps.toList = stem.cps.toList.take at_ ++ [c] ++ stem.cps.toList.drop at_) : Fm stem at_ rest i 0 w
  | fst {c : Nat} (h : rest[i]? = some c) (w : Str) (k : Nat) (e : w.cps.toList = c :: stem.cps.toList.take k) : Fm stem at_ rest i 1 w
  | two {c c0 : Nat} (h : rest[i]? = some c) (h0 : rest[0]? = some c0) (w : Str) (e : w.cps.toList = List.replicate (1 + i % 6) c0 ++ if 0 < i then List.replicate (1 + i / 6) c else []) : Fm stem at_ rest i 2 w
end DV

end
section
set_option Elab.async false
set_option linter.all false
set_option maxRecDepth 100000
set_option autoImplicit false
set_option maxHeartbeats 2000000
/-! Tables dealt. -/
namespace DV
open PySem (Str)
local macro_rules
  | `(tactic| simp_arith) => `(tactic| simp_arith [])
  | `(tactic| simp_arith [$ts,*]) => `(tactic| simp only [↓W_run, ↓ws_nil, ↓W_way, ↓ws_cons, ↓ws_asg, ↓ws_par, ↓ws_seti, ↓ws_aug, ↓ws_augi, ↓ws_expr, ↓ws_ret, ↓ws_retN, ↓ws_pass, ↓ws_brk, ↓ws_cont, ↓ws_if, ↓ws_while, ↓ws_for, ↓ws_turn,      ow_next, ow_ret, ow_brk, ow_cont, end_ret, end_next,      ↓we_var, ↓we_int, ↓we_bl, ↓we_str, ↓we_non, ↓we_con, ↓we_bin, ↓we_neg, ↓we_cmp, ↓we_cmp2, ↓we_isN, ↓we_notN, ↓we_not, ↓we_ife, ↓we_and, ↓we_or, ↓we_and1, ↓we_or1, ↓we_and2, ↓we_or2, ↓we_tup, ↓we_lst, ↓we_lstN, ↓we_dct,      ↓we_idx, ↓we_slc, ↓we_call, ↓we_bi, ↓we_mt, ↓we_nil, ↓we_cons, ↓we_oN, ↓we_oS, ↓we_cN, ↓we_cS, ↓we_lc, ↓we_turn, ↓we_seq, ↓we_rng1, ↓we_rng2, ↓we_rng3, ↓we_enum, ↓we_zip, ↓we_test,      Int.reduceLE, Int.reduceLT, Int.reduceAbs, log_lit, Nat.reducePow, Int.reduceToNat, Int.reducePow, Int.reduceAdd, Int.reduceSub, Int.reduceMul, Int.reduceNeg, Int.reduceEq, decide_true, decide_false, small62_iff, small61_iff, sizeMax_val, and_true, true_and, and_self, W_ok, WO_some, Way_t, Way_f, Way_not, Sd_t, isBool_bl, isInt_int,      wo_add, wo_sub, wo_mul, wo_fdiv, wo_mod, wo_pow, wo_addS, wo_addT, wo_addL, wo_addLo, wo_addLl, wo_mulS, wo_mulL, wo_mulT, wo_neg, wc_eqI, wc_neI, wc_ltI, wc_gtI, wc_leI, wc_geI, wc_eqS, wc_neS, wc_in, wc_notin,      wi_S, wi_tup, wi_lst, wi_scr, wi_loc, wi_lo, wi_do, at_0, at_1, at_2, at_3, at_4, at_5, at_if, int_ite,      wb_lenS, wb_lenT, wb_lenL, wb_lenScr, wb_lenLo, lenO_lst, lenO_dct, wb_abs, wb_intI, wb_intB, wb_bool, wb_strS, wb_strI, wb_min2, wb_max2, wb_tupT, wb_tupL, wb_tupLo, wb_list, w_listS, w_listT, w_listL, w_listScr, w_listD, w_dictD, ↓we_litems, w_litems, ↓we_isx, ↓we_fld, ↓we_dpop, ↓we_dget, ↓we_dclr, ↓we_tix, isDc_loc, dcO_dct, wd_pop, popX_dct, w_popV, wd_get, dctV_dct, dctV_loc, dctO_dct, Option.isSome_some, wd_clr, clrO_dct, w_pr2, ↓ws_swp, ↓we_lcD, w_isDct, ↓ws_forD, ↓we_zip3, W_newL0, W_newL1, W_newT,      wm_append, appO_lst, wm_extend, extO_lst, recv_loc, recvO_lst, ws_set, setO_lst, setO_dct, lstX_lst, lstX_loc, seqV_loc, lstV_loc, lstV_lst, lstV_scr, wi_str, ↓wdct_nil, ↓wdct_cons, W_newD0, W_newD1, keyOf_str, keyOf_int, dput_nil, ↓we_isi, ↓we_lrg, w_lrg, w_rng3N, w_rng32, ↓we_lset, ↓we_isB, w_isB, w_lsetT, w_lsetL, ↓we_orv, w_orI, w_orN, w_orB, w_only, wb_sum, wb_min, wb_max, wb_sorted, wb_dict, wm_index, w_augA, w_augS, ty_non_int, ty_non_str, ty_non_bool, ty_non_tuple, ty_non_list, ty_non_dict, ty_bl_int, ty_bl_str, ty_bl_bool, ty_bl_tuple, ty_bl_list, ty_bl_dict, ty_int_int, ty_int_str, ty_int_bool, ty_int_tuple, ty_int_list, ty_int_dict, ty_str_int, ty_str_str, ty_str_bool, ty_str_tuple, ty_str_list, ty_str_dict, ty_tup_int, ty_tup_str, ty_tup_bool, ty_tup_tuple, ty_tup_list, ty_tup_dict, ty_lst_int, ty_lst_str, ty_lst_bool, ty_lst_tuple, ty_lst_list, ty_lst_dict, ty_dct_int, ty_dct_str, ty_dct_bool, ty_dct_tuple, ty_dct_list, ty_dct_dict, ty_scr_int, ty_scr_str, ty_scr_bool, ty_scr_tuple, ty_scr_list, ty_scr_dict, ↓we_sm0, ↓we_sm1, ↓we_rev, wsm_upper, wsm_join, wsm_split, wsm_part, wrev_lst, wrev_tup, wrev_loc, seqV_tup, seqV_lst1, seqV_scr1, wsl_tup, wsl_str, wsl_lst, wsl_scr, wsl_loc, popO_0, wm_popAt, wq_tup, wq_lst, wq_scr, wq_str, wq_loc,      isNon_non, isNon_bl, isNon_int, isNon_str, isNon_tup, isNon_lst, isNon_dct,      asgt_name, asg_tup, asg_nil, asg_cons, setEach, some_bind, wipe_nil, wipe_cons, if_t, ite_true, ite_false, Bool.not_true, Bool.not_false, Bool.false_eq_true,      List.append_assoc, List.length_append, List.length_map, List.map_cons, List.map_nil, List.cons_append, List.nil_append, List.replicate_succ, List.replicate_zero, Nat.reduceSub, Nat.reduceAdd, Nat.reduceLT, Nat.reduceLeDiff, Nat.reduceEqDiff, List.length_cons, List.length_nil, List.getElem?_cons_zero, List.getElem?_cons_succ, List.set_cons_zero, List.set_cons_succ, $ts,*])
section
variable {l b n B : Nat} {os s : Store} {bs : Tab}
end
end DV

end
section
set_option Elab.async false
set_option linter.all false
set_option maxRecDepth 100000
set_option autoImplicit false
set_option maxHeartbeats 2000000
/-! Texts written and read: rows of words, standings. -/
namespace DV
open PySem (Str)
/-! ### standings as words -/
def wordS (p : Str × Str) : Str := if p.2 = "plain" then p.1 else p.1 ++ ":" ++ p.2
structure StdOk (p : Str × Str) : Prop where
  nm : NameOk p.1
  st : p.2 = "plain" ∨ p.2 = "near" ∨ p.2 = "warned" ∨ p.2 = "held"
theorem StdOk.ch {p : Str × Str} (h : StdOk p) : ∀ c ∈ (wordS p).cps.toList, 58 ≤ c ∧ c ≤ 122 := by
  have h1 := h.nm.ch
  unfold wordS
  split
  · intro c hc; have := h1 c hc; omega
  · intro c hc
    rw [app_list, app_list] at hc
    rcases List.mem_append.mp hc with hc | hc
    · rcases List.mem_append.mp hc with hc | hc
      · have := h1 c hc; omega
      · have : c ∈ [58] := hc
        simp at this; omega
    · have all : ∀ x : Str, x = "plain" ∨ x = "near" ∨ x = "warned" ∨ x = "held" → ∀ c ∈ x.cps.toList, 58 ≤ c ∧ c ≤ 122 := fun x hx => by
        rcases hx with rfl | rfl | rfl | rfl <;> decide
      exact all p.2 h.st c hc
theorem StdOk.len {p : Str × Str} (h : StdOk p) : (wordS p).length ≤ 19 := by
  have h1 := h.nm.l1
  have hc : (Str.ofString ":").length = 1 := rfl
  unfold wordS
  split
  · omega
  · rw [PySem.strLen_append, PySem.strLen_append, hc]
    rcases h.st with e | e | e | e <;> rw [e]
    · have : (Str.ofString "plain").length = 5 := rfl
      omega
    · have : (Str.ofString "near").length = 4 := rfl
      omega
    · have : (Str.ofString "warned").length = 6 := rfl
      omega
    · have : (Str.ofString "held").length = 4 := rfl
      omega
end DV

end
section
set_option Elab.async false
set_option linter.all false
set_option maxRecDepth 100000
set_option autoImplicit false
set_option maxHeartbeats 2000000
/-! Up to sixty names: two letters put into a stem (k68, k70). -/
namespace DV
open PySem (Str)
local macro_rules
  | `(tactic| simp_arith) => `(tactic| simp_arith [])
  | `(tactic| simp_arith [$ts,*]) => `(tactic| simp only [↓W_run, ↓ws_nil, ↓W_way, ↓ws_cons, ↓ws_asg, ↓ws_par, ↓ws_seti, ↓ws_aug, ↓ws_augi, ↓ws_expr, ↓ws_ret, ↓ws_retN, ↓ws_pass, ↓ws_brk, ↓ws_cont, ↓ws_if, ↓ws_while, ↓ws_for, ↓ws_turn,      ow_next, ow_ret, ow_brk, ow_cont, end_ret, end_next,      ↓we_var, ↓we_int, ↓we_bl, ↓we_str, ↓we_non, ↓we_con, ↓we_bin, ↓we_neg, ↓we_cmp, ↓we_cmp2, ↓we_isN, ↓we_notN, ↓we_not, ↓we_ife, ↓we_and, ↓we_or, ↓we_and1, ↓we_or1, ↓we_and2, ↓we_or2, ↓we_tup, ↓we_lst, ↓we_lstN, ↓we_dct,      ↓we_idx, ↓we_slc, ↓we_call, ↓we_bi, ↓we_mt, ↓we_nil, ↓we_cons, ↓we_oN, ↓we_oS, ↓we_cN, ↓we_cS, ↓we_lc, ↓we_turn, ↓we_seq, ↓we_rng1, ↓we_rng2, ↓we_rng3, ↓we_enum, ↓we_zip, ↓we_test,      Int.reduceLE, Int.reduceLT, Int.reduceAbs, log_lit, Nat.reducePow, Int.reduceToNat, Int.reducePow, Int.reduceAdd, Int.reduceSub, Int.reduceMul, Int.reduceNeg, Int.reduceEq, decide_true, decide_false, small62_iff, small61_iff, sizeMax_val, and_true, true_and, and_self, W_ok, WO_some, Way_t, Way_f, Way_not, Sd_t, isBool_bl, isInt_int,      wo_add, wo_sub, wo_mul, wo_fdiv, wo_mod, wo_pow, wo_addS, wo_addT, wo_addL, wo_addLo, wo_addLl, wo_mulS, wo_mulL, wo_mulT, wo_neg, wc_eqI, wc_neI, wc_ltI, wc_gtI, wc_leI, wc_geI, wc_eqS, wc_neS, wc_in, wc_notin,      wi_S, wi_tup, wi_lst, wi_scr, wi_loc, wi_lo, wi_do, at_0, at_1, at_2, at_3, at_4, at_5, at_if, int_ite,      wb_lenS, wb_lenT, wb_lenL, wb_lenScr, wb_lenLo, lenO_lst, lenO_dct, wb_abs, wb_intI, wb_intB, wb_bool, wb_strS, wb_strI, wb_min2, wb_max2, wb_tupT, wb_tupL, wb_tupLo, wb_list, w_listS, w_listT, w_listL, w_listScr, w_listD, w_dictD, ↓we_litems, w_litems, ↓we_isx, ↓we_fld, ↓we_dpop, ↓we_dget, ↓we_dclr, ↓we_tix, isDc_loc, dcO_dct, wd_pop, popX_dct, w_popV, wd_get, dctV_dct, dctV_loc, dctO_dct, Option.isSome_some, wd_clr, clrO_dct, w_pr2, ↓ws_swp, ↓we_lcD, w_isDct, ↓ws_forD, ↓we_zip3, W_newL0, W_newL1, W_newT,      wm_append, appO_lst, wm_extend, extO_lst, recv_loc, recvO_lst, ws_set, setO_lst, setO_dct, lstX_lst, lstX_loc, seqV_loc, lstV_loc, lstV_lst, lstV_scr, wi_str, ↓wdct_nil, ↓wdct_cons, W_newD0, W_newD1, keyOf_str, keyOf_int, dput_nil, ↓we_isi, ↓we_lrg, w_lrg, w_rng3N, w_rng32, ↓we_lset, ↓we_isB, w_isB, w_lsetT, w_lsetL, ↓we_orv, w_orI, w_orN, w_orB, w_only, wb_sum, wb_min, wb_max, wb_sorted, wb_dict, wm_index, w_augA, w_augS, ty_non_int, ty_non_str, ty_non_bool, ty_non_tuple, ty_non_list, ty_non_dict, ty_bl_int, ty_bl_str, ty_bl_bool, ty_bl_tuple, ty_bl_list, ty_bl_dict, ty_int_int, ty_int_str, ty_int_bool, ty_int_tuple, ty_int_list, ty_int_dict, ty_str_int, ty_str_str, ty_str_bool, ty_str_tuple, ty_str_list, ty_str_dict, ty_tup_int, ty_tup_str, ty_tup_bool, ty_tup_tuple, ty_tup_list, ty_tup_dict, ty_lst_int, ty_lst_str, ty_lst_bool, ty_lst_tuple, ty_lst_list, ty_lst_dict, ty_dct_int, ty_dct_str, ty_dct_bool, ty_dct_tuple, ty_dct_list, ty_dct_dict, ty_scr_int, ty_scr_str, ty_scr_bool, ty_scr_tuple, ty_scr_list, ty_scr_dict, ↓we_sm0, ↓we_sm1, ↓we_rev, wsm_upper, wsm_join, wsm_split, wsm_part, wrev_lst, wrev_tup, wrev_loc, seqV_tup, seqV_lst1, seqV_scr1, wsl_tup, wsl_str, wsl_lst, wsl_scr, wsl_loc, popO_0, wm_popAt, wq_tup, wq_lst, wq_scr, wq_str, wq_loc,      isNon_non, isNon_bl, isNon_int, isNon_str, isNon_tup, isNon_lst, isNon_dct,      asgt_name, asg_tup, asg_nil, asg_cons, setEach, some_bind, wipe_nil, wipe_cons, if_t, ite_true, ite_false, Bool.not_true, Bool.not_false, Bool.false_eq_true,      List.append_assoc, List.length_append, List.length_map, List.map_cons, List.map_nil, List.cons_append, List.nil_append, List.replicate_succ, List.replicate_zero, Nat.reduceSub, Nat.reduceAdd, Nat.reduceLT, Nat.reduceLeDiff, Nat.reduceEqDiff, List.length_cons, List.length_nil, List.getElem?_cons_zero, List.getElem?_cons_succ, List.set_cons_zero, List.set_cons_succ, $ts,*])
end DV

end
section
set_option Elab.async false
set_option linter.all false
set_option maxRecDepth 100000
set_option autoImplicit false
set_option maxHeartbeats 2000000
/-! A form's text read: what any text is read as, or the row at which it is refused. -/
namespace DV
open PySem (Str)
local macro_rules
  | `(tactic| simp_arith) => `(tactic| simp_arith [])
  | `(tactic| simp_arith [$ts,*]) => `(tactic| simp only [↓W_run, ↓ws_nil, ↓W_way, ↓ws_cons, ↓ws_asg, ↓ws_par, ↓ws_seti, ↓ws_aug, ↓ws_augi, ↓ws_expr, ↓ws_ret, ↓ws_retN, ↓ws_pass, ↓ws_brk, ↓ws_cont, ↓ws_if, ↓ws_while, ↓ws_for, ↓ws_turn,      ow_next, ow_ret, ow_brk, ow_cont, end_ret, end_next,      ↓we_var, ↓we_int, ↓we_bl, ↓we_str, ↓we_non, ↓we_con, ↓we_bin, ↓we_neg, ↓we_cmp, ↓we_cmp2, ↓we_isN, ↓we_notN, ↓we_not, ↓we_ife, ↓we_and, ↓we_or, ↓we_and1, ↓we_or1, ↓we_and2, ↓we_or2, ↓we_tup, ↓we_lst, ↓we_lstN, ↓we_dct,      ↓we_idx, ↓we_slc, ↓we_call, ↓we_bi, ↓we_mt, ↓we_nil, ↓we_cons, ↓we_oN, ↓we_oS, ↓we_cN, ↓we_cS, ↓we_lc, ↓we_turn, ↓we_seq, ↓we_rng1, ↓we_rng2, ↓we_rng3, ↓we_enum, ↓we_zip, ↓we_test,      Int.reduceLE, Int.reduceLT, Int.reduceAbs, log_lit, Nat.reducePow, Int.reduceToNat, Int.reducePow, Int.reduceAdd, Int.reduceSub, Int.reduceMul, Int.reduceNeg, Int.reduceEq, decide_true, decide_false, small62_iff, small61_iff, sizeMax_val, and_true, true_and, and_self, W_ok, WO_some, Way_t, Way_f, Way_not, Sd_t, isBool_bl, isInt_int,      wo_add, wo_sub, wo_mul, wo_fdiv, wo_mod, wo_pow, wo_addS, wo_addT, wo_addL, wo_addLo, wo_addLl, wo_mulS, wo_mulL, wo_mulT, wo_neg, wc_eqI, wc_neI, wc_ltI, wc_gtI, wc_leI, wc_geI, wc_eqS, wc_neS, wc_in, wc_notin,      wi_S, wi_tup, wi_lst, wi_scr, wi_loc, wi_lo, wi_do, at_0, at_1, at_2, at_3, at_4, at_5, at_if, int_ite,      wb_lenS, wb_lenT, wb_lenL, wb_lenScr, wb_lenLo, lenO_lst, lenO_dct, wb_abs, wb_intI, wb_intB, wb_bool, wb_strS, wb_strI, wb_min2, wb_max2, wb_tupT, wb_tupL, wb_tupLo, wb_list, w_listS, w_listT, w_listL, w_listScr, w_listD, w_dictD, ↓we_litems, w_litems, ↓we_isx, ↓we_fld, ↓we_dpop, ↓we_dget, ↓we_dclr, ↓we_tix, isDc_loc, dcO_dct, wd_pop, popX_dct, w_popV, wd_get, dctV_dct, dctV_loc, dctO_dct, Option.isSome_some, wd_clr, clrO_dct, w_pr2, ↓ws_swp, ↓we_lcD, w_isDct, ↓ws_forD, ↓we_zip3, W_newL0, W_newL1, W_newT,      wm_append, appO_lst, wm_extend, extO_lst, recv_loc, recvO_lst, ws_set, setO_lst, setO_dct, lstX_lst, lstX_loc, seqV_loc, lstV_loc, lstV_lst, lstV_scr, wi_str, ↓wdct_nil, ↓wdct_cons, W_newD0, W_newD1, keyOf_str, keyOf_int, dput_nil, ↓we_isi, ↓we_lrg, w_lrg, w_rng3N, w_rng32, ↓we_lset, ↓we_isB, w_isB, w_lsetT, w_lsetL, ↓we_orv, w_orI, w_orN, w_orB, w_only, wb_sum, wb_min, wb_max, wb_sorted, wb_dict, wm_index, w_augA, w_augS, ty_non_int, ty_non_str, ty_non_bool, ty_non_tuple, ty_non_list, ty_non_dict, ty_bl_int, ty_bl_str, ty_bl_bool, ty_bl_tuple, ty_bl_list, ty_bl_dict, ty_int_int, ty_int_str, ty_int_bool, ty_int_tuple, ty_int_list, ty_int_dict, ty_str_int, ty_str_str, ty_str_bool, ty_str_tuple, ty_str_list, ty_str_dict, ty_tup_int, ty_tup_str, ty_tup_bool, ty_tup_tuple, ty_tup_list, ty_tup_dict, ty_lst_int, ty_lst_str, ty_lst_bool, ty_lst_tuple, ty_lst_list, ty_lst_dict, ty_dct_int, ty_dct_str, ty_dct_bool, ty_dct_tuple, ty_dct_list, ty_dct_dict, ty_scr_int, ty_scr_str, ty_scr_bool, ty_scr_tuple, ty_scr_list, ty_scr_dict, ↓we_sm0, ↓we_sm1, ↓we_rev, wsm_upper, wsm_join, wsm_split, wsm_part, wrev_lst, wrev_tup, wrev_loc, seqV_tup, seqV_lst1, seqV_scr1, wsl_tup, wsl_str, wsl_lst, wsl_scr, wsl_loc, popO_0, wm_popAt, wq_tup, wq_lst, wq_scr, wq_str, wq_loc,      isNon_non, isNon_bl, isNon_int, isNon_str, isNon_tup, isNon_lst, isNon_dct,      asgt_name, asg_tup, asg_nil, asg_cons, setEach, some_bind, wipe_nil, wipe_cons, if_t, ite_true, ite_false, Bool.not_true, Bool.not_false, Bool.false_eq_true,      List.append_assoc, List.length_append, List.length_map, List.map_cons, List.map_nil, List.cons_append, List.nil_append, List.replicate_succ, List.replicate_zero, Nat.reduceSub, Nat.reduceAdd, Nat.reduceLT, Nat.reduceLeDiff, Nat.reduceEqDiff, List.length_cons, List.length_nil, List.getElem?_cons_zero, List.getElem?_cons_succ, List.set_cons_zero, List.set_cons_succ, $ts,*])
def dgt (w : Str) : Bool := w.cps.toList.all fun c => decide (48 ≤ c ∧ c ≤ 57)
def numVal (w : Str) : Nat := PySem.NumText.digitsVal w.cps.toList
def lead0 (w : Str) : Bool := decide (w.cps.toList.head? = some 48) && decide (1 < w.length)
def numGood (w : Str) : Bool := decide (1 ≤ w.length) && decide (w.length ≤ 30) && dgt w && !lead0 w
def numOf (w : Str) : Option Nat := if numGood w = true then some (numVal w) else none
/-! ### a text cut at a sign -/
/-! ### a row's numbers -/
def rowOf (row word : Str) : Option (List Nat) := match PySem.Txt.split row " " with
  | [] => none
  | w :: ps => if w = word then ps.mapM numOf else none
def encR : Option (List Nat) → D
  | none => .non
  | some ns => .tup (ns.map fun n : Nat => D.int n)
/-! ### is a row good -/
/-- the words of a form's rows -/
def fWords : List Str := ["seats", "rounds", "even", "per", "worths"]
section
variable {g : G} {s : Store}
end
/-! ### a form's text -/
/-- what the row k is read as -/
def oAt (rows : List Str) (k : Nat) : Option (List Nat) := match rows[k]?, fWords[k]? with
  | some row, some w => rowOf row w
  | _, _ => none
def hdN : Option (List Nat) → D
  | some (n :: _) => .int n
  | _ => .non
def formD (rows : List Str) : D := .tup [encR (oAt rows 0), hdN (oAt rows 1), hdN (oAt rows 2), hdN (oAt rows 3), encR (oAt rows 4)]
section
variable {g : G} {s m : Store}
end
end DV

end
section
set_option Elab.async false
set_option linter.all false
set_option maxRecDepth 100000
set_option autoImplicit false
set_option maxHeartbeats 2000000
/-! The program's reading of a table's text, total: what it reads or the row at which it refuses. -/
namespace DV
open PySem (Str)
local macro_rules
  | `(tactic| simp_arith) => `(tactic| simp_arith [])
  | `(tactic| simp_arith [$ts,*]) => `(tactic| simp only [↓W_run, ↓ws_nil, ↓W_way, ↓ws_cons, ↓ws_asg, ↓ws_par, ↓ws_seti, ↓ws_aug, ↓ws_augi, ↓ws_expr, ↓ws_ret, ↓ws_retN, ↓ws_pass, ↓ws_brk, ↓ws_cont, ↓ws_if, ↓ws_while, ↓ws_for, ↓ws_turn,      ow_next, ow_ret, ow_brk, ow_cont, end_ret, end_next,      ↓we_var, ↓we_int, ↓we_bl, ↓we_str, ↓we_non, ↓we_con, ↓we_bin, ↓we_neg, ↓we_cmp, ↓we_cmp2, ↓we_isN, ↓we_notN, ↓we_not, ↓we_ife, ↓we_and, ↓we_or, ↓we_and1, ↓we_or1, ↓we_and2, ↓we_or2, ↓we_tup, ↓we_lst, ↓we_lstN, ↓we_dct,      ↓we_idx, ↓we_slc, ↓we_call, ↓we_bi, ↓we_mt, ↓we_nil, ↓we_cons, ↓we_oN, ↓we_oS, ↓we_cN, ↓we_cS, ↓we_lc, ↓we_turn, ↓we_seq, ↓we_rng1, ↓we_rng2, ↓we_rng3, ↓we_enum, ↓we_zip, ↓we_test,      Int.reduceLE, Int.reduceLT, Int.reduceAbs, log_lit, Nat.reducePow, Int.reduceToNat, Int.reducePow, Int.reduceAdd, Int.reduceSub, Int.reduceMul, Int.reduceNeg, Int.reduceEq, decide_true, decide_false, small62_iff, small61_iff, sizeMax_val, and_true, true_and, and_self, W_ok, WO_some, Way_t, Way_f, Way_not, Sd_t, isBool_bl, isInt_int,      wo_add, wo_sub, wo_mul, wo_fdiv, wo_mod, wo_pow, wo_addS, wo_addT, wo_addL, wo_addLo, wo_addLl, wo_mulS, wo_mulL, wo_mulT, wo_neg, wc_eqI, wc_neI, wc_ltI, wc_gtI, wc_leI, wc_geI, wc_eqS, wc_neS, wc_in, wc_notin,      wi_S, wi_tup, wi_lst, wi_scr, wi_loc, wi_lo, wi_do, at_0, at_1, at_2, at_3, at_4, at_5, at_if, int_ite,      wb_lenS, wb_lenT, wb_lenL, wb_lenScr, wb_lenLo, lenO_lst, lenO_dct, wb_abs, wb_intI, wb_intB, wb_bool, wb_strS, wb_strI, wb_min2, wb_max2, wb_tupT, wb_tupL, wb_tupLo, wb_list, w_listS, w_listT, w_listL, w_listScr, w_listD, w_dictD, ↓we_litems, w_litems, ↓we_isx, ↓we_fld, ↓we_dpop, ↓we_dget, ↓we_dclr, ↓we_tix, isDc_loc, dcO_dct, wd_pop, popX_dct, w_popV, wd_get, dctV_dct, dctV_loc, dctO_dct, Option.isSome_some, wd_clr, clrO_dct, w_pr2, ↓ws_swp, ↓we_lcD, w_isDct, ↓ws_forD, ↓we_zip3, W_newL0, W_newL1, W_newT,      wm_append, appO_lst, wm_extend, extO_lst, recv_loc, recvO_lst, ws_set, setO_lst, setO_dct, lstX_lst, lstX_loc, seqV_loc, lstV_loc, lstV_lst, lstV_scr, wi_str, ↓wdct_nil, ↓wdct_cons, W_newD0, W_newD1, keyOf_str, keyOf_int, dput_nil, ↓we_isi, ↓we_lrg, w_lrg, w_rng3N, w_rng32, ↓we_lset, ↓we_isB, w_isB, w_lsetT, w_lsetL, ↓we_orv, w_orI, w_orN, w_orB, w_only, wb_sum, wb_min, wb_max, wb_sorted, wb_dict, wm_index, w_augA, w_augS, ty_non_int, ty_non_str, ty_non_bool, ty_non_tuple, ty_non_list, ty_non_dict, ty_bl_int, ty_bl_str, ty_bl_bool, ty_bl_tuple, ty_bl_list, ty_bl_dict, ty_int_int, ty_int_str, ty_int_bool, ty_int_tuple, ty_int_list, ty_int_dict, ty_str_int, ty_str_str, ty_str_bool, ty_str_tuple, ty_str_list, ty_str_dict, ty_tup_int, ty_tup_str, ty_tup_bool, ty_tup_tuple, ty_tup_list, ty_tup_dict, ty_lst_int, ty_lst_str, ty_lst_bool, ty_lst_tuple, ty_lst_list, ty_lst_dict, ty_dct_int, ty_dct_str, ty_dct_bool, ty_dct_tuple, ty_dct_list, ty_dct_dict, ty_scr_int, ty_scr_str, ty_scr_bool, ty_scr_tuple, ty_scr_list, ty_scr_dict, ↓we_sm0, ↓we_sm1, ↓we_rev, wsm_upper, wsm_join, wsm_split, wsm_part, wrev_lst, wrev_tup, wrev_loc, seqV_tup, seqV_lst1, seqV_scr1, wsl_tup, wsl_str, wsl_lst, wsl_scr, wsl_loc, popO_0, wm_popAt, wq_tup, wq_lst, wq_scr, wq_str, wq_loc,      isNon_non, isNon_bl, isNon_int, isNon_str, isNon_tup, isNon_lst, isNon_dct,      asgt_name, asg_tup, asg_nil, asg_cons, setEach, some_bind, wipe_nil, wipe_cons, if_t, ite_true, ite_false, Bool.not_true, Bool.not_false, Bool.false_eq_true,      List.append_assoc, List.length_append, List.length_map, List.map_cons, List.map_nil, List.cons_append, List.nil_append, List.replicate_succ, List.replicate_zero, Nat.reduceSub, Nat.reduceAdd, Nat.reduceLT, Nat.reduceLeDiff, Nat.reduceEqDiff, List.length_cons, List.length_nil, List.getElem?_cons_zero, List.getElem?_cons_succ, List.set_cons_zero, List.set_cons_succ, $ts,*])
section
variable {g : G} {s : Store}
/-! ### a standing, a pair, a row -/
/-! ### what can stand there -/
/-! ### the whole table -/
end
end DV

end
section
set_option Elab.async false
set_option linter.all false
set_option maxRecDepth 100000
set_option autoImplicit false
set_option maxHeartbeats 2000000
/-! Outcomes looked at, whatever they are: who is refused, and why. -/
namespace DV
open PySem (Str)
local macro_rules
  | `(tactic| simp_arith) => `(tactic| simp_arith [])
  | `(tactic| simp_arith [$ts,*]) => `(tactic| simp only [↓W_run, ↓ws_nil, ↓W_way, ↓ws_cons, ↓ws_asg, ↓ws_par, ↓ws_seti, ↓ws_aug, ↓ws_augi, ↓ws_expr, ↓ws_ret, ↓ws_retN, ↓ws_pass, ↓ws_brk, ↓ws_cont, ↓ws_if, ↓ws_while, ↓ws_for, ↓ws_turn,      ow_next, ow_ret, ow_brk, ow_cont, end_ret, end_next,      ↓we_var, ↓we_int, ↓we_bl, ↓we_str, ↓we_non, ↓we_con, ↓we_bin, ↓we_neg, ↓we_cmp, ↓we_cmp2, ↓we_isN, ↓we_notN, ↓we_not, ↓we_ife, ↓we_and, ↓we_or, ↓we_and1, ↓we_or1, ↓we_and2, ↓we_or2, ↓we_tup, ↓we_lst, ↓we_lstN, ↓we_dct,      ↓we_idx, ↓we_slc, ↓we_call, ↓we_bi, ↓we_mt, ↓we_nil, ↓we_cons, ↓we_oN, ↓we_oS, ↓we_cN, ↓we_cS, ↓we_lc, ↓we_turn, ↓we_seq, ↓we_rng1, ↓we_rng2, ↓we_rng3, ↓we_enum, ↓we_zip, ↓we_test,      Int.reduceLE, Int.reduceLT, Int.reduceAbs, log_lit, Nat.reducePow, Int.reduceToNat, Int.reducePow, Int.reduceAdd, Int.reduceSub, Int.reduceMul, Int.reduceNeg, Int.reduceEq, decide_true, decide_false, small62_iff, small61_iff, sizeMax_val, and_true, true_and, and_self, W_ok, WO_some, Way_t, Way_f, Way_not, Sd_t, isBool_bl, isInt_int,      wo_add, wo_sub, wo_mul, wo_fdiv, wo_mod, wo_pow, wo_addS, wo_addT, wo_addL, wo_addLo, wo_addLl, wo_mulS, wo_mulL, wo_mulT, wo_neg, wc_eqI, wc_neI, wc_ltI, wc_gtI, wc_leI, wc_geI, wc_eqS, wc_neS, wc_in, wc_notin,      wi_S, wi_tup, wi_lst, wi_scr, wi_loc, wi_lo, wi_do, at_0, at_1, at_2, at_3, at_4, at_5, at_if, int_ite,      wb_lenS, wb_lenT, wb_lenL, wb_lenScr, wb_lenLo, lenO_lst, lenO_dct, wb_abs, wb_intI, wb_intB, wb_bool, wb_strS, wb_strI, wb_min2, wb_max2, wb_tupT, wb_tupL, wb_tupLo, wb_list, w_listS, w_listT, w_listL, w_listScr, w_listD, w_dictD, ↓we_litems, w_litems, ↓we_isx, ↓we_fld, ↓we_dpop, ↓we_dget, ↓we_dclr, ↓we_tix, isDc_loc, dcO_dct, wd_pop, popX_dct, w_popV, wd_get, dctV_dct, dctV_loc, dctO_dct, Option.isSome_some, wd_clr, clrO_dct, w_pr2, ↓ws_swp, ↓we_lcD, w_isDct, ↓ws_forD, ↓we_zip3, W_newL0, W_newL1, W_newT,      wm_append, appO_lst, wm_extend, extO_lst, recv_loc, recvO_lst, ws_set, setO_lst, setO_dct, lstX_lst, lstX_loc, seqV_loc, lstV_loc, lstV_lst, lstV_scr, wi_str, ↓wdct_nil, ↓wdct_cons, W_newD0, W_newD1, keyOf_str, keyOf_int, dput_nil, ↓we_isi, ↓we_lrg, w_lrg, w_rng3N, w_rng32, ↓we_lset, ↓we_isB, w_isB, w_lsetT, w_lsetL, ↓we_orv, w_orI, w_orN, w_orB, w_only, wb_sum, wb_min, wb_max, wb_sorted, wb_dict, wm_index, w_augA, w_augS, ty_non_int, ty_non_str, ty_non_bool, ty_non_tuple, ty_non_list, ty_non_dict, ty_bl_int, ty_bl_str, ty_bl_bool, ty_bl_tuple, ty_bl_list, ty_bl_dict, ty_int_int, ty_int_str, ty_int_bool, ty_int_tuple, ty_int_list, ty_int_dict, ty_str_int, ty_str_str, ty_str_bool, ty_str_tuple, ty_str_list, ty_str_dict, ty_tup_int, ty_tup_str, ty_tup_bool, ty_tup_tuple, ty_tup_list, ty_tup_dict, ty_lst_int, ty_lst_str, ty_lst_bool, ty_lst_tuple, ty_lst_list, ty_lst_dict, ty_dct_int, ty_dct_str, ty_dct_bool, ty_dct_tuple, ty_dct_list, ty_dct_dict, ty_scr_int, ty_scr_str, ty_scr_bool, ty_scr_tuple, ty_scr_list, ty_scr_dict, ↓we_sm0, ↓we_sm1, ↓we_rev, wsm_upper, wsm_join, wsm_split, wsm_part, wrev_lst, wrev_tup, wrev_loc, seqV_tup, seqV_lst1, seqV_scr1, wsl_tup, wsl_str, wsl_lst, wsl_scr, wsl_loc, popO_0, wm_popAt, wq_tup, wq_lst, wq_scr, wq_str, wq_loc,      isNon_non, isNon_bl, isNon_int, isNon_str, isNon_tup, isNon_lst, isNon_dct,      asgt_name, asg_tup, asg_nil, asg_cons, setEach, some_bind, wipe_nil, wipe_cons, if_t, ite_true, ite_false, Bool.not_true, Bool.not_false, Bool.false_eq_true,      List.append_assoc, List.length_append, List.length_map, List.map_cons, List.map_nil, List.cons_append, List.nil_append, List.replicate_succ, List.replicate_zero, Nat.reduceSub, Nat.reduceAdd, Nat.reduceLT, Nat.reduceLeDiff, Nat.reduceEqDiff, List.length_cons, List.length_nil, List.getElem?_cons_zero, List.getElem?_cons_succ, List.set_cons_zero, List.set_cons_succ, $ts,*])
section
variable {g : G} {s : Store}
def isIntD : D → Bool
  | .int _ => true
  | _ => false
def SpWholeD (F : Fun) : Prop := ∀ (d : D) (s : Store), StOk s → d.under 0 = true → W (F [d] s) fun p => p = (.bl (isIntD d), s)
theorem wholeDP : SpWholeD (runF g dP_is_whole) := by
  intro d s ok hd
  unfold dP_is_whole
  cases d with
  | loc l => simp [D.under] at hd
  | _ =>
    simp_arith
    exact W_fin0 ok rfl rfl
/-! ### what is told of names -/
abbrev KvD := List (Str × D)
def encD (kvs : KvD) : List (Key × D) := kvs.map fun p => (.inr p.1, p.2)
/-- the dict, or the place of one -/
def IsD (o : D) (kvs : KvD) (s : Store) : Prop := o = .dct (encD kvs) ∨ ∃ l, o = .loc l ∧ s[l]? = some (.dct (encD kvs))
theorem IsD.dct {o : D} {kvs : KvD} {m : Store} (h : IsD o kvs m) : dctV m o = some (encD kvs) := by
  rcases h with rfl | ⟨l, rfl, h⟩
  · rfl
  · simp [dctV, h]
theorem IsD.app {o : D} {kvs : KvD} {m ls : Store} (h : IsD o kvs m) : IsD o kvs (m ++ ls) := by
  rcases h with rfl | ⟨l, rfl, h⟩
  · exact .inl rfl
  · exact .inr ⟨l, rfl, by rw [List.getElem?_append_left (List.getElem?_eq_some_iff.mp h).1]; exact h⟩
def thereS (s : Store) (rs : List Std) : Store := s ++ [.dct (rs.map fun r => ((Sum.inr r.name : Key), D.bl true))]
theorem IsD.there {o : D} {kvs : KvD} {rs : List Std} (h : IsD o kvs s) : IsD o kvs (thereS s rs) := h.app
end
end DV

end
section
set_option Elab.async false
set_option linter.all false
set_option maxRecDepth 100000
set_option autoImplicit false
set_option maxHeartbeats 2000000
/-! Claims, new tables, papers and why: what is refused. -/
namespace DV
open PySem (Str)
local macro_rules
  | `(tactic| simp_arith) => `(tactic| simp_arith [])
  | `(tactic| simp_arith [$ts,*]) => `(tactic| simp only [↓W_run, ↓ws_nil, ↓W_way, ↓ws_cons, ↓ws_asg, ↓ws_par, ↓ws_seti, ↓ws_aug, ↓ws_augi, ↓ws_expr, ↓ws_ret, ↓ws_retN, ↓ws_pass, ↓ws_brk, ↓ws_cont, ↓ws_if, ↓ws_while, ↓ws_for, ↓ws_turn,      ow_next, ow_ret, ow_brk, ow_cont, end_ret, end_next,      ↓we_var, ↓we_int, ↓we_bl, ↓we_str, ↓we_non, ↓we_con, ↓we_bin, ↓we_neg, ↓we_cmp, ↓we_cmp2, ↓we_isN, ↓we_notN, ↓we_not, ↓we_ife, ↓we_and, ↓we_or, ↓we_and1, ↓we_or1, ↓we_and2, ↓we_or2, ↓we_tup, ↓we_lst, ↓we_lstN, ↓we_dct,      ↓we_idx, ↓we_slc, ↓we_call, ↓we_bi, ↓we_mt, ↓we_nil, ↓we_cons, ↓we_oN, ↓we_oS, ↓we_cN, ↓we_cS, ↓we_lc, ↓we_turn, ↓we_seq, ↓we_rng1, ↓we_rng2, ↓we_rng3, ↓we_enum, ↓we_zip, ↓we_test,      Int.reduceLE, Int.reduceLT, Int.reduceAbs, log_lit, Nat.reducePow, Int.reduceToNat, Int.reducePow, Int.reduceAdd, Int.reduceSub, Int.reduceMul, Int.reduceNeg, Int.reduceEq, decide_true, decide_false, small62_iff, small61_iff, sizeMax_val, and_true, true_and, and_self, W_ok, WO_some, Way_t, Way_f, Way_not, Sd_t, isBool_bl, isInt_int,      wo_add, wo_sub, wo_mul, wo_fdiv, wo_mod, wo_pow, wo_addS, wo_addT, wo_addL, wo_addLo, wo_addLl, wo_mulS, wo_mulL, wo_mulT, wo_neg, wc_eqI, wc_neI, wc_ltI, wc_gtI, wc_leI, wc_geI, wc_eqS, wc_neS, wc_in, wc_notin,      wi_S, wi_tup, wi_lst, wi_scr, wi_loc, wi_lo, wi_do, at_0, at_1, at_2, at_3, at_4, at_5, at_if, int_ite,      wb_lenS, wb_lenT, wb_lenL, wb_lenScr, wb_lenLo, lenO_lst, lenO_dct, wb_abs, wb_intI, wb_intB, wb_bool, wb_strS, wb_strI, wb_min2, wb_max2, wb_tupT, wb_tupL, wb_tupLo, wb_list, w_listS, w_listT, w_listL, w_listScr, w_listD, w_dictD, ↓we_litems, w_litems, ↓we_isx, ↓we_fld, ↓we_dpop, ↓we_dget, ↓we_dclr, ↓we_tix, isDc_loc, dcO_dct, wd_pop, popX_dct, w_popV, wd_get, dctV_dct, dctV_loc, dctO_dct, Option.isSome_some, wd_clr, clrO_dct, w_pr2, ↓ws_swp, ↓we_lcD, w_isDct, ↓ws_forD, ↓we_zip3, W_newL0, W_newL1, W_newT,      wm_append, appO_lst, wm_extend, extO_lst, recv_loc, recvO_lst, ws_set, setO_lst, setO_dct, lstX_lst, lstX_loc, seqV_loc, lstV_loc, lstV_lst, lstV_scr, wi_str, ↓wdct_nil, ↓wdct_cons, W_newD0, W_newD1, keyOf_str, keyOf_int, dput_nil, ↓we_isi, ↓we_lrg, w_lrg, w_rng3N, w_rng32, ↓we_lset, ↓we_isB, w_isB, w_lsetT, w_lsetL, ↓we_orv, w_orI, w_orN, w_orB, w_only, wb_sum, wb_min, wb_max, wb_sorted, wb_dict, wm_index, w_augA, w_augS, ty_non_int, ty_non_str, ty_non_bool, ty_non_tuple, ty_non_list, ty_non_dict, ty_bl_int, ty_bl_str, ty_bl_bool, ty_bl_tuple, ty_bl_list, ty_bl_dict, ty_int_int, ty_int_str, ty_int_bool, ty_int_tuple, ty_int_list, ty_int_dict, ty_str_int, ty_str_str, ty_str_bool, ty_str_tuple, ty_str_list, ty_str_dict, ty_tup_int, ty_tup_str, ty_tup_bool, ty_tup_tuple, ty_tup_list, ty_tup_dict, ty_lst_int, ty_lst_str, ty_lst_bool, ty_lst_tuple, ty_lst_list, ty_lst_dict, ty_dct_int, ty_dct_str, ty_dct_bool, ty_dct_tuple, ty_dct_list, ty_dct_dict, ty_scr_int, ty_scr_str, ty_scr_bool, ty_scr_tuple, ty_scr_list, ty_scr_dict, ↓we_sm0, ↓we_sm1, ↓we_rev, wsm_upper, wsm_join, wsm_split, wsm_part, wrev_lst, wrev_tup, wrev_loc, seqV_tup, seqV_lst1, seqV_scr1, wsl_tup, wsl_str, wsl_lst, wsl_scr, wsl_loc, popO_0, wm_popAt, wq_tup, wq_lst, wq_scr, wq_str, wq_loc,      isNon_non, isNon_bl, isNon_int, isNon_str, isNon_tup, isNon_lst, isNon_dct,      asgt_name, asg_tup, asg_nil, asg_cons, setEach, some_bind, wipe_nil, wipe_cons, if_t, ite_true, ite_false, Bool.not_true, Bool.not_false, Bool.false_eq_true,      List.append_assoc, List.length_append, List.length_map, List.map_cons, List.map_nil, List.cons_append, List.nil_append, List.replicate_succ, List.replicate_zero, Nat.reduceSub, Nat.reduceAdd, Nat.reduceLT, Nat.reduceLeDiff, Nat.reduceEqDiff, List.length_cons, List.length_nil, List.getElem?_cons_zero, List.getElem?_cons_succ, List.set_cons_zero, List.set_cons_succ, $ts,*])
section
variable {g : G} {r : Fr} {m m' s : Store} {c : String} {fs : List (Str × D)}
/-! ### good outcomes -/
/-! ### why of whatever is asked -/
end
end DV

end
section
set_option Elab.async false
set_option linter.all false
set_option maxRecDepth 100000
set_option autoImplicit false
set_option maxHeartbeats 2000000
/-! Things with one place otherwise: the laws' _law_odd, _law_bent -/
namespace DV
open PySem (Str PyData)
local macro_rules
  | `(tactic| simp_arith) => `(tactic| simp_arith [])
  | `(tactic| simp_arith [$ts,*]) => `(tactic| simp only [↓W_run, ↓ws_nil, ↓W_way, ↓ws_cons, ↓ws_asg, ↓ws_par, ↓ws_seti, ↓ws_aug, ↓ws_augi, ↓ws_expr, ↓ws_ret, ↓ws_retN, ↓ws_pass, ↓ws_brk, ↓ws_cont, ↓ws_if, ↓ws_while, ↓ws_for, ↓ws_turn,      ow_next, ow_ret, ow_brk, ow_cont, end_ret, end_next,      ↓we_var, ↓we_int, ↓we_bl, ↓we_str, ↓we_non, ↓we_con, ↓we_bin, ↓we_neg, ↓we_cmp, ↓we_cmp2, ↓we_isN, ↓we_notN, ↓we_not, ↓we_ife, ↓we_and, ↓we_or, ↓we_and1, ↓we_or1, ↓we_and2, ↓we_or2, ↓we_tup, ↓we_lst, ↓we_lstN, ↓we_dct,      ↓we_idx, ↓we_slc, ↓we_call, ↓we_bi, ↓we_mt, ↓we_nil, ↓we_cons, ↓we_oN, ↓we_oS, ↓we_cN, ↓we_cS, ↓we_lc, ↓we_turn, ↓we_seq, ↓we_rng1, ↓we_rng2, ↓we_rng3, ↓we_enum, ↓we_zip, ↓we_test,      Int.reduceLE, Int.reduceLT, Int.reduceAbs, log_lit, Nat.reducePow, Int.reduceToNat, Int.reducePow, Int.reduceAdd, Int.reduceSub, Int.reduceMul, Int.reduceNeg, Int.reduceEq, decide_true, decide_false, small62_iff, small61_iff, sizeMax_val, and_true, true_and, and_self, W_ok, WO_some, Way_t, Way_f, Way_not, Sd_t, isBool_bl, isInt_int,      wo_add, wo_sub, wo_mul, wo_fdiv, wo_mod, wo_pow, wo_addS, wo_addT, wo_addL, wo_addLo, wo_addLl, wo_mulS, wo_mulL, wo_mulT, wo_neg, wc_eqI, wc_neI, wc_ltI, wc_gtI, wc_leI, wc_geI, wc_eqS, wc_neS, wc_in, wc_notin,      wi_S, wi_tup, wi_lst, wi_scr, wi_loc, wi_lo, wi_do, at_0, at_1, at_2, at_3, at_4, at_5, at_if, int_ite,      wb_lenS, wb_lenT, wb_lenL, wb_lenScr, wb_lenLo, lenO_lst, lenO_dct, wb_abs, wb_intI, wb_intB, wb_bool, wb_strS, wb_strI, wb_min2, wb_max2, wb_tupT, wb_tupL, wb_tupLo, wb_list, w_listS, w_listT, w_listL, w_listScr, w_listD, w_dictD, ↓we_litems, w_litems, ↓we_isx, ↓we_fld, ↓we_dpop, ↓we_dget, ↓we_dclr, ↓we_tix, isDc_loc, dcO_dct, wd_pop, popX_dct, w_popV, wd_get, dctV_dct, dctV_loc, dctO_dct, Option.isSome_some, wd_clr, clrO_dct, w_pr2, ↓ws_swp, ↓we_lcD, w_isDct, ↓ws_forD, ↓we_zip3, W_newL0, W_newL1, W_newT,      wm_append, appO_lst, wm_extend, extO_lst, recv_loc, recvO_lst, ws_set, setO_lst, setO_dct, lstX_lst, lstX_loc, seqV_loc, lstV_loc, lstV_lst, lstV_scr, wi_str, ↓wdct_nil, ↓wdct_cons, W_newD0, W_newD1, keyOf_str, keyOf_int, dput_nil, ↓we_isi, ↓we_lrg, w_lrg, w_rng3N, w_rng32, ↓we_lset, ↓we_isB, w_isB, w_lsetT, w_lsetL, ↓we_orv, w_orI, w_orN, w_orB, w_only, wb_sum, wb_min, wb_max, wb_sorted, wb_dict, wm_index, w_augA, w_augS, ty_non_int, ty_non_str, ty_non_bool, ty_non_tuple, ty_non_list, ty_non_dict, ty_bl_int, ty_bl_str, ty_bl_bool, ty_bl_tuple, ty_bl_list, ty_bl_dict, ty_int_int, ty_int_str, ty_int_bool, ty_int_tuple, ty_int_list, ty_int_dict, ty_str_int, ty_str_str, ty_str_bool, ty_str_tuple, ty_str_list, ty_str_dict, ty_tup_int, ty_tup_str, ty_tup_bool, ty_tup_tuple, ty_tup_list, ty_tup_dict, ty_lst_int, ty_lst_str, ty_lst_bool, ty_lst_tuple, ty_lst_list, ty_lst_dict, ty_dct_int, ty_dct_str, ty_dct_bool, ty_dct_tuple, ty_dct_list, ty_dct_dict, ty_scr_int, ty_scr_str, ty_scr_bool, ty_scr_tuple, ty_scr_list, ty_scr_dict, ↓we_sm0, ↓we_sm1, ↓we_rev, wsm_upper, wsm_join, wsm_split, wsm_part, wrev_lst, wrev_tup, wrev_loc, seqV_tup, seqV_lst1, seqV_scr1, wsl_tup, wsl_str, wsl_lst, wsl_scr, wsl_loc, popO_0, wm_popAt, wq_tup, wq_lst, wq_scr, wq_str, wq_loc,      isNon_non, isNon_bl, isNon_int, isNon_str, isNon_tup, isNon_lst, isNon_dct,      asgt_name, asg_tup, asg_nil, asg_cons, setEach, some_bind, wipe_nil, wipe_cons, if_t, ite_true, ite_false, Bool.not_true, Bool.not_false, Bool.false_eq_true,      List.append_assoc, List.length_append, List.length_map, List.map_cons, List.map_nil, List.cons_append, List.nil_append, List.replicate_succ, List.replicate_zero, Nat.reduceSub, Nat.reduceAdd, Nat.reduceLT, Nat.reduceLeDiff, Nat.reduceEqDiff, List.length_cons, List.length_nil, List.getElem?_cons_zero, List.getElem?_cons_succ, List.set_cons_zero, List.set_cons_succ, $ts,*])
def dOdd : FD := ⟨2, 7, true, .cons (.if_ (.isi .tuple (.var 1)) (.cons (.asg (.name 2) (.call "_law_take" (.cons (.var 0) (.cons (.bin false .add (.bi false .len (.cons (.var 1) .nil)) (.int 1)) .nil)))) (.cons (.asg (.name 3) (.lst false (.cons (.bin false .add (.slc false (.var 1) .none (.some (.var 2))) (.slc false (.var 1) (.some (.bin false .add (.var 2) (.int 1))) .none)) (.cons (.bin false .add (.slc false (.var 1) .none (.some (.bin false .add (.var 2) (.int 1)))) (.slc false (.var 1) (.some (.var 2)) .none)) (.cons (.rev false (.var 1)) (.cons (.bi false .list (.cons (.var 1) .nil)) (.cons (.tup .nil) .nil))))))) (.cons (.ret (.call "_law_pick" (.cons (.var 0) (.cons (.bin false .add (.var 3) (.lst false (.cons (.bin false .add (.slc false (.var 1) (.some (.var 2)) .none) (.slc false (.var 1) .none (.some (.var 2)))) (.cons (.bin false .add (.var 1) (.tup (.cons .non .nil))) (.cons (.bin false .add (.var 1) (.tup (.cons (.tup .nil) .nil))) (.cons (.tup (.cons (.var 1) .nil)) (.cons (.slc false (.var 1) .none (.some (.int 1))) .nil))))))) .nil)))) .nil))) .nil) (.cons (.if_ (.isi .str (.var 1)) (.cons (.par [2, 4] (.cons (.call "_law_take" (.cons (.var 0) (.cons (.bin false .add (.bi false .len (.cons (.var 1) .nil)) (.int 1)) .nil))) (.cons (.str " !\"#$&'()*+,-./0129:;<=>?@ABZ[\\]^_`abcmnxyz{|}~\n") .nil))) (.cons (.asg (.name 5) (.call "_law_pick" (.cons (.var 0) (.cons (.var 4) .nil)))) (.cons (.asg (.name 3) (.lst false (.cons (.bin false .add (.bin false .add (.slc false (.var 1) .none (.some (.var 2))) (.var 5)) (.slc false (.var 1) (.some (.bin false .add (.var 2) (.int 1))) .none)) (.cons (.bin false .add (.bin false .add (.slc false (.var 1) .none (.some (.var 2))) (.var 5)) (.slc false (.var 1) (.some (.var 2)) .none)) (.cons (.slc false (.var 1) .none (.some (.var 2))) (.cons (.slc false (.var 1) (.some (.var 2)) .none) .nil)))))) (.cons (.ret (.call "_law_pick" (.cons (.var 0) (.cons (.bin false .add (.var 3) (.lst false (.cons (.bin false .add (.var 1) (.str "abcdefghijkl")) (.cons (.sm0 .upper (.var 1)) (.cons .non (.cons (.int 0) (.cons (.tup (.cons (.var 1) .nil)) .nil))))))) .nil)))) .nil)))) .nil) (.cons (.if_ (.isN (.var 1)) (.cons (.ret (.call "_law_pick" (.cons (.var 0) (.cons (.lst false (.cons (.int 0) (.cons (.tup .nil) (.cons (.bl false) (.cons (.str "") .nil))))) .nil)))) .nil) .nil) (.cons (.asg (.name 6) (.bi false .int (.cons (.var 1) .nil))) (.cons (.asg (.name 3) (.lst false (.cons (.bin false .add (.var 6) (.int 1)) (.cons (.bin false .sub (.var 6) (.int 1)) (.cons (.bin false .sub (.int 0) (.var 6)) (.cons (.int 0) (.cons (.cmp .eq (.var 6) (.int 1)) (.cons (.cmp .ne (.var 6) (.int 1)) (.cons .non (.cons (.bi false .str (.cons (.var 6) .nil)) (.cons (.tup (.cons (.var 6) .nil)) .nil))))))))))) (.cons (.ret (.call "_law_pick" (.cons (.var 0) (.cons (.bin false .add (.var 3) (.lst false (.cons (.bin false .add (.var 6) (.int 30)) (.cons (.bin false .mul (.var 6) (.int 2)) .nil)))) .nil)))) .nil)))))⟩
def dBent (n : String) : FD := ⟨2, 3, true, .cons (.if_ (.and (.cons (.isi .tuple (.var 1)) (.cons (.cmp .ne (.var 1) (.tup .nil)) (.cons (.cmp .gt (.call "_law_take" (.cons (.var 0) (.cons (.int 4) .nil))) (.int 0)) .nil)))) (.cons (.asg (.name 2) (.call "_law_take" (.cons (.var 0) (.cons (.bi false .len (.cons (.var 1) .nil)) .nil)))) (.cons (.ret (.bin false .add (.bin false .add (.slc false (.var 1) .none (.some (.var 2))) (.tup (.cons (.call n (.cons (.var 0) (.cons (.idx (.var 1) (.var 2)) .nil))) .nil))) (.slc false (.var 1) (.some (.bin false .add (.var 2) (.int 1))) .none))) .nil)) .nil) (.cons (.ret (.call "_law_odd" (.cons (.var 0) (.cons (.var 1) .nil)))) .nil)⟩
mutual
/-- a tree without dicts, its texts and rows not too long -/
def D.fine : D → Bool
  | .non => true | .bl _ => true | .int _ => true
  | .str x => decide (x.length ≤ 1000)
  | .tup xs => decide (xs.length ≤ 1000) && fines xs
  | .lst xs => decide (xs.length ≤ 1000) && fines xs
  | _ => false
def fines : List D → Bool
  | [] => true
  | x :: xs => x.fine && fines xs
end
theorem fines_iff : ∀ {xs : List D}, fines xs = true ↔ ∀ x ∈ xs, x.fine = true
  | [] => by simp [fines]
  | x :: xs => by simp [fines, fines_iff (xs := xs)]
theorem fine_tup {xs : List D} : (D.tup xs).fine = true ↔ xs.length ≤ 1000 ∧ ∀ x ∈ xs, x.fine = true := by
  rw [D.fine, Bool.and_eq_true, decide_eq_true_eq, fines_iff]
theorem fine_lst {xs : List D} : (D.lst xs).fine = true ↔ xs.length ≤ 1000 ∧ ∀ x ∈ xs, x.fine = true := by
  rw [D.fine, Bool.and_eq_true, decide_eq_true_eq, fines_iff]
theorem fine_str {x : Str} : (D.str x).fine = true ↔ x.length ≤ 1000 := by rw [D.fine, decide_eq_true_eq]
mutual
theorem fine_nd : ∀ {d : D}, d.fine = true → d.nd = true
  | .non, _ => rfl
  | .bl _, _ => rfl
  | .int _, _ => rfl
  | .str _, _ => rfl
  | .tup xs, h => by rw [D.fine, Bool.and_eq_true] at h; rw [D.nd]; exact fines_nd h.2
  | .lst xs, h => by rw [D.fine, Bool.and_eq_true] at h; rw [D.nd]; exact fines_nd h.2
  | .dct _, h => by simp [D.fine] at h
  | .loc _, h => by simp [D.fine] at h
  | .scr _, h => by simp [D.fine] at h
theorem fines_nd : ∀ {xs : List D}, fines xs = true → nds xs = true
  | [], _ => rfl
  | x :: xs, h => by rw [fines, Bool.and_eq_true] at h; rw [nds, fine_nd h.1, fines_nd h.2]; rfl
end
theorem fine_under {n : Nat} {d : D} (h : d.fine = true) : d.under n = true := under_nd d (fine_nd h)
inductive Bt : Nat → D → Prop where
  | non {k : Nat} : Bt k .non
  | bl {k : Nat} {b : Bool} : Bt k (.bl b)
  | int {k : Nat} {i : Int} (h0 : -1000000000000000000000000000000000000000000000000000000000000 < i) (h1 : i < 1000000000000000000000000000000000000000000000000000000000000) : Bt k (.int i)
  | str {k : Nat} {x : Str} (h : x.length ≤ 60) : Bt k (.str x)
  | tup {k : Nat} {xs : List D} (h : ∀ x ∈ xs, Bt k x) (hl : xs.length ≤ 100) : Bt (k + 1) (.tup xs)
theorem Bt.fine {k : Nat} {d : D} (h : Bt k d) : d.fine = true := by
  induction h with
  | non => rfl
  | bl => rfl
  | int _ _ => rfl
  | str h => exact fine_str.mpr (by omega)
  | tup h hl ih => exact fine_tup.mpr ⟨by omega, ih⟩
theorem log_i {i : Int} (h0 : -1000000000000000000000000000000000000000000000000000000000000 < i) (h1 : i < 1000000000000000000000000000000000000000000000000000000000000) : i.natAbs.log2 < 1920 := by
  have h : i.natAbs < 1000000000000000000000000000000000000000000000000000000000000 := by omega
  by_cases hz : i.natAbs = 0
  · rw [hz]; decide
  · exact Nat.lt_trans ((Nat.log2_lt hz).mpr (Nat.lt_trans h (by decide : _ < 2 ^ 200))) (by decide)
theorem str_i {i : Int} (h0 : -1000000000000000000000000000000000000000000000000000000000000 < i) (h1 : i < 1000000000000000000000000000000000000000000000000000000000000) : (Str.ofString (toString i)).length ≤ 80 := by
  have h : i.natAbs < 1000000000000000000000000000000000000000000000000000000000000 := by omega
  have e := PySem.int_text_length_le10 (a := i) (k := 79) (by decide) (Nat.lt_trans h (by decide))
  rw [PySem.ofString_length]
  exact e
section
variable {K : Kind} {l : Nat} {g : G}
theorem oddP (hT : HasT K (g.fn "_law_take")) (hP : HasP K (g.fn "_law_pick")) (hS : HasPS K (g.fn "_law_pick")) {k : Nat} {d : D} (h : Bt k d) : Draws K l 3 (fun v => v.fine = true) (runF g dOdd [.loc l, d]) := by
  unfold dOdd
  refine Draws.run rfl fun b n os s hd => ?_
  have hd0 := hd
  have hf := h.fine
  have hall : ∀ {zs ws : List D}, (∀ z ∈ zs, z.fine = true) → (∀ z ∈ ws, z.fine = true) → ∀ z ∈ zs ++ ws, z.fine = true := fun h1 h2 z hz => (List.mem_append.mp hz).elim (h1 z) (h2 z)
  cases h with
  | @tup k xs h hl =>
    have hx : ∀ x ∈ xs, x.fine = true := (fine_tup.mp hf).2
    have hc : ∀ lo hi, (cut xs lo hi).length ≤ 100 := fun lo hi => Nat.le_trans (cut_len xs lo hi) hl
    have hz : ∀ lo hi, ∀ x ∈ cut xs lo hi, x.fine = true := fun lo hi x h => hx x (mem_cut h)
    have c1' : ∀ lo hi, ((cut xs lo hi).length ≤ 16777216) = True := fun lo hi => eq_true (by have := hc lo hi; omega)
    have c2' : ∀ lo hi lo' hi', ((cut xs lo hi).length + (cut xs lo' hi').length ≤ 16777216) = True := fun lo hi lo' hi' => eq_true (by have := hc lo hi; have := hc lo' hi'; omega)
    have c3' : (xs.length ≤ 16777216) = True := eq_true (by omega)
    have c4' : (xs.length + 1 ≤ 16777216) = True := eq_true (by omega)
    simp_arith
    refine take_k hT (by omega) (by omega) hd (fun s1 c hd c0 c1 => ?_)
    have c5' : (xs.reverse.length ≤ 16777216) = True := eq_true (by rw [List.length_reverse]; omega)
    simp_arith [c1', c2', c3', c4', c5', List.length_append, Sd_t]
    have all : ∀ x ∈ ([D.tup (cut xs none (some c) ++ cut xs (some (c + 1)) none), D.tup (cut xs none (some (c + 1)) ++ cut xs (some c) none), D.tup xs.reverse, D.lst xs, D.tup [], D.tup (cut xs (some c) none ++ cut xs none (some c)), D.tup (xs ++ [D.non]), D.tup (xs ++ [D.tup []]), D.tup [D.tup xs], D.tup (cut xs none (some 1))] : List D), x.fine = true := by
      intro x hm
      simp only [List.mem_cons, List.not_mem_nil, or_false] at hm
      have ap : ∀ {zs ws : List D}, (∀ z ∈ zs, z.fine = true) → (∀ z ∈ ws, z.fine = true) → zs.length ≤ 200 → ws.length ≤ 200 → (D.tup (zs ++ ws)).fine = true := fun h1 h2 h3 h4 => fine_tup.mpr ⟨by rw [List.length_append]; omega, hall h1 h2⟩
      have l1 := fun lo hi => Nat.le_trans (hc lo hi) (show 100 ≤ 200 by omega)
      rcases hm with rfl | rfl | rfl | rfl | rfl | rfl | rfl | rfl | rfl | rfl
      · exact ap (hz _ _) (hz _ _) (l1 _ _) (l1 _ _)
      · exact ap (hz _ _) (hz _ _) (l1 _ _) (l1 _ _)
      · exact fine_tup.mpr ⟨by rw [List.length_reverse]; omega, fun x h => hx x (List.mem_reverse.mp h)⟩
      · exact fine_lst.mpr ⟨by omega, hx⟩
      · rfl
      · exact ap (hz _ _) (hz _ _) (l1 _ _) (l1 _ _)
      · exact ap hx (by simp [D.fine]) (by omega) (by simp)
      · exact ap hx (by simp [D.fine, fines]) (by omega) (by simp)
      · exact fine_tup.mpr ⟨by simp, by simpa using hf⟩
      · exact fine_tup.mpr ⟨by have := hc none (some 1); omega, hz _ _⟩
    refine pick_k hP (xs := [D.tup (cut xs none (some c) ++ cut xs (some (c + 1)) none), D.tup (cut xs none (some (c + 1)) ++ cut xs (some c) none), D.tup xs.reverse, D.lst xs, D.tup [], D.tup (cut xs (some c) none ++ cut xs none (some c)), D.tup (xs ++ [D.non]), D.tup (xs ++ [D.tup []]), D.tup [D.tup xs], D.tup (cut xs none (some 1))]) (by simp) (by simp) (fun x hm => fine_under (all x hm)) (hd.drop (n := n + 1 + 1) (by omega)) (fun s2 v hd hm => ?_)
    have hv : v.fine = true := all v hm
    simp_arith
    exact W_finH hd0 hd (fine_under hv) ⟨hd.drop (by omega), hv⟩
  | @str k x h =>
    have hc : ∀ lo hi, (cutStr x lo hi).length ≤ 60 := fun lo hi => Nat.le_trans (slice_len x lo hi) h
    have hu : (PySem.Txt.upper x).length ≤ 180 := by have := PyProof.Rows.len_upper x; omega
    have c1' : ∀ lo hi k, k ≤ 16777000 → ((cutStr x lo hi).length + k ≤ 16777216) = True := fun lo hi k hk => eq_true (by have := hc lo hi; omega)
    have c3' : ∀ lo hi, ((cutStr x lo hi).length ≤ 16777215) = True := fun lo hi => eq_true (by have := hc lo hi; omega)
    have c2' : ∀ lo hi lo' hi', ((cutStr x lo hi).length + 1 + (cutStr x lo' hi').length ≤ 16777216) = True := fun lo hi lo' hi' => eq_true (by have := hc lo hi; have := hc lo' hi'; omega)
    have c4' : (x.length ≤ 1000000) = True := eq_true (by omega)
    simp_arith [show x.length ≤ 16777216 by omega]
    refine take_k hT (by omega) (by omega) hd (fun s1 c hd c0 c1 => ?_)
    simp_arith
    refine pickS_k hS (by decide) (by decide) hd (fun s1 e hd he => ?_)
    have hab : (Str.ofString "abcdefghijkl").length = 12 := rfl
    have c5' : (x.length + 12 ≤ 16777216) = True := eq_true (by omega)
    simp_arith [sign_str, sgn_len, show x.length ≤ 16777216 by omega, c1', c2', c3', c4', c5', hab, PySem.strLen_append, Sd_t]
    have all : ∀ v ∈ ([D.str (cutStr x none (some c) ++ sgn e ++ cutStr x (some (c + 1)) none), D.str (cutStr x none (some c) ++ sgn e ++ cutStr x (some c) none), D.str (cutStr x none (some c)), D.str (cutStr x (some c) none), D.str (x ++ "abcdefghijkl"), D.str (PySem.Txt.upper x), D.non, D.int 0, D.tup [D.str x]] : List D), v.fine = true := by
      intro v hm
      simp only [List.mem_cons, List.not_mem_nil, or_false] at hm
      rcases hm with rfl | rfl | rfl | rfl | rfl | rfl | rfl | rfl | rfl
      · exact fine_str.mpr (by rw [PySem.strLen_append, PySem.strLen_append, sgn_len]; have := hc none (some c); have := hc (some (c + 1)) none; omega)
      · exact fine_str.mpr (by rw [PySem.strLen_append, PySem.strLen_append, sgn_len]; have := hc none (some c); have := hc (some c) none; omega)
      · exact fine_str.mpr (by have := hc none (some c); omega)
      · exact fine_str.mpr (by have := hc (some c) none; omega)
      · exact fine_str.mpr (by rw [PySem.strLen_append, hab]; omega)
      · exact fine_str.mpr (by omega)
      · rfl
      · rfl
      · exact fine_tup.mpr ⟨by simp, by simpa using hf⟩
    refine pick_k hP (xs := [D.str (cutStr x none (some c) ++ sgn e ++ cutStr x (some (c + 1)) none), D.str (cutStr x none (some c) ++ sgn e ++ cutStr x (some c) none), D.str (cutStr x none (some c)), D.str (cutStr x (some c) none), D.str (x ++ "abcdefghijkl"), D.str (PySem.Txt.upper x), D.non, D.int 0, D.tup [D.str x]]) (by simp) (by simp) (fun x hm => fine_under (all x hm)) (hd.drop (n := n + 1) (by omega)) (fun s2 v hd hm => ?_)
    have hv : v.fine = true := all v hm
    simp_arith
    exact W_finH hd0 hd (fine_under hv) ⟨hd.drop (by omega), hv⟩
  | non =>
    simp_arith
    refine pick_k hP (by simp) (by simp) (by simp [D.under, unders]) (hd.drop (n := n + 2 + 1) (by omega)) (fun s2 v hd hm => ?_)
    have hv : v.fine = true := by
      simp only [List.mem_cons, List.not_mem_nil, or_false] at hm
      rcases hm with rfl | rfl | rfl | rfl <;> rfl
    simp_arith
    exact W_finH hd0 hd (fine_under hv) ⟨hd.drop (by omega), hv⟩
  | @bl k y =>
    have hn : ∃ i : Int, (if y = true then (1 : Int) else 0) = i ∧ -10 < i ∧ i < 10 := ⟨_, rfl, by split <;> omega, by split <;> omega⟩
    obtain ⟨i, e, h0, h1⟩ := hn
    have h0 : -1000000000000000000000000000000000000000000000000000000000000 < i := by omega
    have h1 : i < 1000000000000000000000000000000000000000000000000000000000000 := by omega
    simp_arith [e]
    have hlog := log_i h0 h1
    have hstr := str_i h0 h1
    have hm2 : mulOk i 2 := .inl (.inr (by decide))
    refine sd hlog ?_
    simp_arith [hm2, Sd_t]
    have all : ∀ v ∈ ([D.int (i + 1), D.int (i - 1), D.int (0 - i), D.int 0, D.bl (decide (i = 1)), D.bl (!decide (i = 1)), D.non, D.str (Str.ofString (toString i)), D.tup [D.int i], D.int (i + 30), D.int (i * 2)] : List D), v.fine = true := by
      intro v hm
      simp only [List.mem_cons, List.not_mem_nil, or_false] at hm
      rcases hm with rfl | rfl | rfl | rfl | rfl | rfl | rfl | rfl | rfl | rfl | rfl
      all_goals first | rfl | exact fine_str.mpr (by omega)
    refine pick_k hP (xs := [D.int (i + 1), D.int (i - 1), D.int (0 - i), D.int 0, D.bl (decide (i = 1)), D.bl (!decide (i = 1)), D.non, D.str (Str.ofString (toString i)), D.tup [D.int i], D.int (i + 30), D.int (i * 2)]) (by simp) (by simp) (fun x hm => fine_under (all x hm)) (hd.drop (n := n + 1) (by omega)) (fun s2 v hd hm => ?_)
    have hv : v.fine = true := all v hm
    simp_arith
    exact W_finH hd0 hd (fine_under hv) ⟨hd.drop (by omega), hv⟩
  | @int k i h0 h1 =>
    simp_arith
    have hlog := log_i h0 h1
    have hstr := str_i h0 h1
    have hm2 : mulOk i 2 := .inl (.inr (by decide))
    refine sd hlog ?_
    simp_arith [hm2, Sd_t]
    have all : ∀ v ∈ ([D.int (i + 1), D.int (i - 1), D.int (0 - i), D.int 0, D.bl (decide (i = 1)), D.bl (!decide (i = 1)), D.non, D.str (Str.ofString (toString i)), D.tup [D.int i], D.int (i + 30), D.int (i * 2)] : List D), v.fine = true := by
      intro v hm
      simp only [List.mem_cons, List.not_mem_nil, or_false] at hm
      rcases hm with rfl | rfl | rfl | rfl | rfl | rfl | rfl | rfl | rfl | rfl | rfl
      all_goals first | rfl | exact fine_str.mpr (by omega)
    refine pick_k hP (xs := [D.int (i + 1), D.int (i - 1), D.int (0 - i), D.int 0, D.bl (decide (i = 1)), D.bl (!decide (i = 1)), D.non, D.str (Str.ofString (toString i)), D.tup [D.int i], D.int (i + 30), D.int (i * 2)]) (by simp) (by simp) (fun x hm => fine_under (all x hm)) (hd.drop (n := n + 1) (by omega)) (fun s2 v hd hm => ?_)
    have hv : v.fine = true := all v hm
    simp_arith
    exact W_finH hd0 hd (fine_under hv) ⟨hd.drop (by omega), hv⟩
/-- a def that calls itself: one level above what n is -/
theorem bentP (hT : HasT K (g.fn "_law_take")) (hO : ∀ {k : Nat} {d : D}, Bt k d → Draws K l 3 (fun v => v.fine = true) (g.fn "_law_odd" [.loc l, d])) {n : String} {B : Nat} :
    ∀ {k : Nat} {d : D}, Bt k d → (∀ j e, k = j + 1 → Bt j e → Draws K l B (fun v => v.fine = true) (g.fn n [.loc l, e])) → Draws K l (B + 5) (fun v => v.fine = true) (runF g (dBent n) [.loc l, d]) := by
  intro k d h hB
  unfold dBent
  refine Draws.run rfl fun b n' os s hd => ?_
  have hd0 := hd
  have hf := h.fine
  have rest : ∀ {fr : Fr} {s' : Store}, Hd K l b (n' + B + 4) os s' → W (g.fn "_law_odd" [.loc l, d] s') fun p => onward g Ss.nil (fun p => W (endR true s p.2.2 p.1) fun q => Hd K l b n' os q.2 ∧ q.1.fine = true) (Fl.ret p.1) fr p.2 := fun {fr s'} hd => by
    refine draw_k (hO h) (hd.drop (n := n' + B + 1 + 3) (by omega)) fun s2 v hd hv => ?_
    simp_arith
    exact W_finH hd0 hd (fine_under hv) ⟨hd.drop (by omega), hv⟩
  cases h with
  | @tup k xs h hl =>
    have hx := (fine_tup.mp hf).2
    simp_arith
    refine (wc_neD (under_tup.trans (unders_iff.mpr fun x hm => fine_under (hx x hm))) rfl ⟨fine_nd hf, rfl, .inr (by decide)⟩).mpr ?_
    rw [show eqD (D.tup xs) (D.tup []) = decide (xs = []) by cases xs <;> simp [eqD, eqDs]]
    simp_arith
    refine wayD (fun he => ?_) (fun he => ?_)
    · simp_arith
      exact rest (hd.drop (by omega))
    · simp_arith
      refine take_k hT (by omega) (by omega) (hd.drop (n := n' + B + 4 + 1) (by omega)) (fun s1 c hd c0 c1 => ?_)
      simp_arith
      refine wayD (fun h2 => ?_) (fun h2 => ?_)
      · simp_arith
        have hpos : 0 < xs.length := List.length_pos_iff.mpr he
        refine take_k hT (by omega) (by omega) (hd.drop (n := n' + B + 3 + 1) (by omega)) (fun s1 e hd e0 e1 => ?_)
        have hc : ∀ lo hi, (cut xs lo hi).length ≤ 100 := fun lo hi => Nat.le_trans (cut_len xs lo hi) hl
        have c1' : ∀ lo hi, ((cut xs lo hi).length ≤ 16777216) = True := fun lo hi => eq_true (by have := hc lo hi; omega)
        have ha : at_ xs e = some (xs[e.toNat]'(by omega)) := at_some e0 (List.getElem?_eq_getElem (by omega))
        have c3' : ∀ lo hi, ((cut xs lo hi).length ≤ 16777215) = True := fun lo hi => eq_true (by have := hc lo hi; omega)
        have c2' : ∀ lo hi lo' hi', ((cut xs lo hi).length + (1 + (cut xs lo' hi').length) ≤ 16777216) = True := fun lo hi lo' hi' => eq_true (by have := hc lo hi; have := hc lo' hi'; omega)
        have c4' : ∀ lo hi lo' hi', ((cut xs lo hi).length + ((cut xs lo' hi').length + 1) ≤ 16777216) = True := fun lo hi lo' hi' => eq_true (by have := hc lo hi; have := hc lo' hi'; omega)
        have c5' : ∀ lo hi lo' hi', ((cut xs lo hi).length + 1 + (cut xs lo' hi').length ≤ 16777216) = True := fun lo hi lo' hi' => eq_true (by have := hc lo hi; have := hc lo' hi'; omega)
        simp_arith [c1', ha]
        refine draw_k (hB k _ rfl (h _ (List.getElem_mem _))) (hd.drop (n := n' + 3 + B) (by omega)) fun s2 v hd hv => ?_
        simp_arith [c1', c3', c2', c4', c5', List.length_append, Sd_t]
        have hv2 : (D.tup (cut xs none (some e) ++ v :: cut xs (some (e + 1)) none)).fine = true := by
          refine fine_tup.mpr ⟨by have := hc none (some e); have := hc (some (e + 1)) none; rw [List.length_append, List.length_cons]; omega, fun z hz => ?_⟩
          rcases List.mem_append.mp hz with hz | hz
          · exact hx z (mem_cut hz)
          · rcases List.mem_cons.mp hz with rfl | hz
            · exact hv
            · exact hx z (mem_cut hz)
        refine W_finH hd0 hd ?_ ⟨hd.drop (by omega), ?_⟩
        · exact fine_under (by simpa using hv2)
        · simpa using hv2
      · simp_arith
        exact rest (hd.drop (by omega))
  | _ =>
    simp_arith
    exact rest (hd.drop (by omega))
end
end DV

end
section
set_option autoImplicit false
namespace K02
open DV
def d_is_whole : FD := ⟨1, 1, true, .cons (.ret (.and (.cons (.isi .int (.var 0)) (.cons (.not (.isi .bool (.var 0))) .nil)))) .nil⟩
def d_is_from : FD := ⟨2, 2, true, .cons (.ret (.and (.cons (.call "is_whole" (.cons (.var 0) .nil)) (.cons (.cmp .ge (.var 0) (.var 1)) .nil)))) .nil⟩
def d_is_row : FD := ⟨2, 3, true, .cons (.if_ (.or (.cons (.not (.isi .tuple (.var 0))) (.cons (.not (.cmp2 .le .le (.int 1) (.bi false .len (.cons (.var 0) .nil)) (.var 1))) .nil))) (.cons (.ret (.bl false)) .nil) .nil) (.cons (.ret (.bi false .all (.cons (.lc false (.name 2) [2] (.seq (.var 0)) .none (.call "is_from" (.cons (.var 2) (.cons (.int 1) .nil)))) .nil))) .nil)⟩
def d_is_form : FD := ⟨1, 7, true, .cons (.if_ (.or (.cons (.not (.isi .tuple (.var 0))) (.cons (.cmp .ne (.bi false .len (.cons (.var 0) .nil)) (.int 5)) .nil))) (.cons (.ret (.bl false)) .nil) .nil) (.cons (.asg (.tup [.name 1, .name 2, .name 3, .name 4, .name 5]) (.var 0)) (.cons (.if_ (.or (.cons (.not (.call "is_row" (.cons (.var 1) (.cons (.con "MOST_BENCHES") .nil)))) (.cons (.not (.call "is_row" (.cons (.var 5) (.cons (.con "MOST_WORTHS") .nil)))) .nil))) (.cons (.ret (.bl false)) .nil) .nil) (.cons (.if_ (.bi false .any (.cons (.lc false (.name 6) [6] (.seq (.var 1)) .none (.cmp .gt (.var 6) (.con "MOST_SEATS"))) .nil)) (.cons (.ret (.bl false)) .nil) .nil) (.cons (.if_ (.or (.cons (.not (.call "is_whole" (.cons (.var 2) .nil))) (.cons (.not (.cmp2 .le .le (.int 1) (.var 2) (.con "MOST_ROUNDS"))) .nil))) (.cons (.ret (.bl false)) .nil) .nil) (.cons (.ret (.and (.cons (.call "is_from" (.cons (.var 3) (.cons (.int 0) .nil))) (.cons (.call "is_from" (.cons (.var 4) (.cons (.int 1) .nil))) .nil)))) .nil)))))⟩
def d__law_hand : FD := ⟨2, 4, false, .cons (.asg (.name 2) (.int 0)) (.cons (.if_ (.cmp .lt (.var 1) (.bi false .len (.cons (.var 0) .nil))) (.cons (.asg (.name 2) (.idx (.var 0) (.var 1))) .nil) .nil) (.cons (.asg (.name 3) (.bin false .mul (.bin false .mod (.var 2) (.bin false .mul (.bin false .mul (.bin false .pow (.int 10) (.int 60)) (.bin false .pow (.int 10) (.int 60))) (.bin false .pow (.int 10) (.int 60)))) (.bi false .int (.cons (.cmp .ge (.var 2) (.bin false .pow (.int 10) (.int 18))) .nil)))) (.cons (.ret (.lst true (.cons (.var 3) (.cons (.bin false .mod (.bin false .add (.bin false .add (.bin false .mod (.var 2) (.int 2305843009213693951)) (.bin false .mul (.int 7919) (.var 1))) (.int 3)) (.int 2305843009213693951)) (.cons (.int 0) .nil))))) .nil)))⟩
def d__law_take : FD := ⟨2, 4, true, .cons (.if_ (.cmp .gt (.idx (.var 0) (.int 0)) (.int 0)) (.cons (.asg (.name 2) (.bin false .mod (.idx (.var 0) (.int 0)) (.var 1))) (.cons (.seti (.var 0) (.int 0) (.bin false .fdiv (.idx (.var 0) (.int 0)) (.var 1))) (.cons (.ret (.var 2)) .nil))) .nil) (.cons (.seti (.var 0) (.int 2) (.bin false .add (.idx (.var 0) (.int 2)) (.int 1))) (.cons (.asg (.name 3) (.bin false .mod (.bin false .mul (.bin false .add (.bin false .add (.idx (.var 0) (.int 1)) (.bin false .mul (.bin false .mul (.int 65537) (.idx (.var 0) (.int 2))) (.idx (.var 0) (.int 2)))) (.int 11)) (.int 48271)) (.int 2305843009213693921))) (.cons (.asg (.name 3) (.bin false .mod (.bin false .mul (.var 3) (.bin false .add (.bin false .mod (.var 3) (.int 1000003)) (.bin false .mul (.int 99991) (.idx (.var 0) (.int 2))))) (.int 2305843009213693907))) (.cons (.ret (.bin false .mod (.bin false .add (.bin false .fdiv (.var 3) (.int 97)) (.bin false .fdiv (.var 3) (.int 1000033))) (.var 1))) .nil))))⟩
def d__law_pick : FD := ⟨2, 2, true, .cons (.ret (.idx (.var 1) (.call "_law_take" (.cons (.var 0) (.cons (.bi false .len (.cons (.var 1) .nil)) .nil))))) .nil⟩
def d__law_number : FD := ⟨2, 2, true, .cons (.ret (.bin false .add (.var 1) (.call "_law_pick" (.cons (.var 0) (.cons (.lst false (.cons (.int 0) (.cons (.int 0) (.cons (.int 1) (.cons (.int 2) (.cons (.call "_law_take" (.cons (.var 0) (.cons (.int 12) .nil))) (.cons (.bin false .pow (.int 10) (.int 29)) .nil))))))) .nil))))) .nil⟩
def d__law_form : FD := ⟨1, 6, true, .cons (.asg (.name 1) (.bi false .tuple (.cons (.lc false (.name 2) [2] (.rng1 (.bin false .add (.int 1) (.call "_law_take" (.cons (.var 0) (.cons (.int 6) .nil))))) .none (.call "_law_pick" (.cons (.var 0) (.cons (.lst false (.cons (.int 1) (.cons (.int 2) (.cons (.int 3) (.cons (.int 4) (.cons (.int 29) (.cons (.int 30) .nil))))))) .nil)))) .nil))) (.cons (.asg (.name 3) (.call "_law_pick" (.cons (.var 0) (.cons (.lst false (.cons (.int 1) (.cons (.int 12) (.cons (.bin false .add (.int 1) (.call "_law_take" (.cons (.var 0) (.cons (.int 12) .nil)))) .nil)))) .nil)))) (.cons (.par [4, 5] (.cons (.call "_law_number" (.cons (.var 0) (.cons (.int 0) .nil))) (.cons (.call "_law_number" (.cons (.var 0) (.cons (.int 1) .nil))) .nil))) (.cons (.ret (.tup (.cons (.var 1) (.cons (.var 3) (.cons (.var 4) (.cons (.var 5) (.cons (.bi false .tuple (.cons (.lc false (.name 2) [2] (.rng1 (.bin false .add (.int 1) (.call "_law_take" (.cons (.var 0) (.cons (.int 6) .nil))))) .none (.call "_law_number" (.cons (.var 0) (.cons (.int 1) .nil)))) .nil)) .nil))))))) .nil)))⟩
def d__law_spoilt : FD := ⟨2, 7, true, .cons (.asg (.name 2) (.call "_law_take" (.cons (.var 0) (.cons (.int 5) .nil)))) (.cons (.asg (.name 3) (.bi true .list (.cons (.var 1) .nil))) (.cons (.if_ (.cmp .in_ (.var 2) (.tup (.cons (.int 0) (.cons (.int 4) .nil)))) (.cons (.par [4, 5] (.cons (.idx (.var 1) (.var 2)) (.cons (.call "_law_take" (.cons (.var 0) (.cons (.bi false .len (.cons (.idx (.var 1) (.var 2)) .nil)) .nil))) .nil))) (.cons (.asg (.name 6) (.lst false (.cons (.bin false .add (.bin false .add (.slc false (.var 4) .none (.some (.var 5))) (.tup (.cons (.call "_law_pick" (.cons (.var 0) (.cons (.lst false (.cons (.int 0) (.cons (.int 31) (.cons (.neg (.int 1)) (.cons (.int 30) (.cons (.bl true) .nil)))))) .nil))) .nil))) (.slc false (.var 4) (.some (.bin false .add (.var 5) (.int 1))) .none)) (.cons (.tup .nil) (.cons (.slc false (.bin false .mul (.var 4) (.int 7)) .none (.some (.int 7))) (.cons (.slc false (.bin false .mul (.var 4) (.int 6)) .none (.some (.int 6))) .nil)))))) (.cons (.seti (.var 3) (.var 2) (.call "_law_pick" (.cons (.var 0) (.cons (.var 6) .nil)))) .nil))) (.cons (.seti (.var 3) (.var 2) (.call "_law_pick" (.cons (.var 0) (.cons (.idx (.lst false (.cons (.lst false .nil) (.cons (.lst false (.cons (.int 0) (.cons (.int 13) (.cons (.int 12) (.cons (.int 1) (.cons (.neg (.int 1)) .nil)))))) (.cons (.lst false (.cons (.neg (.int 1)) (.cons (.int 0) (.cons (.bl true) .nil)))) (.cons (.lst false (.cons (.int 0) (.cons (.int 1) (.cons (.neg (.int 2)) .nil)))) .nil))))) (.var 2)) .nil)))) .nil)) (.cons (.ret (.bi false .tuple (.cons (.var 3) .nil))) .nil)))⟩
def d__law_odd : FD := ⟨2, 7, true, .cons (.if_ (.isi .tuple (.var 1)) (.cons (.asg (.name 2) (.call "_law_take" (.cons (.var 0) (.cons (.bin false .add (.bi false .len (.cons (.var 1) .nil)) (.int 1)) .nil)))) (.cons (.asg (.name 3) (.lst false (.cons (.bin false .add (.slc false (.var 1) .none (.some (.var 2))) (.slc false (.var 1) (.some (.bin false .add (.var 2) (.int 1))) .none)) (.cons (.bin false .add (.slc false (.var 1) .none (.some (.bin false .add (.var 2) (.int 1)))) (.slc false (.var 1) (.some (.var 2)) .none)) (.cons (.rev false (.var 1)) (.cons (.bi false .list (.cons (.var 1) .nil)) (.cons (.tup .nil) .nil))))))) (.cons (.ret (.call "_law_pick" (.cons (.var 0) (.cons (.bin false .add (.var 3) (.lst false (.cons (.bin false .add (.slc false (.var 1) (.some (.var 2)) .none) (.slc false (.var 1) .none (.some (.var 2)))) (.cons (.bin false .add (.var 1) (.tup (.cons .non .nil))) (.cons (.bin false .add (.var 1) (.tup (.cons (.tup .nil) .nil))) (.cons (.tup (.cons (.var 1) .nil)) (.cons (.slc false (.var 1) .none (.some (.int 1))) .nil))))))) .nil)))) .nil))) .nil) (.cons (.if_ (.isi .str (.var 1)) (.cons (.par [2, 4] (.cons (.call "_law_take" (.cons (.var 0) (.cons (.bin false .add (.bi false .len (.cons (.var 1) .nil)) (.int 1)) .nil))) (.cons (.str " !\"#$&'()*+,-./0129:;<=>?@ABZ[\\]^_`abcmnxyz{|}~\n") .nil))) (.cons (.asg (.name 5) (.call "_law_pick" (.cons (.var 0) (.cons (.var 4) .nil)))) (.cons (.asg (.name 3) (.lst false (.cons (.bin false .add (.bin false .add (.slc false (.var 1) .none (.some (.var 2))) (.var 5)) (.slc false (.var 1) (.some (.bin false .add (.var 2) (.int 1))) .none)) (.cons (.bin false .add (.bin false .add (.slc false (.var 1) .none (.some (.var 2))) (.var 5)) (.slc false (.var 1) (.some (.var 2)) .none)) (.cons (.slc false (.var 1) .none (.some (.var 2))) (.cons (.slc false (.var 1) (.some (.var 2)) .none) .nil)))))) (.cons (.ret (.call "_law_pick" (.cons (.var 0) (.cons (.bin false .add (.var 3) (.lst false (.cons (.bin false .add (.var 1) (.str "abcdefghijkl")) (.cons (.sm0 .upper (.var 1)) (.cons .non (.cons (.int 0) (.cons (.tup (.cons (.var 1) .nil)) .nil))))))) .nil)))) .nil)))) .nil) (.cons (.if_ (.isN (.var 1)) (.cons (.ret (.call "_law_pick" (.cons (.var 0) (.cons (.lst false (.cons (.int 0) (.cons (.tup .nil) (.cons (.bl false) (.cons (.str "") .nil))))) .nil)))) .nil) .nil) (.cons (.asg (.name 6) (.bi false .int (.cons (.var 1) .nil))) (.cons (.asg (.name 3) (.lst false (.cons (.bin false .add (.var 6) (.int 1)) (.cons (.bin false .sub (.var 6) (.int 1)) (.cons (.bin false .sub (.int 0) (.var 6)) (.cons (.int 0) (.cons (.cmp .eq (.var 6) (.int 1)) (.cons (.cmp .ne (.var 6) (.int 1)) (.cons .non (.cons (.bi false .str (.cons (.var 6) .nil)) (.cons (.tup (.cons (.var 6) .nil)) .nil))))))))))) (.cons (.ret (.call "_law_pick" (.cons (.var 0) (.cons (.bin false .add (.var 3) (.lst false (.cons (.bin false .add (.var 6) (.int 30)) (.cons (.bin false .mul (.var 6) (.int 2)) .nil)))) .nil)))) .nil)))))⟩
def d__law_bent_0 : FD := ⟨2, 3, true, .cons .never .nil⟩
def d__law_bent_1 : FD := ⟨2, 3, true, .cons (.if_ (.and (.cons (.isi .tuple (.var 1)) (.cons (.cmp .ne (.var 1) (.tup .nil)) (.cons (.cmp .gt (.call "_law_take" (.cons (.var 0) (.cons (.int 4) .nil))) (.int 0)) .nil)))) (.cons (.asg (.name 2) (.call "_law_take" (.cons (.var 0) (.cons (.bi false .len (.cons (.var 1) .nil)) .nil)))) (.cons (.ret (.bin false .add (.bin false .add (.slc false (.var 1) .none (.some (.var 2))) (.tup (.cons (.call "_law_bent#0" (.cons (.var 0) (.cons (.idx (.var 1) (.var 2)) .nil))) .nil))) (.slc false (.var 1) (.some (.bin false .add (.var 2) (.int 1))) .none))) .nil)) .nil) (.cons (.ret (.call "_law_odd" (.cons (.var 0) (.cons (.var 1) .nil)))) .nil)⟩
def d__law_bent_2 : FD := ⟨2, 3, true, .cons (.if_ (.and (.cons (.isi .tuple (.var 1)) (.cons (.cmp .ne (.var 1) (.tup .nil)) (.cons (.cmp .gt (.call "_law_take" (.cons (.var 0) (.cons (.int 4) .nil))) (.int 0)) .nil)))) (.cons (.asg (.name 2) (.call "_law_take" (.cons (.var 0) (.cons (.bi false .len (.cons (.var 1) .nil)) .nil)))) (.cons (.ret (.bin false .add (.bin false .add (.slc false (.var 1) .none (.some (.var 2))) (.tup (.cons (.call "_law_bent#1" (.cons (.var 0) (.cons (.idx (.var 1) (.var 2)) .nil))) .nil))) (.slc false (.var 1) (.some (.bin false .add (.var 2) (.int 1))) .none))) .nil)) .nil) (.cons (.ret (.call "_law_odd" (.cons (.var 0) (.cons (.var 1) .nil)))) .nil)⟩
def d__law_bent_3 : FD := ⟨2, 3, true, .cons (.if_ (.and (.cons (.isi .tuple (.var 1)) (.cons (.cmp .ne (.var 1) (.tup .nil)) (.cons (.cmp .gt (.call "_law_take" (.cons (.var 0) (.cons (.int 4) .nil))) (.int 0)) .nil)))) (.cons (.asg (.name 2) (.call "_law_take" (.cons (.var 0) (.cons (.bi false .len (.cons (.var 1) .nil)) .nil)))) (.cons (.ret (.bin false .add (.bin false .add (.slc false (.var 1) .none (.some (.var 2))) (.tup (.cons (.call "_law_bent#2" (.cons (.var 0) (.cons (.idx (.var 1) (.var 2)) .nil))) .nil))) (.slc false (.var 1) (.some (.bin false .add (.var 2) (.int 1))) .none))) .nil)) .nil) (.cons (.ret (.call "_law_odd" (.cons (.var 0) (.cons (.var 1) .nil)))) .nil)⟩
def d__law_bent_4 : FD := ⟨2, 3, true, .cons (.if_ (.and (.cons (.isi .tuple (.var 1)) (.cons (.cmp .ne (.var 1) (.tup .nil)) (.cons (.cmp .gt (.call "_law_take" (.cons (.var 0) (.cons (.int 4) .nil))) (.int 0)) .nil)))) (.cons (.asg (.name 2) (.call "_law_take" (.cons (.var 0) (.cons (.bi false .len (.cons (.var 1) .nil)) .nil)))) (.cons (.ret (.bin false .add (.bin false .add (.slc false (.var 1) .none (.some (.var 2))) (.tup (.cons (.call "_law_bent#3" (.cons (.var 0) (.cons (.idx (.var 1) (.var 2)) .nil))) .nil))) (.slc false (.var 1) (.some (.bin false .add (.var 2) (.int 1))) .none))) .nil)) .nil) (.cons (.ret (.call "_law_odd" (.cons (.var 0) (.cons (.var 1) .nil)))) .nil)⟩
def d__law_bent_5 : FD := ⟨2, 3, true, .cons (.if_ (.and (.cons (.isi .tuple (.var 1)) (.cons (.cmp .ne (.var 1) (.tup .nil)) (.cons (.cmp .gt (.call "_law_take" (.cons (.var 0) (.cons (.int 4) .nil))) (.int 0)) .nil)))) (.cons (.asg (.name 2) (.call "_law_take" (.cons (.var 0) (.cons (.bi false .len (.cons (.var 1) .nil)) .nil)))) (.cons (.ret (.bin false .add (.bin false .add (.slc false (.var 1) .none (.some (.var 2))) (.tup (.cons (.call "_law_bent#4" (.cons (.var 0) (.cons (.idx (.var 1) (.var 2)) .nil))) .nil))) (.slc false (.var 1) (.some (.bin false .add (.var 2) (.int 1))) .none))) .nil)) .nil) (.cons (.ret (.call "_law_odd" (.cons (.var 0) (.cons (.var 1) .nil)))) .nil)⟩
def d__law_bent_6 : FD := ⟨2, 3, true, .cons (.if_ (.and (.cons (.isi .tuple (.var 1)) (.cons (.cmp .ne (.var 1) (.tup .nil)) (.cons (.cmp .gt (.call "_law_take" (.cons (.var 0) (.cons (.int 4) .nil))) (.int 0)) .nil)))) (.cons (.asg (.name 2) (.call "_law_take" (.cons (.var 0) (.cons (.bi false .len (.cons (.var 1) .nil)) .nil)))) (.cons (.ret (.bin false .add (.bin false .add (.slc false (.var 1) .none (.some (.var 2))) (.tup (.cons (.call "_law_bent#5" (.cons (.var 0) (.cons (.idx (.var 1) (.var 2)) .nil))) .nil))) (.slc false (.var 1) (.some (.bin false .add (.var 2) (.int 1))) .none))) .nil)) .nil) (.cons (.ret (.call "_law_odd" (.cons (.var 0) (.cons (.var 1) .nil)))) .nil)⟩
def d__law_whole : FD := ⟨2, 2, true, .cons (.ret (.and (.cons (.isi .int (.var 0)) (.cons (.not (.isi .bool (.var 0))) (.cons (.cmp .ge (.var 0) (.var 1)) .nil))))) .nil⟩
def d__law_row : FD := ⟨1, 2, true, .cons (.ret (.and (.cons (.isi .tuple (.var 0)) (.cons (.cmp2 .le .le (.int 1) (.bi false .len (.cons (.var 0) .nil)) (.int 6)) (.cons (.bi false .all (.cons (.lc false (.name 1) [1] (.seq (.var 0)) .none (.call "_law_whole" (.cons (.var 1) (.cons (.int 1) .nil)))) .nil)) .nil))))) .nil⟩
def d__law_is_form : FD := ⟨1, 1, true, .cons (.if_ (.or (.cons (.not (.isi .tuple (.var 0))) (.cons (.cmp .ne (.bi false .len (.cons (.var 0) .nil)) (.int 5)) (.cons (.not (.call "_law_row" (.cons (.idx (.var 0) (.int 0)) .nil))) (.cons (.not (.call "_law_row" (.cons (.idx (.var 0) (.int 4)) .nil))) .nil))))) (.cons (.ret (.bl false)) .nil) .nil) (.cons (.if_ (.or (.cons (.cmp .gt (.bi false .max (.cons (.idx (.var 0) (.int 0)) .nil)) (.int 30)) (.cons (.not (.call "_law_whole" (.cons (.idx (.var 0) (.int 1)) (.cons (.int 1) .nil)))) (.cons (.cmp .gt (.idx (.var 0) (.int 1)) (.int 12)) .nil)))) (.cons (.ret (.bl false)) .nil) .nil) (.cons (.ret (.and (.cons (.call "_law_whole" (.cons (.idx (.var 0) (.int 2)) (.cons (.int 0) .nil))) (.cons (.call "_law_whole" (.cons (.idx (.var 0) (.int 3)) (.cons (.int 1) .nil))) .nil)))) .nil))⟩
def d__law_told : FD := ⟨1, 2, true, .cons (.asg (.name 1) (.call "is_form" (.cons (.var 0) .nil))) (.cons (.ret (.and (.cons (.isi .bool (.var 1)) (.cons (.cmp .eq (.var 1) (.call "_law_is_form" (.cons (.var 0) .nil))) .nil)))) .nil)⟩
def d_law : FD := ⟨1, 5, true, .cons (.for_ (.name 1) (.rng1 (.bi false .max2 (.cons (.int 1) (.cons (.bi false .min2 (.cons (.int 12) (.cons (.bi false .len (.cons (.var 0) .nil)) .nil))) .nil)))) (.cons (.asg (.name 2) (.call "_law_hand" (.cons (.var 0) (.cons (.var 1) .nil)))) (.cons (.asg (.name 3) (.call "_law_form" (.cons (.var 2) .nil))) (.cons (.if_ (.or (.cons (.isB true true (.call "is_form" (.cons (.var 3) .nil))) (.cons (.not (.call "_law_told" (.cons (.call "_law_spoilt" (.cons (.var 2) (.cons (.var 3) .nil))) .nil))) .nil))) (.cons (.ret (.bl false)) .nil) .nil) (.cons (.for_ (.name 4) (.rng1 (.int 4)) (.cons (.if_ (.not (.call "_law_told" (.cons (.call "_law_bent#6" (.cons (.var 2) (.cons (.var 3) .nil))) .nil))) (.cons (.ret (.bl false)) .nil) .nil) .nil)) .nil))))) (.cons (.ret (.bl true)) .nil)⟩
def g0 : G := ⟨fun _ _ _ => .err, fun x => if x = "MOST_BENCHES" then some (.int 6) else if x = "MOST_SEATS" then some (.int 30) else if x = "MOST_ROUNDS" then some (.int 12) else if x = "MOST_WORTHS" then some (.int 6) else none, fun _ _ => none, fun _ => none⟩
noncomputable def g1 : G := g0.add "is_whole" d_is_whole
noncomputable def g2 : G := g1.add "is_from" d_is_from
noncomputable def g3 : G := g2.add "is_row" d_is_row
noncomputable def g4 : G := g3.add "is_form" d_is_form
noncomputable def g5 : G := g4.add "_law_hand" d__law_hand
noncomputable def g6 : G := g5.add "_law_take" d__law_take
noncomputable def g7 : G := g6.add "_law_pick" d__law_pick
noncomputable def g8 : G := g7.add "_law_number" d__law_number
noncomputable def g9 : G := g8.add "_law_form" d__law_form
noncomputable def g10 : G := g9.add "_law_spoilt" d__law_spoilt
noncomputable def g11 : G := g10.add "_law_odd" d__law_odd
noncomputable def g12 : G := g11.add "_law_bent#0" d__law_bent_0
noncomputable def g13 : G := g12.add "_law_bent#1" d__law_bent_1
noncomputable def g14 : G := g13.add "_law_bent#2" d__law_bent_2
noncomputable def g15 : G := g14.add "_law_bent#3" d__law_bent_3
noncomputable def g16 : G := g15.add "_law_bent#4" d__law_bent_4
noncomputable def g17 : G := g16.add "_law_bent#5" d__law_bent_5
noncomputable def g18 : G := g17.add "_law_bent#6" d__law_bent_6
noncomputable def g19 : G := g18.add "_law_whole" d__law_whole
noncomputable def g20 : G := g19.add "_law_row" d__law_row
noncomputable def g21 : G := g20.add "_law_is_form" d__law_is_form
noncomputable def g22 : G := g21.add "_law_told" d__law_told
theorem fn1_is_whole : g1.fn "is_whole" = runF g0 d_is_whole := add_same
theorem fn2_is_from : g2.fn "is_from" = runF g1 d_is_from := add_same
theorem fn3_is_from : g3.fn "is_from" = runF g1 d_is_from := ((add_ne (by decide)).trans add_same)
theorem fn3_is_row : g3.fn "is_row" = runF g2 d_is_row := add_same
theorem fn3_is_whole : g3.fn "is_whole" = runF g0 d_is_whole := ((add_ne (by decide)).trans ((add_ne (by decide)).trans add_same))
theorem fn6__law_take : g6.fn "_law_take" = runF g5 d__law_take := add_same
theorem fn7__law_pick : g7.fn "_law_pick" = runF g6 d__law_pick := add_same
theorem fn7__law_take : g7.fn "_law_take" = runF g5 d__law_take := ((add_ne (by decide)).trans add_same)
theorem fn8__law_number : g8.fn "_law_number" = runF g7 d__law_number := add_same
theorem fn8__law_pick : g8.fn "_law_pick" = runF g6 d__law_pick := ((add_ne (by decide)).trans add_same)
theorem fn8__law_take : g8.fn "_law_take" = runF g5 d__law_take := ((add_ne (by decide)).trans ((add_ne (by decide)).trans add_same))
theorem fn9__law_pick : g9.fn "_law_pick" = runF g6 d__law_pick := ((add_ne (by decide)).trans ((add_ne (by decide)).trans add_same))
theorem fn9__law_take : g9.fn "_law_take" = runF g5 d__law_take := ((add_ne (by decide)).trans ((add_ne (by decide)).trans ((add_ne (by decide)).trans add_same)))
theorem fn10__law_pick : g10.fn "_law_pick" = runF g6 d__law_pick := ((add_ne (by decide)).trans ((add_ne (by decide)).trans ((add_ne (by decide)).trans add_same)))
theorem fn10__law_take : g10.fn "_law_take" = runF g5 d__law_take := ((add_ne (by decide)).trans ((add_ne (by decide)).trans ((add_ne (by decide)).trans ((add_ne (by decide)).trans add_same))))
theorem fn12__law_bent_0 : g12.fn "_law_bent#0" = runF g11 d__law_bent_0 := add_same
theorem fn12__law_odd : g12.fn "_law_odd" = runF g10 d__law_odd := ((add_ne (by decide)).trans add_same)
theorem fn12__law_take : g12.fn "_law_take" = runF g5 d__law_take := ((add_ne (by decide)).trans ((add_ne (by decide)).trans ((add_ne (by decide)).trans ((add_ne (by decide)).trans ((add_ne (by decide)).trans ((add_ne (by decide)).trans add_same))))))
theorem fn13__law_bent_1 : g13.fn "_law_bent#1" = runF g12 d__law_bent_1 := add_same
theorem fn13__law_odd : g13.fn "_law_odd" = runF g10 d__law_odd := ((add_ne (by decide)).trans ((add_ne (by decide)).trans add_same))
theorem fn13__law_take : g13.fn "_law_take" = runF g5 d__law_take := ((add_ne (by decide)).trans ((add_ne (by decide)).trans ((add_ne (by decide)).trans ((add_ne (by decide)).trans ((add_ne (by decide)).trans ((add_ne (by decide)).trans ((add_ne (by decide)).trans add_same)))))))
theorem fn14__law_bent_2 : g14.fn "_law_bent#2" = runF g13 d__law_bent_2 := add_same
theorem fn14__law_odd : g14.fn "_law_odd" = runF g10 d__law_odd := ((add_ne (by decide)).trans ((add_ne (by decide)).trans ((add_ne (by decide)).trans add_same)))
theorem fn14__law_take : g14.fn "_law_take" = runF g5 d__law_take := ((add_ne (by decide)).trans ((add_ne (by decide)).trans ((add_ne (by decide)).trans ((add_ne (by decide)).trans ((add_ne (by decide)).trans ((add_ne (by decide)).trans ((add_ne (by decide)).trans ((add_ne (by decide)).trans add_same))))))))
theorem fn15__law_bent_3 : g15.fn "_law_bent#3" = runF g14 d__law_bent_3 := add_same
theorem fn15__law_odd : g15.fn "_law_odd" = runF g10 d__law_odd := ((add_ne (by decide)).trans ((add_ne (by decide)).trans ((add_ne (by decide)).trans ((add_ne (by decide)).trans add_same))))
theorem fn15__law_take : g15.fn "_law_take" = runF g5 d__law_take := ((add_ne (by decide)).trans ((add_ne (by decide)).trans ((add_ne (by decide)).trans ((add_ne (by decide)).trans ((add_ne (by decide)).trans ((add_ne (by decide)).trans ((add_ne (by decide)).trans ((add_ne (by decide)).trans ((add_ne (by decide)).trans add_same)))))))))
theorem fn16__law_bent_4 : g16.fn "_law_bent#4" = runF g15 d__law_bent_4 := add_same
theorem fn16__law_odd : g16.fn "_law_odd" = runF g10 d__law_odd := ((add_ne (by decide)).trans ((add_ne (by decide)).trans ((add_ne (by decide)).trans ((add_ne (by decide)).trans ((add_ne (by decide)).trans add_same)))))
theorem fn16__law_take : g16.fn "_law_take" = runF g5 d__law_take := ((add_ne (by decide)).trans ((add_ne (by decide)).trans ((add_ne (by decide)).trans ((add_ne (by decide)).trans ((add_ne (by decide)).trans ((add_ne (by decide)).trans ((add_ne (by decide)).trans ((add_ne (by decide)).trans ((add_ne (by decide)).trans ((add_ne (by decide)).trans add_same))))))))))
theorem fn17__law_bent_5 : g17.fn "_law_bent#5" = runF g16 d__law_bent_5 := add_same
theorem fn17__law_odd : g17.fn "_law_odd" = runF g10 d__law_odd := ((add_ne (by decide)).trans ((add_ne (by decide)).trans ((add_ne (by decide)).trans ((add_ne (by decide)).trans ((add_ne (by decide)).trans ((add_ne (by decide)).trans add_same))))))
theorem fn17__law_take : g17.fn "_law_take" = runF g5 d__law_take := ((add_ne (by decide)).trans ((add_ne (by decide)).trans ((add_ne (by decide)).trans ((add_ne (by decide)).trans ((add_ne (by decide)).trans ((add_ne (by decide)).trans ((add_ne (by decide)).trans ((add_ne (by decide)).trans ((add_ne (by decide)).trans ((add_ne (by decide)).trans ((add_ne (by decide)).trans add_same)))))))))))
theorem fn19__law_whole : g19.fn "_law_whole" = runF g18 d__law_whole := add_same
theorem fn20__law_row : g20.fn "_law_row" = runF g19 d__law_row := add_same
theorem fn20__law_whole : g20.fn "_law_whole" = runF g18 d__law_whole := ((add_ne (by decide)).trans add_same)
theorem fn21__law_is_form : g21.fn "_law_is_form" = runF g20 d__law_is_form := add_same
theorem fn21_is_form : g21.fn "is_form" = runF g3 d_is_form := ((add_ne (by decide)).trans ((add_ne (by decide)).trans ((add_ne (by decide)).trans ((add_ne (by decide)).trans ((add_ne (by decide)).trans ((add_ne (by decide)).trans ((add_ne (by decide)).trans ((add_ne (by decide)).trans ((add_ne (by decide)).trans ((add_ne (by decide)).trans ((add_ne (by decide)).trans ((add_ne (by decide)).trans ((add_ne (by decide)).trans ((add_ne (by decide)).trans ((add_ne (by decide)).trans ((add_ne (by decide)).trans ((add_ne (by decide)).trans add_same)))))))))))))))))
theorem fn22__law_bent_6 : g22.fn "_law_bent#6" = runF g17 d__law_bent_6 := ((add_ne (by decide)).trans ((add_ne (by decide)).trans ((add_ne (by decide)).trans ((add_ne (by decide)).trans add_same))))
theorem fn22__law_form : g22.fn "_law_form" = runF g8 d__law_form := ((add_ne (by decide)).trans ((add_ne (by decide)).trans ((add_ne (by decide)).trans ((add_ne (by decide)).trans ((add_ne (by decide)).trans ((add_ne (by decide)).trans ((add_ne (by decide)).trans ((add_ne (by decide)).trans ((add_ne (by decide)).trans ((add_ne (by decide)).trans ((add_ne (by decide)).trans ((add_ne (by decide)).trans ((add_ne (by decide)).trans add_same)))))))))))))
theorem fn22__law_hand : g22.fn "_law_hand" = runF g4 d__law_hand := ((add_ne (by decide)).trans ((add_ne (by decide)).trans ((add_ne (by decide)).trans ((add_ne (by decide)).trans ((add_ne (by decide)).trans ((add_ne (by decide)).trans ((add_ne (by decide)).trans ((add_ne (by decide)).trans ((add_ne (by decide)).trans ((add_ne (by decide)).trans ((add_ne (by decide)).trans ((add_ne (by decide)).trans ((add_ne (by decide)).trans ((add_ne (by decide)).trans ((add_ne (by decide)).trans ((add_ne (by decide)).trans ((add_ne (by decide)).trans add_same)))))))))))))))))
theorem fn22__law_spoilt : g22.fn "_law_spoilt" = runF g9 d__law_spoilt := ((add_ne (by decide)).trans ((add_ne (by decide)).trans ((add_ne (by decide)).trans ((add_ne (by decide)).trans ((add_ne (by decide)).trans ((add_ne (by decide)).trans ((add_ne (by decide)).trans ((add_ne (by decide)).trans ((add_ne (by decide)).trans ((add_ne (by decide)).trans ((add_ne (by decide)).trans ((add_ne (by decide)).trans add_same))))))))))))
theorem fn22__law_told : g22.fn "_law_told" = runF g21 d__law_told := add_same
theorem fn22_is_form : g22.fn "is_form" = runF g3 d_is_form := ((add_ne (by decide)).trans ((add_ne (by decide)).trans ((add_ne (by decide)).trans ((add_ne (by decide)).trans ((add_ne (by decide)).trans ((add_ne (by decide)).trans ((add_ne (by decide)).trans ((add_ne (by decide)).trans ((add_ne (by decide)).trans ((add_ne (by decide)).trans ((add_ne (by decide)).trans ((add_ne (by decide)).trans ((add_ne (by decide)).trans ((add_ne (by decide)).trans ((add_ne (by decide)).trans ((add_ne (by decide)).trans ((add_ne (by decide)).trans ((add_ne (by decide)).trans add_same))))))))))))))))))
theorem con3_MOST_BENCHES : g3.con "MOST_BENCHES" = some (.int 6) := by rfl
theorem con3_MOST_ROUNDS : g3.con "MOST_ROUNDS" = some (.int 12) := by rfl
theorem con3_MOST_SEATS : g3.con "MOST_SEATS" = some (.int 30) := by rfl
theorem con3_MOST_WORTHS : g3.con "MOST_WORTHS" = some (.int 6) := by rfl
end K02

end
section
set_option Elab.async false
set_option linter.all false
set_option maxRecDepth 100000
set_option autoImplicit false
set_option maxHeartbeats 2000000
namespace K02
open DV
open PySem (Str)
local macro_rules
  | `(tactic| simp_arith) => `(tactic| simp_arith [])
  | `(tactic| simp_arith [$ts,*]) => `(tactic| simp only [↓W_run, ↓ws_nil, ↓W_way, ↓ws_cons, ↓ws_asg, ↓ws_par, ↓ws_seti, ↓ws_aug, ↓ws_augi, ↓ws_expr, ↓ws_ret, ↓ws_retN, ↓ws_pass, ↓ws_brk, ↓ws_cont, ↓ws_if, ↓ws_while, ↓ws_for, ↓ws_turn,      ow_next, ow_ret, ow_brk, ow_cont, end_ret, end_next,      ↓we_var, ↓we_int, ↓we_bl, ↓we_str, ↓we_non, ↓we_con, ↓we_bin, ↓we_neg, ↓we_cmp, ↓we_cmp2, ↓we_isN, ↓we_notN, ↓we_not, ↓we_ife, ↓we_and, ↓we_or, ↓we_and1, ↓we_or1, ↓we_and2, ↓we_or2, ↓we_tup, ↓we_lst, ↓we_lstN, ↓we_dct,      ↓we_idx, ↓we_slc, ↓we_call, ↓we_bi, ↓we_mt, ↓we_nil, ↓we_cons, ↓we_oN, ↓we_oS, ↓we_cN, ↓we_cS, ↓we_lc, ↓we_turn, ↓we_seq, ↓we_rng1, ↓we_rng2, ↓we_rng3, ↓we_enum, ↓we_zip, ↓we_test,      Int.reduceLE, Int.reduceLT, Int.reduceAbs, log_lit, Nat.reducePow, Int.reduceToNat, Int.reducePow, Int.reduceAdd, Int.reduceSub, Int.reduceMul, Int.reduceNeg, Int.reduceEq, decide_true, decide_false, small62_iff, small61_iff, sizeMax_val, and_true, true_and, and_self, W_ok, WO_some, Way_t, Way_f, Way_not, Sd_t, isBool_bl, isInt_int,      wo_add, wo_sub, wo_mul, wo_fdiv, wo_mod, wo_pow, wo_addS, wo_addT, wo_addL, wo_addLo, wo_addLl, wo_mulS, wo_mulL, wo_mulT, wo_neg, wc_eqI, wc_neI, wc_ltI, wc_gtI, wc_leI, wc_geI, wc_eqS, wc_neS, wc_in, wc_notin,      wi_S, wi_tup, wi_lst, wi_scr, wi_loc, wi_lo, wi_do, at_0, at_1, at_2, at_3, at_4, at_5, at_if, int_ite,      wb_lenS, wb_lenT, wb_lenL, wb_lenScr, wb_lenLo, lenO_lst, lenO_dct, wb_abs, wb_intI, wb_intB, wb_bool, wb_strS, wb_strI, wb_min2, wb_max2, wb_tupT, wb_tupL, wb_tupLo, wb_list, w_listS, w_listT, w_listL, w_listScr, w_listD, w_dictD, ↓we_litems, w_litems, ↓we_isx, ↓we_fld, ↓we_dpop, ↓we_dget, ↓we_dclr, ↓we_tix, isDc_loc, dcO_dct, wd_pop, popX_dct, w_popV, wd_get, dctV_dct, dctV_loc, dctO_dct, Option.isSome_some, wd_clr, clrO_dct, w_pr2, ↓ws_swp, ↓we_lcD, w_isDct, ↓ws_forD, ↓we_zip3, W_newL0, W_newL1, W_newT,      wm_append, appO_lst, wm_extend, extO_lst, recv_loc, recvO_lst, ws_set, setO_lst, setO_dct, lstX_lst, lstX_loc, seqV_loc, lstV_loc, lstV_lst, lstV_scr, wi_str, ↓wdct_nil, ↓wdct_cons, W_newD0, W_newD1, keyOf_str, keyOf_int, dput_nil, ↓we_isi, ↓we_lrg, w_lrg, w_rng3N, w_rng32, ↓we_lset, ↓we_isB, w_isB, w_lsetT, w_lsetL, ↓we_orv, w_orI, w_orN, w_orB, w_only, wb_sum, wb_min, wb_max, wb_sorted, wb_dict, wm_index, w_augA, w_augS, ty_non_int, ty_non_str, ty_non_bool, ty_non_tuple, ty_non_list, ty_non_dict, ty_bl_int, ty_bl_str, ty_bl_bool, ty_bl_tuple, ty_bl_list, ty_bl_dict, ty_int_int, ty_int_str, ty_int_bool, ty_int_tuple, ty_int_list, ty_int_dict, ty_str_int, ty_str_str, ty_str_bool, ty_str_tuple, ty_str_list, ty_str_dict, ty_tup_int, ty_tup_str, ty_tup_bool, ty_tup_tuple, ty_tup_list, ty_tup_dict, ty_lst_int, ty_lst_str, ty_lst_bool, ty_lst_tuple, ty_lst_list, ty_lst_dict, ty_dct_int, ty_dct_str, ty_dct_bool, ty_dct_tuple, ty_dct_list, ty_dct_dict, ty_scr_int, ty_scr_str, ty_scr_bool, ty_scr_tuple, ty_scr_list, ty_scr_dict, ↓we_sm0, ↓we_sm1, ↓we_rev, wsm_upper, wsm_join, wsm_split, wsm_part, wrev_lst, wrev_tup, wrev_loc, seqV_tup, seqV_lst1, seqV_scr1, wsl_tup, wsl_str, wsl_lst, wsl_scr, wsl_loc, popO_0, wm_popAt, wq_tup, wq_lst, wq_scr, wq_str, wq_loc,      isNon_non, isNon_bl, isNon_int, isNon_str, isNon_tup, isNon_lst, isNon_dct,      asgt_name, asg_tup, asg_nil, asg_cons, setEach, some_bind, wipe_nil, wipe_cons, if_t, ite_true, ite_false, Bool.not_true, Bool.not_false, Bool.false_eq_true,      List.append_assoc, List.length_append, List.length_map, List.map_cons, List.map_nil, List.cons_append, List.nil_append, List.replicate_succ, List.replicate_zero, Nat.reduceSub, Nat.reduceAdd, Nat.reduceLT, Nat.reduceLeDiff, Nat.reduceEqDiff, List.length_cons, List.length_nil, List.getElem?_cons_zero, List.getElem?_cons_succ, List.set_cons_zero, List.set_cons_succ, af_ret, af_brk, get_app, get_app0, set_app, set_app0, con3_MOST_BENCHES, con3_MOST_ROUNDS, con3_MOST_SEATS, con3_MOST_WORTHS, fn1_is_whole, fn2_is_from, fn3_is_from, fn3_is_row, fn3_is_whole, fn6__law_take, fn7__law_pick, fn7__law_take, fn8__law_number, fn8__law_pick, fn8__law_take, fn9__law_pick, fn9__law_take, fn10__law_pick, fn10__law_take, fn12__law_bent_0, fn12__law_odd, fn12__law_take, fn13__law_bent_1, fn13__law_odd, fn13__law_take, fn14__law_bent_2, fn14__law_odd, fn14__law_take, fn15__law_bent_3, fn15__law_odd, fn15__law_take, fn16__law_bent_4, fn16__law_odd, fn16__law_take, fn17__law_bent_5, fn17__law_odd, fn17__law_take, fn19__law_whole, fn20__law_row, fn20__law_whole, fn21__law_is_form, fn21_is_form, fn22__law_bent_6, fn22__law_form, fn22__law_hand, fn22__law_spoilt, fn22__law_told, fn22_is_form, $ts,*])
def fromD (k : Int) : D → Bool
  | .int i => decide (k ≤ i)
  | _ => false
def upD (k : Int) : D → Bool
  | .int i => decide (i ≤ k)
  | _ => false
def rowD : D → Bool
  | .tup xs => decide (1 ≤ xs.length) && decide (xs.length ≤ 6) && xs.all (fromD 1)
  | _ => false
def smallD : D → Bool
  | .tup xs => xs.all (upD 30)
  | _ => false
def formD : D → Bool
  | .tup [s, r, e, p, w] => rowD s && rowD w && smallD s && fromD 1 r && upD 12 r && fromD 0 e && fromD 1 p
  | _ => false
section
variable {s : Store} {d : D}
theorem whole_w (ok : StOk s) (hd : d.fine = true) : W (runF g0 d_is_whole [d] s) fun p => p = (.bl (isIntD d), s) := wholeDP d s ok (fine_under hd)
theorem from_w (ok : StOk s) (hd : d.fine = true) (k : Int) : W (runF g1 d_is_from [d, .int k] s) fun p => p = (.bl (fromD k d), s) := by
  unfold d_is_from
  simp_arith
  refine (whole_w ok hd).mono ?_
  rintro _ rfl
  cases d with
  | int i =>
    simp_arith [isIntD]
    exact W_fin0 ok rfl rfl
  | _ =>
    simp_arith [isIntD]
    exact W_fin0 ok rfl rfl
theorem row_w (ok : StOk s) (hd : d.fine = true) : W (runF g2 d_is_row [d, .int 6] s) fun p => p = (.bl (rowD d), s) := by
  unfold d_is_row
  cases d with
  | tup xs =>
    simp_arith
    unfold rowD
    refine wayD (fun h1 => ?_) (fun h1 => ?_)
    · simp_arith
      refine wayD (fun h2 => ?_) (fun h2 => ?_)
      · simp_arith
        refine W_map (fun x => .bl (fromD 1 x)) (by first | trivial | rfl) (fun x hx => ?_) ?_
        · simp_arith
          refine (from_w ok ((fine_tup.mp hd).2 x hx) 1).mono ?_
          rintro _ rfl
          simp_arith
        · simp_arith
          refine sd (by have := (fine_tup.mp hd).1; omega) ?_
          simp_arith
          refine (wb_all (bools_map _ _)).mpr ?_
          simp_arith
          refine W_fin0 ok rfl ?_
          have e1 : decide (1 ≤ xs.length) = true := by first | exact decide_eq_true (by omega) | exact decide_eq_false (by omega)
          have e2 : decide (xs.length ≤ 6) = true := by first | exact decide_eq_true (by omega) | exact decide_eq_false (by omega)
          rw [e1, e2, List.all_map]
          rfl
      · simp_arith
        refine W_fin0 ok rfl ?_
        have e2 : decide (xs.length ≤ 6) = false := by first | exact decide_eq_true (by omega) | exact decide_eq_false (by omega)
        rw [e2]; simp
    · simp_arith
      refine W_fin0 ok rfl ?_
      have e1 : decide (1 ≤ xs.length) = false := by first | exact decide_eq_true (by omega) | exact decide_eq_false (by omega)
      rw [e1]; simp
  | loc l => simp [D.fine] at hd
  | _ =>
    simp_arith
    exact W_fin0 ok rfl rfl
theorem all_tup : ∀ {xs : List D}, (D.tup xs).fine = true → ∀ x ∈ xs, x.fine = true := fun h => (fine_tup.mp h).2
theorem five {α : Type} {xs : List α} (h : xs.length = 5) : ∃ a b c d e, xs = [a, b, c, d, e] := by
  match xs, h with
  | [a, b, c, d, e], _ => exact ⟨_, _, _, _, _, rfl⟩
theorem row_ints {d : D} (h : rowD d = true) : ∃ zs : List Int, d = .tup (zs.map .int) ∧ 1 ≤ zs.length ∧ zs.length ≤ 6 ∧ ∀ z ∈ zs, 1 ≤ z := by
  cases d with
  | tup xs =>
    unfold rowD at h
    rw [Bool.and_eq_true, Bool.and_eq_true, decide_eq_true_eq, decide_eq_true_eq, List.all_eq_true] at h
    obtain ⟨⟨h1, h2⟩, h3⟩ := h
    obtain ⟨zs, rfl, hz⟩ := list_of (enc := D.int) (P := fun i => 1 ≤ i) (ds := xs) fun d hd => by
      have := h3 d hd
      cases d with
      | int i => exact ⟨i, rfl, of_decide_eq_true this⟩
      | _ => simp [fromD] at this
    rw [List.length_map] at h1 h2
    exact ⟨zs, rfl, h1, h2, hz⟩
  | _ => simp [rowD] at h
/-- what the program tells -/
theorem form_w (ok : StOk s) (hd : d.fine = true) : W (runF g3 d_is_form [d] s) fun p => p = (.bl (formD d), s) := by
  unfold d_is_form
  cases d with
  | tup xs =>
    simp_arith
    refine wayD (fun h1 => ?_) (fun h1 => ?_)
    · have h1 : xs.length = 5 := by omega
      obtain ⟨a, r, e, p, b, rfl⟩ := five h1
      have hx := all_tup hd
      have ha := hx a (by simp)
      have hr := hx r (by simp)
      have he := hx e (by simp)
      have hp := hx p (by simp)
      have hb := hx b (by simp)
      unfold formD
      simp_arith
      refine (row_w ok ha).mono ?_
      rintro _ rfl
      simp_arith
      cases ra : rowD a with
      | false =>
        simp_arith
        exact W_fin0 ok rfl rfl
      | true =>
        simp_arith
        refine (row_w ok hb).mono ?_
        rintro _ rfl
        simp_arith
        cases rb : rowD b with
        | false =>
          simp_arith
          exact W_fin0 ok rfl rfl
        | true =>
          simp_arith
          obtain ⟨zs, rfl, hz1, hz2, hz3⟩ := row_ints ra
          simp_arith
          refine W_mapT (enc := D.int) (F := fun i => .bl (!decide (i ≤ 30))) (by first | trivial | rfl) (fun i _ => ?_) ?_
          · simp_arith
            rw [show decide (30 < i) = !decide (i ≤ 30) by by_cases h : i ≤ 30 <;> simp [h] <;> omega]
          simp_arith
          refine sd (by omega) ?_
          simp_arith
          refine (wb_any (bools_map _ _)).mpr ?_
          simp_arith
          have esm : smallD (.tup (zs.map .int)) = !(zs.map fun i => !decide (i ≤ 30)).any id := by
            show (zs.map D.int).all (upD 30) = _
            rw [List.all_map, List.any_map, List.not_any_eq_all_not]
            congr 1
            funext i
            simp [upD]
          rw [esm]
          cases (zs.map fun i => !decide (i ≤ 30)).any id with
          | true =>
            simp_arith
            exact W_fin0 ok rfl rfl
          | false =>
            simp_arith
            refine (whole_w ok hr).mono ?_
            rintro _ rfl
            cases r with
            | int i =>
              simp_arith [isIntD]
              refine wayD (fun h2 => ?_) (fun h2 => ?_)
              · simp_arith
                refine wayD (fun h3 => ?_) (fun h3 => ?_)
                · have f1 : fromD 1 (.int i) = true := decide_eq_true h2
                  have f2 : upD 12 (.int i) = true := decide_eq_true h3
                  rw [f1, f2]
                  simp_arith
                  refine (from_w ok he 0).mono ?_
                  rintro _ rfl
                  cases fromD 0 e with
                  | false => simp_arith; exact W_fin0 ok rfl rfl
                  | true =>
                    simp_arith
                    refine (from_w ok hp 1).mono ?_
                    rintro _ rfl
                    simp_arith
                    exact W_fin0 ok rfl rfl
                · have f2 : upD 12 (.int i) = false := decide_eq_false h3
                  rw [f2]
                  simp_arith
                  refine W_fin0 ok rfl ?_
                  simp
              · have f1 : fromD 1 (.int i) = false := decide_eq_false h2
                rw [f1]
                simp_arith
                refine W_fin0 ok rfl ?_
                simp
            | _ =>
              simp_arith [isIntD]
              exact W_fin0 ok rfl rfl
    · simp_arith
      refine W_fin0 ok rfl ?_
      have : formD (.tup xs) = false := by
        unfold formD
        split
        · rename_i h; injection h with h; subst h; simp at h1
        · rfl
      rw [this]
  | loc l => simp [D.fine] at hd
  | _ =>
    simp_arith
    exact W_fin0 ok rfl rfl
end
end K02

end
section
set_option Elab.async false
set_option linter.all false
set_option maxRecDepth 100000
set_option autoImplicit false
set_option maxHeartbeats 2000000
namespace K02
open DV
open PySem (Str)
local macro_rules
  | `(tactic| simp_arith) => `(tactic| simp_arith [])
  | `(tactic| simp_arith [$ts,*]) => `(tactic| simp only [↓W_run, ↓ws_nil, ↓W_way, ↓ws_cons, ↓ws_asg, ↓ws_par, ↓ws_seti, ↓ws_aug, ↓ws_augi, ↓ws_expr, ↓ws_ret, ↓ws_retN, ↓ws_pass, ↓ws_brk, ↓ws_cont, ↓ws_if, ↓ws_while, ↓ws_for, ↓ws_turn,      ow_next, ow_ret, ow_brk, ow_cont, end_ret, end_next,      ↓we_var, ↓we_int, ↓we_bl, ↓we_str, ↓we_non, ↓we_con, ↓we_bin, ↓we_neg, ↓we_cmp, ↓we_cmp2, ↓we_isN, ↓we_notN, ↓we_not, ↓we_ife, ↓we_and, ↓we_or, ↓we_and1, ↓we_or1, ↓we_and2, ↓we_or2, ↓we_tup, ↓we_lst, ↓we_lstN, ↓we_dct,      ↓we_idx, ↓we_slc, ↓we_call, ↓we_bi, ↓we_mt, ↓we_nil, ↓we_cons, ↓we_oN, ↓we_oS, ↓we_cN, ↓we_cS, ↓we_lc, ↓we_turn, ↓we_seq, ↓we_rng1, ↓we_rng2, ↓we_rng3, ↓we_enum, ↓we_zip, ↓we_test,      Int.reduceLE, Int.reduceLT, Int.reduceAbs, log_lit, Nat.reducePow, Int.reduceToNat, Int.reducePow, Int.reduceAdd, Int.reduceSub, Int.reduceMul, Int.reduceNeg, Int.reduceEq, decide_true, decide_false, small62_iff, small61_iff, sizeMax_val, and_true, true_and, and_self, W_ok, WO_some, Way_t, Way_f, Way_not, Sd_t, isBool_bl, isInt_int,      wo_add, wo_sub, wo_mul, wo_fdiv, wo_mod, wo_pow, wo_addS, wo_addT, wo_addL, wo_addLo, wo_addLl, wo_mulS, wo_mulL, wo_mulT, wo_neg, wc_eqI, wc_neI, wc_ltI, wc_gtI, wc_leI, wc_geI, wc_eqS, wc_neS, wc_in, wc_notin,      wi_S, wi_tup, wi_lst, wi_scr, wi_loc, wi_lo, wi_do, at_0, at_1, at_2, at_3, at_4, at_5, at_if, int_ite,      wb_lenS, wb_lenT, wb_lenL, wb_lenScr, wb_lenLo, lenO_lst, lenO_dct, wb_abs, wb_intI, wb_intB, wb_bool, wb_strS, wb_strI, wb_min2, wb_max2, wb_tupT, wb_tupL, wb_tupLo, wb_list, w_listS, w_listT, w_listL, w_listScr, w_listD, w_dictD, ↓we_litems, w_litems, ↓we_isx, ↓we_fld, ↓we_dpop, ↓we_dget, ↓we_dclr, ↓we_tix, isDc_loc, dcO_dct, wd_pop, popX_dct, w_popV, wd_get, dctV_dct, dctV_loc, dctO_dct, Option.isSome_some, wd_clr, clrO_dct, w_pr2, ↓ws_swp, ↓we_lcD, w_isDct, ↓ws_forD, ↓we_zip3, W_newL0, W_newL1, W_newT,      wm_append, appO_lst, wm_extend, extO_lst, recv_loc, recvO_lst, ws_set, setO_lst, setO_dct, lstX_lst, lstX_loc, seqV_loc, lstV_loc, lstV_lst, lstV_scr, wi_str, ↓wdct_nil, ↓wdct_cons, W_newD0, W_newD1, keyOf_str, keyOf_int, dput_nil, ↓we_isi, ↓we_lrg, w_lrg, w_rng3N, w_rng32, ↓we_lset, ↓we_isB, w_isB, w_lsetT, w_lsetL, ↓we_orv, w_orI, w_orN, w_orB, w_only, wb_sum, wb_min, wb_max, wb_sorted, wb_dict, wm_index, w_augA, w_augS, ty_non_int, ty_non_str, ty_non_bool, ty_non_tuple, ty_non_list, ty_non_dict, ty_bl_int, ty_bl_str, ty_bl_bool, ty_bl_tuple, ty_bl_list, ty_bl_dict, ty_int_int, ty_int_str, ty_int_bool, ty_int_tuple, ty_int_list, ty_int_dict, ty_str_int, ty_str_str, ty_str_bool, ty_str_tuple, ty_str_list, ty_str_dict, ty_tup_int, ty_tup_str, ty_tup_bool, ty_tup_tuple, ty_tup_list, ty_tup_dict, ty_lst_int, ty_lst_str, ty_lst_bool, ty_lst_tuple, ty_lst_list, ty_lst_dict, ty_dct_int, ty_dct_str, ty_dct_bool, ty_dct_tuple, ty_dct_list, ty_dct_dict, ty_scr_int, ty_scr_str, ty_scr_bool, ty_scr_tuple, ty_scr_list, ty_scr_dict, ↓we_sm0, ↓we_sm1, ↓we_rev, wsm_upper, wsm_join, wsm_split, wsm_part, wrev_lst, wrev_tup, wrev_loc, seqV_tup, seqV_lst1, seqV_scr1, wsl_tup, wsl_str, wsl_lst, wsl_scr, wsl_loc, popO_0, wm_popAt, wq_tup, wq_lst, wq_scr, wq_str, wq_loc,      isNon_non, isNon_bl, isNon_int, isNon_str, isNon_tup, isNon_lst, isNon_dct,      asgt_name, asg_tup, asg_nil, asg_cons, setEach, some_bind, wipe_nil, wipe_cons, if_t, ite_true, ite_false, Bool.not_true, Bool.not_false, Bool.false_eq_true,      List.append_assoc, List.length_append, List.length_map, List.map_cons, List.map_nil, List.cons_append, List.nil_append, List.replicate_succ, List.replicate_zero, Nat.reduceSub, Nat.reduceAdd, Nat.reduceLT, Nat.reduceLeDiff, Nat.reduceEqDiff, List.length_cons, List.length_nil, List.getElem?_cons_zero, List.getElem?_cons_succ, List.set_cons_zero, List.set_cons_succ, af_ret, af_brk, get_app, get_app0, set_app, set_app0, con3_MOST_BENCHES, con3_MOST_ROUNDS, con3_MOST_SEATS, con3_MOST_WORTHS, fn1_is_whole, fn2_is_from, fn3_is_from, fn3_is_row, fn3_is_whole, fn6__law_take, fn7__law_pick, fn7__law_take, fn8__law_number, fn8__law_pick, fn8__law_take, fn9__law_pick, fn9__law_take, fn10__law_pick, fn10__law_take, fn12__law_bent_0, fn12__law_odd, fn12__law_take, fn13__law_bent_1, fn13__law_odd, fn13__law_take, fn14__law_bent_2, fn14__law_odd, fn14__law_take, fn15__law_bent_3, fn15__law_odd, fn15__law_take, fn16__law_bent_4, fn16__law_odd, fn16__law_take, fn17__law_bent_5, fn17__law_odd, fn17__law_take, fn19__law_whole, fn20__law_row, fn20__law_whole, fn21__law_is_form, fn21_is_form, fn22__law_bent_6, fn22__law_form, fn22__law_hand, fn22__law_spoilt, fn22__law_told, fn22_is_form, $ts,*])
section
variable {s : Store} {d : D}
theorem lwhole_w (ok : StOk s) (hd : d.fine = true) (k : Int) : W (runF g18 d__law_whole [d, .int k] s) fun p => p = (.bl (fromD k d), s) := by
  unfold d__law_whole
  cases d with
  | loc l => simp [D.fine] at hd
  | _ =>
    simp_arith
    exact W_fin0 ok rfl rfl
theorem lrow_w (ok : StOk s) (hd : d.fine = true) : W (runF g19 d__law_row [d] s) fun p => p = (.bl (rowD d), s) := by
  unfold d__law_row
  cases d with
  | tup xs =>
    simp_arith
    unfold rowD
    refine wayD (fun h1 => ?_) (fun h1 => ?_)
    · simp_arith
      refine wayD (fun h2 => ?_) (fun h2 => ?_)
      · simp_arith
        refine W_map (fun x => .bl (fromD 1 x)) (by first | trivial | rfl) (fun x hx => ?_) ?_
        · simp_arith
          refine (lwhole_w ok ((fine_tup.mp hd).2 x hx) 1).mono ?_
          rintro _ rfl
          simp_arith
        · simp_arith
          refine sd (by have := (fine_tup.mp hd).1; omega) ?_
          simp_arith
          refine (wb_all (bools_map _ _)).mpr ?_
          simp_arith
          refine W_fin0 ok rfl ?_
          have e1 : decide (1 ≤ xs.length) = true := decide_eq_true (by omega)
          have e2 : decide (xs.length ≤ 6) = true := decide_eq_true (by omega)
          rw [e1, e2, List.all_map]
          rfl
      · simp_arith
        refine W_fin0 ok rfl ?_
        have e2 : decide (xs.length ≤ 6) = false := decide_eq_false (by omega)
        rw [e2]; simp
    · simp_arith
      refine W_fin0 ok rfl ?_
      have e1 : decide (1 ≤ xs.length) = false := decide_eq_false (by omega)
      rw [e1]; simp
  | loc l => simp [D.fine] at hd
  | _ =>
    simp_arith
    exact W_fin0 ok rfl rfl
theorem max_le (zs : List Int) (n k : Int) : decide (k < zs.foldl (fun a b => if a < b then b else a) n) = !((n :: zs).all fun i => decide (i ≤ k)) := by
  induction zs generalizing n with
  | nil =>
    by_cases h : n ≤ k
    · rw [List.foldl_nil, decide_eq_false (show ¬ k < n by omega)]; simp [h]
    · rw [List.foldl_nil, decide_eq_true (show k < n by omega)]; simp [h]
  | cons z zs ih =>
    rw [List.foldl_cons, ih]
    simp only [List.all_cons]
    congr 1
    rw [← Bool.and_assoc]
    congr 1
    split
    · by_cases h : z ≤ k
      · rw [decide_eq_true h, decide_eq_true (show n ≤ k by omega)]; rfl
      · rw [decide_eq_false h]; simp
    · by_cases h : n ≤ k
      · rw [decide_eq_true h, decide_eq_true (show z ≤ k by omega)]; rfl
      · rw [decide_eq_false h]; simp
/-- what the law's own walk tells -/
theorem lform_w (ok : StOk s) (hd : d.fine = true) : W (runF g20 d__law_is_form [d] s) fun p => p = (.bl (formD d), s) := by
  unfold d__law_is_form
  cases d with
  | tup xs =>
    simp_arith
    refine wayD (fun h1 => ?_) (fun h1 => ?_)
    · have h1 : xs.length = 5 := by omega
      obtain ⟨a, r, e, p, b, rfl⟩ := five h1
      have hx := all_tup hd
      have ha := hx a (by simp)
      have hr := hx r (by simp)
      have he := hx e (by simp)
      have hp := hx p (by simp)
      have hb := hx b (by simp)
      unfold formD
      simp_arith
      refine (lrow_w ok ha).mono ?_
      rintro _ rfl
      simp_arith
      cases ra : rowD a with
      | false =>
        simp_arith
        exact W_fin0 ok rfl rfl
      | true =>
        simp_arith
        refine (lrow_w ok hb).mono ?_
        rintro _ rfl
        simp_arith
        cases rb : rowD b with
        | false =>
          simp_arith
          exact W_fin0 ok rfl rfl
        | true =>
          simp_arith
          obtain ⟨zs, rfl, hz1, hz2, hz3⟩ := row_ints ra
          cases zs with
          | nil => simp at hz1
          | cons z zs =>
            rw [List.map_cons]
            refine W_maxT.mpr ?_
            simp_arith
            rw [max_le]
            have esm : smallD (.tup (.int z :: zs.map .int)) = ((z :: zs).all fun i => decide (i ≤ 30)) := by
              show (.int z :: zs.map D.int).all (upD 30) = _
              rw [← List.map_cons (f := D.int), List.all_map]
              rfl
            rw [esm]
            cases (z :: zs).all fun i => decide (i ≤ 30) with
            | false =>
              simp_arith
              exact W_fin0 ok rfl rfl
            | true =>
              simp_arith
              refine (lwhole_w ok hr 1).mono ?_
              rintro _ rfl
              cases r with
              | int i =>
                simp_arith
                cases f1 : fromD 1 (.int i) with
                | false =>
                  simp_arith
                  exact W_fin0 ok rfl (by simp)
                | true =>
                  simp_arith
                  refine wayD (fun h3 => ?_) (fun h3 => ?_)
                  · have f2 : upD 12 (.int i) = false := decide_eq_false (by omega)
                    rw [f2]
                    simp_arith
                    refine W_fin0 ok rfl ?_
                    simp
                  · have f2 : upD 12 (.int i) = true := decide_eq_true (by omega)
                    rw [f2]
                    simp_arith
                    refine (lwhole_w ok he 0).mono ?_
                    rintro _ rfl
                    cases fromD 0 e with
                    | false => simp_arith; exact W_fin0 ok rfl rfl
                    | true =>
                      simp_arith
                      refine (lwhole_w ok hp 1).mono ?_
                      rintro _ rfl
                      simp_arith
                      exact W_fin0 ok rfl rfl
              | _ =>
                simp_arith [fromD]
                exact W_fin0 ok rfl rfl
    · simp_arith
      refine W_fin0 ok rfl ?_
      have : formD (.tup xs) = false := by
        unfold formD
        split
        · rename_i h; injection h with h; subst h; simp at h1
        · rfl
      rw [this]
  | loc l => simp [D.fine] at hd
  | _ =>
    simp_arith
    exact W_fin0 ok rfl rfl
theorem told_w (ok : StOk s) (hd : d.fine = true) : W (runF g21 d__law_told [d] s) fun p => p = (.bl true, s) := by
  unfold d__law_told
  simp_arith
  refine (form_w ok hd).mono ?_
  rintro _ rfl
  simp_arith
  refine (lform_w ok hd).mono ?_
  rintro _ rfl
  simp_arith
  refine (wc_eqD rfl rfl ⟨rfl, rfl, .inl (Nat.zero_le _)⟩).mpr ?_
  simp_arith
  exact W_fin0 ok rfl (by cases formD d <;> rfl)
end
end K02

end
section
set_option Elab.async false
set_option linter.all false
set_option maxRecDepth 100000
set_option autoImplicit false
set_option maxHeartbeats 2000000
namespace K02
open DV
open PySem (Str)
local macro_rules
  | `(tactic| simp_arith) => `(tactic| simp_arith [])
  | `(tactic| simp_arith [$ts,*]) => `(tactic| simp only [↓W_run, ↓ws_nil, ↓W_way, ↓ws_cons, ↓ws_asg, ↓ws_par, ↓ws_seti, ↓ws_aug, ↓ws_augi, ↓ws_expr, ↓ws_ret, ↓ws_retN, ↓ws_pass, ↓ws_brk, ↓ws_cont, ↓ws_if, ↓ws_while, ↓ws_for, ↓ws_turn,      ow_next, ow_ret, ow_brk, ow_cont, end_ret, end_next,      ↓we_var, ↓we_int, ↓we_bl, ↓we_str, ↓we_non, ↓we_con, ↓we_bin, ↓we_neg, ↓we_cmp, ↓we_cmp2, ↓we_isN, ↓we_notN, ↓we_not, ↓we_ife, ↓we_and, ↓we_or, ↓we_and1, ↓we_or1, ↓we_and2, ↓we_or2, ↓we_tup, ↓we_lst, ↓we_lstN, ↓we_dct,      ↓we_idx, ↓we_slc, ↓we_call, ↓we_bi, ↓we_mt, ↓we_nil, ↓we_cons, ↓we_oN, ↓we_oS, ↓we_cN, ↓we_cS, ↓we_lc, ↓we_turn, ↓we_seq, ↓we_rng1, ↓we_rng2, ↓we_rng3, ↓we_enum, ↓we_zip, ↓we_test,      Int.reduceLE, Int.reduceLT, Int.reduceAbs, log_lit, Nat.reducePow, Int.reduceToNat, Int.reducePow, Int.reduceAdd, Int.reduceSub, Int.reduceMul, Int.reduceNeg, Int.reduceEq, decide_true, decide_false, small62_iff, small61_iff, sizeMax_val, and_true, true_and, and_self, W_ok, WO_some, Way_t, Way_f, Way_not, Sd_t, isBool_bl, isInt_int,      wo_add, wo_sub, wo_mul, wo_fdiv, wo_mod, wo_pow, wo_addS, wo_addT, wo_addL, wo_addLo, wo_addLl, wo_mulS, wo_mulL, wo_mulT, wo_neg, wc_eqI, wc_neI, wc_ltI, wc_gtI, wc_leI, wc_geI, wc_eqS, wc_neS, wc_in, wc_notin,      wi_S, wi_tup, wi_lst, wi_scr, wi_loc, wi_lo, wi_do, at_0, at_1, at_2, at_3, at_4, at_5, at_if, int_ite,      wb_lenS, wb_lenT, wb_lenL, wb_lenScr, wb_lenLo, lenO_lst, lenO_dct, wb_abs, wb_intI, wb_intB, wb_bool, wb_strS, wb_strI, wb_min2, wb_max2, wb_tupT, wb_tupL, wb_tupLo, wb_list, w_listS, w_listT, w_listL, w_listScr, w_listD, w_dictD, ↓we_litems, w_litems, ↓we_isx, ↓we_fld, ↓we_dpop, ↓we_dget, ↓we_dclr, ↓we_tix, isDc_loc, dcO_dct, wd_pop, popX_dct, w_popV, wd_get, dctV_dct, dctV_loc, dctO_dct, Option.isSome_some, wd_clr, clrO_dct, w_pr2, ↓ws_swp, ↓we_lcD, w_isDct, ↓ws_forD, ↓we_zip3, W_newL0, W_newL1, W_newT,      wm_append, appO_lst, wm_extend, extO_lst, recv_loc, recvO_lst, ws_set, setO_lst, setO_dct, lstX_lst, lstX_loc, seqV_loc, lstV_loc, lstV_lst, lstV_scr, wi_str, ↓wdct_nil, ↓wdct_cons, W_newD0, W_newD1, keyOf_str, keyOf_int, dput_nil, ↓we_isi, ↓we_lrg, w_lrg, w_rng3N, w_rng32, ↓we_lset, ↓we_isB, w_isB, w_lsetT, w_lsetL, ↓we_orv, w_orI, w_orN, w_orB, w_only, wb_sum, wb_min, wb_max, wb_sorted, wb_dict, wm_index, w_augA, w_augS, ty_non_int, ty_non_str, ty_non_bool, ty_non_tuple, ty_non_list, ty_non_dict, ty_bl_int, ty_bl_str, ty_bl_bool, ty_bl_tuple, ty_bl_list, ty_bl_dict, ty_int_int, ty_int_str, ty_int_bool, ty_int_tuple, ty_int_list, ty_int_dict, ty_str_int, ty_str_str, ty_str_bool, ty_str_tuple, ty_str_list, ty_str_dict, ty_tup_int, ty_tup_str, ty_tup_bool, ty_tup_tuple, ty_tup_list, ty_tup_dict, ty_lst_int, ty_lst_str, ty_lst_bool, ty_lst_tuple, ty_lst_list, ty_lst_dict, ty_dct_int, ty_dct_str, ty_dct_bool, ty_dct_tuple, ty_dct_list, ty_dct_dict, ty_scr_int, ty_scr_str, ty_scr_bool, ty_scr_tuple, ty_scr_list, ty_scr_dict, ↓we_sm0, ↓we_sm1, ↓we_rev, wsm_upper, wsm_join, wsm_split, wsm_part, wrev_lst, wrev_tup, wrev_loc, seqV_tup, seqV_lst1, seqV_scr1, wsl_tup, wsl_str, wsl_lst, wsl_scr, wsl_loc, popO_0, wm_popAt, wq_tup, wq_lst, wq_scr, wq_str, wq_loc,      isNon_non, isNon_bl, isNon_int, isNon_str, isNon_tup, isNon_lst, isNon_dct,      asgt_name, asg_tup, asg_nil, asg_cons, setEach, some_bind, wipe_nil, wipe_cons, if_t, ite_true, ite_false, Bool.not_true, Bool.not_false, Bool.false_eq_true,      List.append_assoc, List.length_append, List.length_map, List.map_cons, List.map_nil, List.cons_append, List.nil_append, List.replicate_succ, List.replicate_zero, Nat.reduceSub, Nat.reduceAdd, Nat.reduceLT, Nat.reduceLeDiff, Nat.reduceEqDiff, List.length_cons, List.length_nil, List.getElem?_cons_zero, List.getElem?_cons_succ, List.set_cons_zero, List.set_cons_succ, af_ret, af_brk, get_app, get_app0, set_app, set_app0, con3_MOST_BENCHES, con3_MOST_ROUNDS, con3_MOST_SEATS, con3_MOST_WORTHS, fn1_is_whole, fn2_is_from, fn3_is_from, fn3_is_row, fn3_is_whole, fn6__law_take, fn7__law_pick, fn7__law_take, fn8__law_number, fn8__law_pick, fn8__law_take, fn9__law_pick, fn9__law_take, fn10__law_pick, fn10__law_take, fn12__law_bent_0, fn12__law_odd, fn12__law_take, fn13__law_bent_1, fn13__law_odd, fn13__law_take, fn14__law_bent_2, fn14__law_odd, fn14__law_take, fn15__law_bent_3, fn15__law_odd, fn15__law_take, fn16__law_bent_4, fn16__law_odd, fn16__law_take, fn17__law_bent_5, fn17__law_odd, fn17__law_take, fn19__law_whole, fn20__law_row, fn20__law_whole, fn21__law_is_form, fn21_is_form, fn22__law_bent_6, fn22__law_form, fn22__law_hand, fn22__law_spoilt, fn22__law_told, fn22_is_form, $ts,*])
theorem take_ : HasT kindA (runF g5 d__law_take) := takeA
theorem pick_ : HasP kindA (runF g6 d__law_pick) := pick_of (by rw [fn6__law_take]; exact take_)
theorem pickS_ : HasPS kindA (runF g6 d__law_pick) := pickS_of (by rw [fn6__law_take]; exact take_)
theorem odd_ {l k : Nat} {d : D} (h : Bt k d) : Draws kindA l 3 (fun v => v.fine = true) (runF g10 d__law_odd [.loc l, d]) :=
  oddP (g := g10) (by rw [fn10__law_take]; exact take_) (by rw [fn10__law_pick]; exact pick_) (by rw [fn10__law_pick]; exact pickS_) h
theorem bent3_ {l k : Nat} {d : D} (h : Bt k d) (hk : k ≤ 0) : Draws kindA l 5 (fun v => v.fine = true) (runF g14 d__law_bent_3 [.loc l, d]) :=
  bentP (g := g14) (n := "_law_bent#2") (B := 0) (by rw [fn14__law_take]; exact take_) (by rw [fn14__law_odd]; exact odd_) h fun j e hj he => by omega
theorem bent4_ {l k : Nat} {d : D} (h : Bt k d) (hk : k ≤ 1) : Draws kindA l 10 (fun v => v.fine = true) (runF g15 d__law_bent_4 [.loc l, d]) :=
  bentP (g := g15) (n := "_law_bent#3") (B := 5) (by rw [fn15__law_take]; exact take_) (by rw [fn15__law_odd]; exact odd_) h fun j e hj he => by rw [fn15__law_bent_3]; exact bent3_ he (by omega)
theorem bent5_ {l k : Nat} {d : D} (h : Bt k d) (hk : k ≤ 2) : Draws kindA l 15 (fun v => v.fine = true) (runF g16 d__law_bent_5 [.loc l, d]) :=
  bentP (g := g16) (n := "_law_bent#4") (B := 10) (by rw [fn16__law_take]; exact take_) (by rw [fn16__law_odd]; exact odd_) h fun j e hj he => by rw [fn16__law_bent_4]; exact bent4_ he (by omega)
theorem bent6_ {l k : Nat} {d : D} (h : Bt k d) (hk : k ≤ 3) : Draws kindA l 20 (fun v => v.fine = true) (runF g17 d__law_bent_6 [.loc l, d]) :=
  bentP (g := g17) (n := "_law_bent#5") (B := 15) (by rw [fn17__law_take]; exact take_) (by rw [fn17__law_odd]; exact odd_) h fun j e hj he => by rw [fn17__law_bent_5]; exact bent5_ he (by omega)
/-- the forms drawn -/
structure IsForm (d : D) : Prop where
  ok : formD d = true
  bt : Bt 2 d
  sh : ∃ (zs ws : List Int) (r e p : Int), d = .tup [.tup (zs.map .int), .int r, .int e, .int p, .tup (ws.map .int)] ∧ 1 ≤ zs.length ∧ zs.length ≤ 6 ∧ 1 ≤ ws.length ∧ ws.length ≤ 6 
theorem number_ {l : Nat} {k : Int} (hk : 0 ≤ k ∧ k ≤ 1) : Draws kindA l 3 (IntIn k 100000000000000000000000000002) (runF g7 d__law_number [.loc l, .int k]) := by
  unfold d__law_number
  refine Draws.run rfl fun b n os s hd => ?_
  have hd0 := hd
  simp_arith
  refine take_k take_ (by omega) (by omega) hd (fun s1 c hd c0 c1 => ?_)
  simp_arith
  refine pickI_k pick_.ints [0, 0, 1, 2, c, 100000000000000000000000000000] (by simp) (by simp) (hd.drop (n := n + 1 + 1) (by omega)) (fun s2 i hd hi => ?_)
  have hi : 0 ≤ i ∧ i ≤ 100000000000000000000000000000 := by
    simp only [List.mem_cons, List.not_mem_nil, or_false] at hi
    omega
  simp_arith
  exact W_finH hd0 hd rfl ⟨hd.drop (by omega), _, rfl, by omega, by omega⟩
theorem row_of {zs : List Int} (h1 : 1 ≤ zs.length) (h2 : zs.length ≤ 6) (h : ∀ z ∈ zs, 1 ≤ z) : rowD (.tup (zs.map .int)) = true := by
  show (decide (1 ≤ (zs.map D.int).length) && decide ((zs.map D.int).length ≤ 6) && (zs.map D.int).all (fromD 1)) = true
  rw [List.length_map, decide_eq_true h1, decide_eq_true h2, List.all_map]
  simpa [fromD] using h
theorem bt_ints {k : Nat} {zs : List Int} (h2 : zs.length ≤ 60) (h : ∀ z ∈ zs, -1 ≤ z ∧ z ≤ 100000000000000000000000000003) : Bt (k + 1) (.tup (zs.map .int)) :=
  .tup (fun x hx => by obtain ⟨z, hz, rfl⟩ := List.mem_map.mp hx; have := h z hz; exact .int (by omega) (by omega)) (by rw [List.length_map]; omega)
theorem form_ {l : Nat} : Draws kindA l 100 IsForm (runF g8 d__law_form [.loc l]) := by
  unfold d__law_form
  refine Draws.run rfl fun b n os s hd => ?_
  have hd0 := hd
  simp_arith
  refine take_k take_ (by omega) (by omega) hd (fun s1 c hd c0 c1 => ?_)
  simp_arith
  refine sd ⟨by omega, by omega⟩ ?_
  refine W_drawH (n := n + 93) (IntIn 1 31) 1 6 (hd.drop (by omega)) (by rw [rngL_length]; omega) (fun _ _ _ => trivial) (fun x hx j s hd => ?_) (fun vs s hl hv hd => ?_)
  · simp_arith
    refine pickI_k pick_.ints [1, 2, 3, 4, 29, 30] (by simp) (by simp) hd (fun s2 i hd hi => ?_)
    simp only [List.mem_cons, List.not_mem_nil, or_false] at hi
    simp_arith
    exact ⟨hd, _, rfl, _, rfl, by omega, by omega⟩
  obtain ⟨zs, rfl, hzs⟩ := ints_of hv
  have hzl : zs.length = (1 + c).toNat := by rw [rngL_length, List.length_map] at hl; omega
  simp_arith [List.length_map, show zs.length ≤ 16777216 by omega]
  refine take_k take_ (by omega) (by omega) hd (fun s1 c2 hd c20 c21 => ?_)
  simp_arith
  refine pickI_k pick_.ints [1, 12, 1 + c2] (by simp) (by simp) hd (fun s2 r hd hr => ?_)
  have hr : 1 ≤ r ∧ r ≤ 12 := by simp only [List.mem_cons, List.not_mem_nil, or_false] at hr; omega
  simp_arith
  refine draw_k (number_ ⟨by omega, by omega⟩) (hd.drop (n := n + 50 + 3) (by omega)) fun s v hd hv => ?_
  obtain ⟨e, rfl, e0, e1⟩ := hv
  simp_arith
  refine draw_k (number_ ⟨by omega, by omega⟩) (hd.drop (n := n + 47 + 3) (by omega)) fun s v hd hv => ?_
  obtain ⟨p, rfl, p0, p1⟩ := hv
  simp_arith
  refine take_k take_ (by omega) (by omega) hd (fun s1 c3 hd c30 c31 => ?_)
  simp_arith
  refine sd ⟨by omega, by omega⟩ ?_
  refine W_drawH (n := n + 20) (IntIn 1 100000000000000000000000000002) 3 6 (hd.drop (by omega)) (by rw [rngL_length]; omega) (fun _ _ _ => trivial) (fun x hx j s hd => ?_) (fun vs s hl hv hd => ?_)
  · simp_arith
    refine draw_k (number_ ⟨by omega, by omega⟩) hd fun s v hd hv => ?_
    simp_arith
    exact ⟨hd, _, rfl, hv⟩
  obtain ⟨ws, rfl, hws⟩ := ints_of hv
  have hwl : ws.length = (1 + c3).toNat := by rw [rngL_length, List.length_map] at hl; omega
  simp_arith [List.length_map, show ws.length ≤ 16777216 by omega]
  refine W_finH hd0 hd ?_ ⟨hd.drop (by omega), ?_, ?_, ?_⟩
  · simp [under_tup, unders, under_int, ints_under]
  · unfold formD
    dsimp only
    rw [row_of (by omega) (by omega) (fun z hz => (hzs z hz).1), row_of (by omega) (by omega) (fun z hz => (hws z hz).1)]
    have h1 : smallD (.tup (zs.map .int)) = true := by
      show (zs.map D.int).all (upD 30) = true
      rw [List.all_map, List.all_eq_true]
      intro z hz
      have := hzs z hz
      exact decide_eq_true (by omega)
    have h2 : fromD 1 (.int r) = true := decide_eq_true (by omega)
    have h3 : upD 12 (.int r) = true := decide_eq_true (by omega)
    have h4 : fromD 0 (.int e) = true := decide_eq_true (by omega)
    have h5 : fromD 1 (.int p) = true := decide_eq_true (by omega)
    rw [h1, h2, h3, h4, h5]; rfl
  · refine .tup (fun x hx => ?_) (by simp)
    simp only [List.mem_cons, List.not_mem_nil, or_false] at hx
    rcases hx with rfl | rfl | rfl | rfl | rfl
    · exact bt_ints (by omega) fun z hz => by have := hzs z hz; omega
    · exact .int (by omega) (by omega)
    · exact .int (by omega) (by omega)
    · exact .int (by omega) (by omega)
    · exact bt_ints (by omega) fun z hz => by have := hws z hz; omega
  · exact ⟨zs, ws, r, e, p, rfl, by omega, by omega, by omega, by omega⟩
theorem ix50 : ixN 5 0 = some 0 := rfl
theorem ix51 : ixN 5 1 = some 1 := rfl
theorem ix52 : ixN 5 2 = some 2 := rfl
theorem ix53 : ixN 5 3 = some 3 := rfl
theorem ix54 : ixN 5 4 = some 4 := rfl
theorem rep_length {α : Type} (k : Nat) (xs : List α) : (rep k xs).length = k * xs.length := by
  unfold rep
  induction k with
  | zero => simp
  | succ k ih => rw [List.replicate_succ, List.flatten_cons, List.length_append, ih, Nat.succ_mul, Nat.add_comm]
theorem rep_mem {α : Type} {k : Nat} {xs : List α} {x : α} (h : x ∈ rep k xs) : x ∈ xs := by
  unfold rep at h
  obtain ⟨l, hl, hx⟩ := List.mem_flatten.mp h
  rw [(List.mem_replicate.mp hl).2] at hx
  exact hx
theorem spoilt_ {l : Nat} {d : D} (h : IsForm d) : Draws kindA l 10 (fun v => v.fine = true) (runF g9 d__law_spoilt [.loc l, d]) := by
  unfold d__law_spoilt
  refine Draws.run rfl fun b n os s hd => ?_
  have hd0 := hd
  have hf := h.bt.fine
  obtain ⟨zs, ws, r, e, p, rfl, hz1, hz2, hw1, hw2⟩ := h.sh
  have hfx := all_tup hf
  simp_arith
  refine take_k take_ (by omega) (by omega) hd (fun s1 c hd c0 c1 => ?_)
  have hc : c = 0 ∨ c = 1 ∨ c = 2 ∨ c = 3 ∨ c = 4 := by omega
  have hls : s.length = s1.length := by rw [hd0.len, hd.len]
  have own := hd.own.push (o := .lst [D.tup (zs.map .int), .int r, .int e, .int p, .tup (ws.map .int)]) (by simp [SO.under, unders, under_tup, under_int, ints_under])
  have row : ∀ (is : List Int), 1 ≤ is.length → is.length ≤ 6 → True := fun _ _ _ => trivial
  rcases hc with rfl | rfl | rfl | rfl | rfl
  · have hin : ∀ m, inM m (.int 0) (.tup [.int 0, .int 4]) = .ok true := fun m => rfl
    simp_arith [hin]
    refine takeO_k take_ (by omega) (by omega) (own.drop (n' := n + 5 + 1) (by omega)) (fun s2 e2 own e20 e21 => ?_)
    have hc : ∀ lo hi, (cut (zs.map D.int) lo hi).length ≤ 6 := fun lo hi => Nat.le_trans (cut_len _ lo hi) (by rw [List.length_map]; omega)
    have hz : ∀ lo hi, ∀ x ∈ cut (zs.map D.int) lo hi, x.fine = true := fun lo hi x h => by obtain ⟨z, hz, rfl⟩ := List.mem_map.mp (mem_cut h); rfl
    have c1' : ∀ lo hi, ((cut (zs.map D.int) lo hi).length ≤ 16777216) = True := fun lo hi => eq_true (by have := hc lo hi; omega)
    have c2' : ∀ lo hi lo' hi', ((cut (zs.map D.int) lo hi).length + 1 + (cut (zs.map D.int) lo' hi').length ≤ 16777216) = True := fun lo hi lo' hi' => eq_true (by have := hc lo hi; have := hc lo' hi'; omega)
    have c4' : ∀ lo hi lo' hi', ((cut (zs.map D.int) lo hi).length + ((cut (zs.map D.int) lo' hi').length + 1) ≤ 16777216) = True := fun lo hi lo' hi' => eq_true (by have := hc lo hi; have := hc lo' hi'; omega)
    have c3' : ∀ lo hi, ((cut (zs.map D.int) lo hi).length ≤ 16777215) = True := fun lo hi => eq_true (by have := hc lo hi; omega)
    have rl : ∀ k, k ≤ 7 → (rep k (zs.map D.int)).length ≤ 42 := fun k hk => by
      rw [rep_length, List.length_map]
      have := Nat.mul_le_mul hk (show zs.length ≤ 6 by omega)
      omega
    have rm : ∀ k, ∀ x ∈ rep k (zs.map D.int), x.fine = true := fun k x hx => by
      obtain ⟨z, hz, rfl⟩ := List.mem_map.mp (rep_mem hx); rfl
    simp_arith [c1', c2', c3', List.length_append, Sd_t]
    refine pickO_k (xs := [D.int 0, D.int 31, D.int (-1), D.int 30, D.bl true]) pick_ (by simp) (by simp) (by simp [D.under]) (own.drop (n' := n + 4 + 1) (by omega)) (fun s2 u own hu => ?_)
    have hu : u.fine = true := by
      simp only [List.mem_cons, List.not_mem_nil, or_false] at hu
      rcases hu with rfl | rfl | rfl | rfl | rfl <;> rfl
    have k7 := rl 7 (by omega)
    have k6 := rl 6 (by omega)
    have j7 : ∀ lo hi, (cut (rep 7 (zs.map D.int)) lo hi).length ≤ 42 := fun lo hi => Nat.le_trans (cut_len _ lo hi) k7
    have j6 : ∀ lo hi, (cut (rep 6 (zs.map D.int)) lo hi).length ≤ 42 := fun lo hi => Nat.le_trans (cut_len _ lo hi) k6
    have d7 : ∀ lo hi, ((cut (rep 7 (zs.map D.int)) lo hi).length ≤ 16777216) = True := fun lo hi => eq_true (by have := j7 lo hi; omega)
    have d6 : ∀ lo hi, ((cut (rep 6 (zs.map D.int)) lo hi).length ≤ 16777216) = True := fun lo hi => eq_true (by have := j6 lo hi; omega)
    have r7 : ((rep 7 (zs.map D.int)).length ≤ 16777216) = True := eq_true (by omega)
    have r6 : ((rep 6 (zs.map D.int)).length ≤ 16777216) = True := eq_true (by omega)
    have hne : (zs.map D.int ≠ []) = True := eq_true fun h => by rw [List.map_eq_nil_iff.mp h] at hz1; simp at hz1
    have hl1 : (zs.length ≤ 1000) = True := eq_true (by omega)
    simp_arith [c1', c2', c3', c4', d6, d7, r6, r7, hne, hl1, List.length_append, List.length_map, Sd_t]
    have all : ∀ x ∈ ([D.tup (cut (zs.map D.int) none (some e2) ++ u :: cut (zs.map D.int) (some (e2 + 1)) none), D.tup [], D.tup (cut (rep 7 (zs.map D.int)) none (some 7)), D.tup (cut (rep 6 (zs.map D.int)) none (some 6))] : List D), x.fine = true := by
      intro x hx
      simp only [List.mem_cons, List.not_mem_nil, or_false] at hx
      rcases hx with rfl | rfl | rfl | rfl
      · refine fine_tup.mpr ⟨by have := hc none (some e2); have := hc (some (e2 + 1)) none; rw [List.length_append, List.length_cons]; omega, fun x hx => ?_⟩
        rcases List.mem_append.mp hx with hx | hx
        · exact hz _ _ x hx
        · rcases List.mem_cons.mp hx with rfl | hx
          · exact hu
          · exact hz _ _ x hx
      · rfl
      · exact fine_tup.mpr ⟨by have := j7 none (some 7); omega, fun x hx => rm _ x (mem_cut hx)⟩
      · exact fine_tup.mpr ⟨by have := j6 none (some 6); omega, fun x hx => rm _ x (mem_cut hx)⟩
    refine pickO_k (xs := [D.tup (cut (zs.map D.int) none (some e2) ++ u :: cut (zs.map D.int) (some (e2 + 1)) none), D.tup [], D.tup (cut (rep 7 (zs.map D.int)) none (some 7)), D.tup (cut (rep 6 (zs.map D.int)) none (some 6))]) pick_ (by simp) (by simp) (fun x hx => fine_under (all x hx)) (own.drop (n' := n + 1) (by omega)) (fun s2 v own hv => ?_)
    have hv : v.fine = true := all v hv
    simp_arith [own.get0, ix50]
    have hfx' : ∀ x ∈ ([v, D.int r, D.int e, D.int p, D.tup (ws.map .int)] : List D), x.fine = true := by
      intro x hx
      have hx : x ∈ [D.tup (zs.map .int), D.int r, D.int e, D.int p, D.tup (ws.map .int)].set 0 v := hx
      rcases List.mem_or_eq_of_mem_set hx with hx | rfl
      · exact hfx x hx
      · exact hv
    have own := own.set 0 (o := .lst [v, D.int r, D.int e, D.int p, D.tup (ws.map .int)]) (by
      rw [show (SO.lst [v, D.int r, D.int e, D.int p, D.tup (ws.map .int)]).under s2.length = unders s2.length [v, D.int r, D.int e, D.int p, D.tup (ws.map .int)] from rfl, unders_iff]
      exact fun x hx => fine_under (hfx' x hx))
    rw [Nat.add_zero] at own
    have hg : (s2.set s1.length (.lst [v, D.int r, D.int e, D.int p, D.tup (ws.map .int)]))[s1.length]? = some (.lst [v, D.int r, D.int e, D.int p, D.tup (ws.map .int)]) := own.get0
    have hfin : (D.tup [v, D.int r, D.int e, D.int p, D.tup (ws.map .int)]).fine = true := fine_tup.mpr ⟨by simp, hfx'⟩
    simp_arith [ix50, hg]
    exact W_finO rfl hd0 (by rw [hls]; exact own) (frz_same 6 (fine_under hfin)) fun s2 h2 => ⟨h2.drop (by omega), hfin⟩
  · have hin : ∀ m, inM m (.int 1) (.tup [.int 0, .int 4]) = .ok false := fun m => rfl
    simp_arith [hin]
    refine pickO_k (xs := [D.int 0, D.int 13, D.int 12, D.int 1, D.int (-1)]) pick_ (by simp) (by simp) (by simp [D.under]) (own.drop (n' := n + 5 + 1) (by omega)) (fun s2 v own hv => ?_)
    have hv : v.fine = true := by
      simp only [List.mem_cons, List.not_mem_nil, or_false] at hv
      rcases hv with rfl | rfl | rfl | rfl | rfl <;> rfl
    simp_arith [own.get0, ix51]
    have hfx' : ∀ x ∈ ([D.tup (zs.map .int), v, D.int e, D.int p, D.tup (ws.map .int)] : List D), x.fine = true := by
      intro x hx
      have hx : x ∈ [D.tup (zs.map .int), D.int r, D.int e, D.int p, D.tup (ws.map .int)].set 1 v := hx
      rcases List.mem_or_eq_of_mem_set hx with hx | rfl
      · exact hfx x hx
      · exact hv
    have own := own.set 0 (o := .lst [D.tup (zs.map .int), v, D.int e, D.int p, D.tup (ws.map .int)]) (by
      rw [show (SO.lst [D.tup (zs.map .int), v, D.int e, D.int p, D.tup (ws.map .int)]).under s2.length = unders s2.length [D.tup (zs.map .int), v, D.int e, D.int p, D.tup (ws.map .int)] from rfl, unders_iff]
      exact fun x hx => fine_under (hfx' x hx))
    rw [Nat.add_zero] at own
    have hg : (s2.set s1.length (.lst [D.tup (zs.map .int), v, D.int e, D.int p, D.tup (ws.map .int)]))[s1.length]? = some (.lst [D.tup (zs.map .int), v, D.int e, D.int p, D.tup (ws.map .int)]) := own.get0
    have hfin : (D.tup [D.tup (zs.map .int), v, D.int e, D.int p, D.tup (ws.map .int)]).fine = true := fine_tup.mpr ⟨by simp, hfx'⟩
    simp_arith [ix51, hg]
    exact W_finO rfl hd0 (by rw [hls]; exact own) (frz_same 6 (fine_under hfin)) fun s2 h2 => ⟨h2.drop (by omega), hfin⟩
  · have hin : ∀ m, inM m (.int 2) (.tup [.int 0, .int 4]) = .ok false := fun m => rfl
    simp_arith [hin]
    refine pickO_k (xs := [D.int (-1), D.int 0, D.bl true]) pick_ (by simp) (by simp) (by simp [D.under]) (own.drop (n' := n + 5 + 1) (by omega)) (fun s2 v own hv => ?_)
    have hv : v.fine = true := by
      simp only [List.mem_cons, List.not_mem_nil, or_false] at hv
      rcases hv with rfl | rfl | rfl <;> rfl
    simp_arith [own.get0, ix52]
    have hfx' : ∀ x ∈ ([D.tup (zs.map .int), D.int r, v, D.int p, D.tup (ws.map .int)] : List D), x.fine = true := by
      intro x hx
      have hx : x ∈ [D.tup (zs.map .int), D.int r, D.int e, D.int p, D.tup (ws.map .int)].set 2 v := hx
      rcases List.mem_or_eq_of_mem_set hx with hx | rfl
      · exact hfx x hx
      · exact hv
    have own := own.set 0 (o := .lst [D.tup (zs.map .int), D.int r, v, D.int p, D.tup (ws.map .int)]) (by
      rw [show (SO.lst [D.tup (zs.map .int), D.int r, v, D.int p, D.tup (ws.map .int)]).under s2.length = unders s2.length [D.tup (zs.map .int), D.int r, v, D.int p, D.tup (ws.map .int)] from rfl, unders_iff]
      exact fun x hx => fine_under (hfx' x hx))
    rw [Nat.add_zero] at own
    have hg : (s2.set s1.length (.lst [D.tup (zs.map .int), D.int r, v, D.int p, D.tup (ws.map .int)]))[s1.length]? = some (.lst [D.tup (zs.map .int), D.int r, v, D.int p, D.tup (ws.map .int)]) := own.get0
    have hfin : (D.tup [D.tup (zs.map .int), D.int r, v, D.int p, D.tup (ws.map .int)]).fine = true := fine_tup.mpr ⟨by simp, hfx'⟩
    simp_arith [ix52, hg]
    exact W_finO rfl hd0 (by rw [hls]; exact own) (frz_same 6 (fine_under hfin)) fun s2 h2 => ⟨h2.drop (by omega), hfin⟩
  · have hin : ∀ m, inM m (.int 3) (.tup [.int 0, .int 4]) = .ok false := fun m => rfl
    simp_arith [hin]
    refine pickO_k (xs := [D.int 0, D.int 1, D.int (-2)]) pick_ (by simp) (by simp) (by simp [D.under]) (own.drop (n' := n + 5 + 1) (by omega)) (fun s2 v own hv => ?_)
    have hv : v.fine = true := by
      simp only [List.mem_cons, List.not_mem_nil, or_false] at hv
      rcases hv with rfl | rfl | rfl <;> rfl
    simp_arith [own.get0, ix53]
    have hfx' : ∀ x ∈ ([D.tup (zs.map .int), D.int r, D.int e, v, D.tup (ws.map .int)] : List D), x.fine = true := by
      intro x hx
      have hx : x ∈ [D.tup (zs.map .int), D.int r, D.int e, D.int p, D.tup (ws.map .int)].set 3 v := hx
      rcases List.mem_or_eq_of_mem_set hx with hx | rfl
      · exact hfx x hx
      · exact hv
    have own := own.set 0 (o := .lst [D.tup (zs.map .int), D.int r, D.int e, v, D.tup (ws.map .int)]) (by
      rw [show (SO.lst [D.tup (zs.map .int), D.int r, D.int e, v, D.tup (ws.map .int)]).under s2.length = unders s2.length [D.tup (zs.map .int), D.int r, D.int e, v, D.tup (ws.map .int)] from rfl, unders_iff]
      exact fun x hx => fine_under (hfx' x hx))
    rw [Nat.add_zero] at own
    have hg : (s2.set s1.length (.lst [D.tup (zs.map .int), D.int r, D.int e, v, D.tup (ws.map .int)]))[s1.length]? = some (.lst [D.tup (zs.map .int), D.int r, D.int e, v, D.tup (ws.map .int)]) := own.get0
    have hfin : (D.tup [D.tup (zs.map .int), D.int r, D.int e, v, D.tup (ws.map .int)]).fine = true := fine_tup.mpr ⟨by simp, hfx'⟩
    simp_arith [ix53, hg]
    exact W_finO rfl hd0 (by rw [hls]; exact own) (frz_same 6 (fine_under hfin)) fun s2 h2 => ⟨h2.drop (by omega), hfin⟩
  · have hin : ∀ m, inM m (.int 4) (.tup [.int 0, .int 4]) = .ok true := fun m => rfl
    simp_arith [hin]
    refine takeO_k take_ (by omega) (by omega) (own.drop (n' := n + 5 + 1) (by omega)) (fun s2 e2 own e20 e21 => ?_)
    have hc : ∀ lo hi, (cut (ws.map D.int) lo hi).length ≤ 6 := fun lo hi => Nat.le_trans (cut_len _ lo hi) (by rw [List.length_map]; omega)
    have hz : ∀ lo hi, ∀ x ∈ cut (ws.map D.int) lo hi, x.fine = true := fun lo hi x h => by obtain ⟨z, hz, rfl⟩ := List.mem_map.mp (mem_cut h); rfl
    have c1' : ∀ lo hi, ((cut (ws.map D.int) lo hi).length ≤ 16777216) = True := fun lo hi => eq_true (by have := hc lo hi; omega)
    have c2' : ∀ lo hi lo' hi', ((cut (ws.map D.int) lo hi).length + 1 + (cut (ws.map D.int) lo' hi').length ≤ 16777216) = True := fun lo hi lo' hi' => eq_true (by have := hc lo hi; have := hc lo' hi'; omega)
    have c4' : ∀ lo hi lo' hi', ((cut (ws.map D.int) lo hi).length + ((cut (ws.map D.int) lo' hi').length + 1) ≤ 16777216) = True := fun lo hi lo' hi' => eq_true (by have := hc lo hi; have := hc lo' hi'; omega)
    have c3' : ∀ lo hi, ((cut (ws.map D.int) lo hi).length ≤ 16777215) = True := fun lo hi => eq_true (by have := hc lo hi; omega)
    have rl : ∀ k, k ≤ 7 → (rep k (ws.map D.int)).length ≤ 42 := fun k hk => by
      rw [rep_length, List.length_map]
      have := Nat.mul_le_mul hk (show ws.length ≤ 6 by omega)
      omega
    have rm : ∀ k, ∀ x ∈ rep k (ws.map D.int), x.fine = true := fun k x hx => by
      obtain ⟨z, hz, rfl⟩ := List.mem_map.mp (rep_mem hx); rfl
    simp_arith [c1', c2', c3', List.length_append, Sd_t]
    refine pickO_k (xs := [D.int 0, D.int 31, D.int (-1), D.int 30, D.bl true]) pick_ (by simp) (by simp) (by simp [D.under]) (own.drop (n' := n + 4 + 1) (by omega)) (fun s2 u own hu => ?_)
    have hu : u.fine = true := by
      simp only [List.mem_cons, List.not_mem_nil, or_false] at hu
      rcases hu with rfl | rfl | rfl | rfl | rfl <;> rfl
    have k7 := rl 7 (by omega)
    have k6 := rl 6 (by omega)
    have j7 : ∀ lo hi, (cut (rep 7 (ws.map D.int)) lo hi).length ≤ 42 := fun lo hi => Nat.le_trans (cut_len _ lo hi) k7
    have j6 : ∀ lo hi, (cut (rep 6 (ws.map D.int)) lo hi).length ≤ 42 := fun lo hi => Nat.le_trans (cut_len _ lo hi) k6
    have d7 : ∀ lo hi, ((cut (rep 7 (ws.map D.int)) lo hi).length ≤ 16777216) = True := fun lo hi => eq_true (by have := j7 lo hi; omega)
    have d6 : ∀ lo hi, ((cut (rep 6 (ws.map D.int)) lo hi).length ≤ 16777216) = True := fun lo hi => eq_true (by have := j6 lo hi; omega)
    have r7 : ((rep 7 (ws.map D.int)).length ≤ 16777216) = True := eq_true (by omega)
    have r6 : ((rep 6 (ws.map D.int)).length ≤ 16777216) = True := eq_true (by omega)
    have hne : (ws.map D.int ≠ []) = True := eq_true fun h => by rw [List.map_eq_nil_iff.mp h] at hw1; simp at hw1
    have hl1 : (ws.length ≤ 1000) = True := eq_true (by omega)
    simp_arith [c1', c2', c3', c4', d6, d7, r6, r7, hne, hl1, List.length_append, List.length_map, Sd_t]
    have all : ∀ x ∈ ([D.tup (cut (ws.map D.int) none (some e2) ++ u :: cut (ws.map D.int) (some (e2 + 1)) none), D.tup [], D.tup (cut (rep 7 (ws.map D.int)) none (some 7)), D.tup (cut (rep 6 (ws.map D.int)) none (some 6))] : List D), x.fine = true := by
      intro x hx
      simp only [List.mem_cons, List.not_mem_nil, or_false] at hx
      rcases hx with rfl | rfl | rfl | rfl
      · refine fine_tup.mpr ⟨by have := hc none (some e2); have := hc (some (e2 + 1)) none; rw [List.length_append, List.length_cons]; omega, fun x hx => ?_⟩
        rcases List.mem_append.mp hx with hx | hx
        · exact hz _ _ x hx
        · rcases List.mem_cons.mp hx with rfl | hx
          · exact hu
          · exact hz _ _ x hx
      · rfl
      · exact fine_tup.mpr ⟨by have := j7 none (some 7); omega, fun x hx => rm _ x (mem_cut hx)⟩
      · exact fine_tup.mpr ⟨by have := j6 none (some 6); omega, fun x hx => rm _ x (mem_cut hx)⟩
    refine pickO_k (xs := [D.tup (cut (ws.map D.int) none (some e2) ++ u :: cut (ws.map D.int) (some (e2 + 1)) none), D.tup [], D.tup (cut (rep 7 (ws.map D.int)) none (some 7)), D.tup (cut (rep 6 (ws.map D.int)) none (some 6))]) pick_ (by simp) (by simp) (fun x hx => fine_under (all x hx)) (own.drop (n' := n + 1) (by omega)) (fun s2 v own hv => ?_)
    have hv : v.fine = true := all v hv
    simp_arith [own.get0, ix54]
    have hfx' : ∀ x ∈ ([D.tup (zs.map .int), D.int r, D.int e, D.int p, v] : List D), x.fine = true := by
      intro x hx
      have hx : x ∈ [D.tup (zs.map .int), D.int r, D.int e, D.int p, D.tup (ws.map .int)].set 4 v := hx
      rcases List.mem_or_eq_of_mem_set hx with hx | rfl
      · exact hfx x hx
      · exact hv
    have own := own.set 0 (o := .lst [D.tup (zs.map .int), D.int r, D.int e, D.int p, v]) (by
      rw [show (SO.lst [D.tup (zs.map .int), D.int r, D.int e, D.int p, v]).under s2.length = unders s2.length [D.tup (zs.map .int), D.int r, D.int e, D.int p, v] from rfl, unders_iff]
      exact fun x hx => fine_under (hfx' x hx))
    rw [Nat.add_zero] at own
    have hg : (s2.set s1.length (.lst [D.tup (zs.map .int), D.int r, D.int e, D.int p, v]))[s1.length]? = some (.lst [D.tup (zs.map .int), D.int r, D.int e, D.int p, v]) := own.get0
    have hfin : (D.tup [D.tup (zs.map .int), D.int r, D.int e, D.int p, v]).fine = true := fine_tup.mpr ⟨by simp, hfx'⟩
    simp_arith [ix54, hg]
    exact W_finO rfl hd0 (by rw [hls]; exact own) (frz_same 6 (fine_under hfin)) fun s2 h2 => ⟨h2.drop (by omega), hfin⟩
theorem law_w {ns : List Int} (hn : ns.length ≤ 63) : W (runF g22 d_law [.scr (ns.map .int)] []) fun p => p.1 = .bl true := by
  have ok0 : StOk [] := fun o ho => by simp at ho
  unfold d_law
  simp_arith
  refine sd (by split <;> split <;> omega) ?_
  refine W_loopF (fun _ r s' => StOk s' ∧ ∃ a b c d, r = [some (.scr (ns.map .int)), a, b, c, d]) _ _ _ 0 ⟨ok0, _, _, _, _, rfl⟩ (fun _ _ _ _ => trivial) (fun j x hx r s' hI => ?_) (fun r s' hI => ?_)
  · obtain ⟨ok, a, b, c, d, rfl⟩ := hI
    obtain ⟨k, rfl, k0, k1⟩ := rng_mem (List.mem_of_getElem? hx)
    simp_arith
    refine (handA2_w ok k0).mono ?_
    rintro ⟨_, s1⟩ ⟨rfl, hd⟩
    simp_arith
    refine draw_k form_ (hd.drop (n := 1000 + 100) (by omega)) fun s v hd hv => ?_
    have hvf := hv.bt.fine
    simp_arith
    refine (form_w hd.ok hvf).mono ?_
    rintro _ rfl
    rw [hv.ok]
    simp_arith
    refine draw_k (spoilt_ hv) (hd.drop (n := 990 + 10) (by omega)) fun s z hd hz => ?_
    simp_arith
    refine (told_w hd.ok hz).mono ?_
    rintro _ rfl
    simp_arith
    refine W_loopF (fun j r s'' => Hd kindA s'.length (s'.length + 1) (990 - 20 * j) [] s'' ∧ ∃ d, r = [some (.scr (ns.map .int)), some (.int k), some (.loc s'.length), some v, d]) _ _ _ 0 ⟨hd, _, rfl⟩ (fun _ _ _ _ => trivial) (fun j x hx r s2 hI => ?_) (fun r s2 hI => ?_)
    · obtain ⟨hd, d, rfl⟩ := hI
      obtain ⟨hj, rfl⟩ := rng_at hx
      simp_arith
      refine draw_k (bent6_ hv.bt (by omega)) (hd.drop (n := 990 - 20 * (0 + j + 1) + 20) (by omega)) fun s z hd hz => ?_
      simp_arith
      refine (told_w hd.ok hz).mono ?_
      rintro _ rfl
      simp_arith
      exact ⟨hd, _, rfl⟩
    · obtain ⟨hd, d, rfl⟩ := hI
      simp_arith
      exact ⟨hd.ok, _, _, _, _, rfl⟩
  · obtain ⟨ok, a, b, c, d, rfl⟩ := hI
    simp_arith
    exact finT (g := g22) ok0 rfl fun _ => rfl
theorem plain (ns : List Int) (hn : ns.length ≤ 63) : ∃ m, runF g22 d_law [.scr (ns.map .int)] [] = .ok (.bl true, m) := by
  obtain ⟨⟨d, m⟩, e, q⟩ := law_w hn
  exact ⟨m, by rw [e, show d = .bl true from q]⟩
end K02

end
section
namespace K02
open PySem PySem.Spec PyProof.Rows L2 DV
def top (i : Nat) : Stmt := PySem.Challenge.pw_ranksredrawn_k02_forms.main.body.getD i (.Pass ⟨0, 0, 0, 0⟩)
abbrev s0 : Stmt := top 1
abbrev n0 : List Str := ["thing"]
abbrev p0 : List Str := ["thing"]
theorem sc0 : FnScope n0 p0 (defScope s0) := ⟨rfl, rfl, rfl, by decide +kernel, rfl, by decide +kernel, by decide +kernel⟩
abbrev tb0 : List (Str × String) := []
theorem ck0 : chkSs tb0 ⟨n0, defScope s0, defScope s0, true⟩ d_is_whole.body (defBody s0) = true := by decide +kernel
abbrev s1 : Stmt := top 2
abbrev n1 : List Str := ["thing", "least"]
abbrev p1 : List Str := ["thing", "least"]
theorem sc1 : FnScope n1 p1 (defScope s1) := ⟨rfl, rfl, rfl, by decide +kernel, rfl, by decide +kernel, by decide +kernel⟩
abbrev tb1 : List (Str × String) := ("is_whole", "is_whole") :: tb0
theorem ck1 : chkSs tb1 ⟨n1, defScope s1, defScope s1, true⟩ d_is_from.body (defBody s1) = true := by decide +kernel
abbrev s2 : Stmt := top 8
abbrev n2 : List Str := ["thing", "most", "one"]
abbrev p2 : List Str := ["thing", "most"]
theorem sc2 : FnScope n2 p2 (defScope s2) := ⟨rfl, rfl, rfl, by decide +kernel, rfl, by decide +kernel, by decide +kernel⟩
abbrev tb2 : List (Str × String) := ("is_from", "is_from") :: tb1
theorem ck2 : chkSs tb2 ⟨n2, defScope s2, defScope s2, true⟩ d_is_row.body (defBody s2) = true := by decide +kernel
abbrev s3 : Stmt := top 9
abbrev n3 : List Str := ["thing", "seats", "rounds", "even", "per", "worths", "many"]
abbrev p3 : List Str := ["thing"]
theorem sc3 : FnScope n3 p3 (defScope s3) := ⟨rfl, rfl, rfl, by decide +kernel, rfl, by decide +kernel, by decide +kernel⟩
abbrev tb3 : List (Str × String) := ("is_row", "is_row") :: tb2
theorem ck3 : chkSs tb3 ⟨n3, defScope s3, defScope s3, true⟩ d_is_form.body (defBody s3) = true := by decide +kernel
abbrev s4 : Stmt := top 11
abbrev n4 : List Str := ["_law_script", "_law_k", "_law_cell", "_law_great"]
abbrev p4 : List Str := ["_law_script", "_law_k"]
theorem sc4 : FnScope n4 p4 (defScope s4) := ⟨rfl, rfl, rfl, by decide +kernel, rfl, by decide +kernel, by decide +kernel⟩
abbrev tb4 : List (Str × String) := ("is_form", "is_form") :: tb3
theorem ck4 : chkSs tb4 ⟨n4, defScope s4, defScope s4, true⟩ d__law_hand.body (defBody s4) = true := by decide +kernel
abbrev s5 : Stmt := top 12
abbrev n5 : List Str := ["_law_hand_here", "_law_many", "_law_digit", "_law_mixed"]
abbrev p5 : List Str := ["_law_hand_here", "_law_many"]
theorem sc5 : FnScope n5 p5 (defScope s5) := ⟨rfl, rfl, rfl, by decide +kernel, rfl, by decide +kernel, by decide +kernel⟩
abbrev tb5 : List (Str × String) := ("_law_hand", "_law_hand") :: tb4
theorem ck5 : chkSs tb5 ⟨n5, defScope s5, defScope s5, true⟩ d__law_take.body (defBody s5) = true := by decide +kernel
abbrev s6 : Stmt := top 13
abbrev n6 : List Str := ["_law_hand_here", "_law_some"]
abbrev p6 : List Str := ["_law_hand_here", "_law_some"]
theorem sc6 : FnScope n6 p6 (defScope s6) := ⟨rfl, rfl, rfl, by decide +kernel, rfl, by decide +kernel, by decide +kernel⟩
abbrev tb6 : List (Str × String) := ("_law_take", "_law_take") :: tb5
theorem ck6 : chkSs tb6 ⟨n6, defScope s6, defScope s6, true⟩ d__law_pick.body (defBody s6) = true := by decide +kernel
abbrev s7 : Stmt := top 14
abbrev n7 : List Str := ["_law_hand_here", "_law_least"]
abbrev p7 : List Str := ["_law_hand_here", "_law_least"]
theorem sc7 : FnScope n7 p7 (defScope s7) := ⟨rfl, rfl, rfl, by decide +kernel, rfl, by decide +kernel, by decide +kernel⟩
abbrev tb7 : List (Str × String) := ("_law_pick", "_law_pick") :: tb6
theorem ck7 : chkSs tb7 ⟨n7, defScope s7, defScope s7, true⟩ d__law_number.body (defBody s7) = true := by decide +kernel
abbrev s8 : Stmt := top 15
abbrev n8 : List Str := ["_law_hand_here", "_law_seats", "_law_k", "_law_rounds", "_law_even", "_law_per"]
abbrev p8 : List Str := ["_law_hand_here"]
theorem sc8 : FnScope n8 p8 (defScope s8) := ⟨rfl, rfl, rfl, by decide +kernel, rfl, by decide +kernel, by decide +kernel⟩
abbrev tb8 : List (Str × String) := ("_law_number", "_law_number") :: tb7
theorem ck8 : chkSs tb8 ⟨n8, defScope s8, defScope s8, true⟩ d__law_form.body (defBody s8) = true := by decide +kernel
abbrev s9 : Stmt := top 16
abbrev n9 : List Str := ["_law_hand_here", "_law_form_here", "_law_spot", "_law_some", "_law_row_here", "_law_cut", "_law_odd_here"]
abbrev p9 : List Str := ["_law_hand_here", "_law_form_here"]
theorem sc9 : FnScope n9 p9 (defScope s9) := ⟨rfl, rfl, rfl, by decide +kernel, rfl, by decide +kernel, by decide +kernel⟩
abbrev tb9 : List (Str × String) := ("_law_form", "_law_form") :: tb8
theorem ck9 : chkSs tb9 ⟨n9, defScope s9, defScope s9, true⟩ d__law_spoilt.body (defBody s9) = true := by decide +kernel
abbrev s10 : Stmt := top 17
abbrev n10 : List Str := ["_law_hand_here", "_law_thing", "_law_cut", "_law_some", "_law_signs", "_law_sign", "_law_number_here"]
abbrev p10 : List Str := ["_law_hand_here", "_law_thing"]
theorem sc10 : FnScope n10 p10 (defScope s10) := ⟨rfl, rfl, rfl, by decide +kernel, rfl, by decide +kernel, by decide +kernel⟩
abbrev tb10 : List (Str × String) := ("_law_spoilt", "_law_spoilt") :: tb9
theorem ck10 : chkSs tb10 ⟨n10, defScope s10, defScope s10, true⟩ d__law_odd.body (defBody s10) = true := by decide +kernel
abbrev s11 : Stmt := top 18
abbrev n11 : List Str := ["_law_hand_here", "_law_thing", "_law_cut"]
abbrev p11 : List Str := ["_law_hand_here", "_law_thing"]
theorem sc11 : FnScope n11 p11 (defScope s11) := ⟨rfl, rfl, rfl, by decide +kernel, rfl, by decide +kernel, by decide +kernel⟩
abbrev tb11 : List (Str × String) := ("_law_odd", "_law_odd") :: tb10
abbrev s12 : Stmt := top 18
abbrev n12 : List Str := ["_law_hand_here", "_law_thing", "_law_cut"]
abbrev p12 : List Str := ["_law_hand_here", "_law_thing"]
theorem sc12 : FnScope n12 p12 (defScope s12) := ⟨rfl, rfl, rfl, by decide +kernel, rfl, by decide +kernel, by decide +kernel⟩
abbrev tb12 : List (Str × String) := ("_law_bent", "_law_bent#0") :: tb11
theorem ck12 : chkSs tb12 ⟨n12, defScope s12, defScope s12, true⟩ d__law_bent_1.body (defBody s12) = true := by decide +kernel
abbrev s13 : Stmt := top 18
abbrev n13 : List Str := ["_law_hand_here", "_law_thing", "_law_cut"]
abbrev p13 : List Str := ["_law_hand_here", "_law_thing"]
theorem sc13 : FnScope n13 p13 (defScope s13) := ⟨rfl, rfl, rfl, by decide +kernel, rfl, by decide +kernel, by decide +kernel⟩
abbrev tb13 : List (Str × String) := ("_law_bent", "_law_bent#1") :: tb12
theorem ck13 : chkSs tb13 ⟨n13, defScope s13, defScope s13, true⟩ d__law_bent_2.body (defBody s13) = true := by decide +kernel
abbrev s14 : Stmt := top 18
abbrev n14 : List Str := ["_law_hand_here", "_law_thing", "_law_cut"]
abbrev p14 : List Str := ["_law_hand_here", "_law_thing"]
theorem sc14 : FnScope n14 p14 (defScope s14) := ⟨rfl, rfl, rfl, by decide +kernel, rfl, by decide +kernel, by decide +kernel⟩
abbrev tb14 : List (Str × String) := ("_law_bent", "_law_bent#2") :: tb13
theorem ck14 : chkSs tb14 ⟨n14, defScope s14, defScope s14, true⟩ d__law_bent_3.body (defBody s14) = true := by decide +kernel
abbrev s15 : Stmt := top 18
abbrev n15 : List Str := ["_law_hand_here", "_law_thing", "_law_cut"]
abbrev p15 : List Str := ["_law_hand_here", "_law_thing"]
theorem sc15 : FnScope n15 p15 (defScope s15) := ⟨rfl, rfl, rfl, by decide +kernel, rfl, by decide +kernel, by decide +kernel⟩
abbrev tb15 : List (Str × String) := ("_law_bent", "_law_bent#3") :: tb14
theorem ck15 : chkSs tb15 ⟨n15, defScope s15, defScope s15, true⟩ d__law_bent_4.body (defBody s15) = true := by decide +kernel
abbrev s16 : Stmt := top 18
abbrev n16 : List Str := ["_law_hand_here", "_law_thing", "_law_cut"]
abbrev p16 : List Str := ["_law_hand_here", "_law_thing"]
theorem sc16 : FnScope n16 p16 (defScope s16) := ⟨rfl, rfl, rfl, by decide +kernel, rfl, by decide +kernel, by decide +kernel⟩
abbrev tb16 : List (Str × String) := ("_law_bent", "_law_bent#4") :: tb15
theorem ck16 : chkSs tb16 ⟨n16, defScope s16, defScope s16, true⟩ d__law_bent_5.body (defBody s16) = true := by decide +kernel
abbrev s17 : Stmt := top 18
abbrev n17 : List Str := ["_law_hand_here", "_law_thing", "_law_cut"]
abbrev p17 : List Str := ["_law_hand_here", "_law_thing"]
theorem sc17 : FnScope n17 p17 (defScope s17) := ⟨rfl, rfl, rfl, by decide +kernel, rfl, by decide +kernel, by decide +kernel⟩
abbrev tb17 : List (Str × String) := ("_law_bent", "_law_bent#5") :: tb16
theorem ck17 : chkSs tb17 ⟨n17, defScope s17, defScope s17, true⟩ d__law_bent_6.body (defBody s17) = true := by decide +kernel
abbrev s18 : Stmt := top 19
abbrev n18 : List Str := ["_law_thing", "_law_least"]
abbrev p18 : List Str := ["_law_thing", "_law_least"]
theorem sc18 : FnScope n18 p18 (defScope s18) := ⟨rfl, rfl, rfl, by decide +kernel, rfl, by decide +kernel, by decide +kernel⟩
abbrev tb18 : List (Str × String) := ("_law_bent", "_law_bent#6") :: tb17
theorem ck18 : chkSs tb18 ⟨n18, defScope s18, defScope s18, true⟩ d__law_whole.body (defBody s18) = true := by decide +kernel
abbrev s19 : Stmt := top 20
abbrev n19 : List Str := ["_law_thing", "_law_one"]
abbrev p19 : List Str := ["_law_thing"]
theorem sc19 : FnScope n19 p19 (defScope s19) := ⟨rfl, rfl, rfl, by decide +kernel, rfl, by decide +kernel, by decide +kernel⟩
abbrev tb19 : List (Str × String) := ("_law_whole", "_law_whole") :: tb18
theorem ck19 : chkSs tb19 ⟨n19, defScope s19, defScope s19, true⟩ d__law_row.body (defBody s19) = true := by decide +kernel
abbrev s20 : Stmt := top 21
abbrev n20 : List Str := ["_law_thing"]
abbrev p20 : List Str := ["_law_thing"]
theorem sc20 : FnScope n20 p20 (defScope s20) := ⟨rfl, rfl, rfl, by decide +kernel, rfl, by decide +kernel, by decide +kernel⟩
abbrev tb20 : List (Str × String) := ("_law_row", "_law_row") :: tb19
theorem ck20 : chkSs tb20 ⟨n20, defScope s20, defScope s20, true⟩ d__law_is_form.body (defBody s20) = true := by decide +kernel
abbrev s21 : Stmt := top 22
abbrev n21 : List Str := ["_law_thing", "_law_found"]
abbrev p21 : List Str := ["_law_thing"]
theorem sc21 : FnScope n21 p21 (defScope s21) := ⟨rfl, rfl, rfl, by decide +kernel, rfl, by decide +kernel, by decide +kernel⟩
abbrev tb21 : List (Str × String) := ("_law_is_form", "_law_is_form") :: tb20
theorem ck21 : chkSs tb21 ⟨n21, defScope s21, defScope s21, true⟩ d__law_told.body (defBody s21) = true := by decide +kernel
abbrev s22 : Stmt := top 23
abbrev n22 : List Str := ["_law_script", "_law_k", "_law_hand_here", "_law_form_here", "_law_turn"]
abbrev p22 : List Str := ["_law_script"]
theorem sc22 : FnScope n22 p22 (defScope s22) := ⟨rfl, rfl, rfl, by decide +kernel, rfl, by decide +kernel, by decide +kernel⟩
abbrev tb22 : List (Str × String) := ("_law_told", "_law_told") :: tb21
theorem ck22 : chkSs tb22 ⟨n22, defScope s22, defScope s22, true⟩ d_law.body (defBody s22) = true := by decide +kernel
set_option maxHeartbeats 4000000 in
theorem all_mk {l : PySem.W.OpenLaw} {w : World} {K : PySem.W.Frag} {h : Heap} {mg : Str → Option Value} {fa f0 f1 f2 f3 f4 f5 f6 f7 f8 f9 f10 f11 f12 f13 f14 f15 f16 f17 f18 f19 f20 f21 f22 : Addr} (X : K.In h) (G : h.Ns mainGlobals mg) (hfa : mg "law" = some (.ref fa))
    {od0 an0 od1 an1 od2 an2 od3 an3 od4 an4 od5 an5 od6 an6 od7 an7 od8 an8 od9 an9 od10 an10 od11 an11 od12 an12 od13 an13 od14 an14 od15 an15 od16 an16 od17 an17 od18 an18 od19 an19 od20 an20 od21 an21 od22 an22 : Option Addr} {sl0 sl1 sl2 sl3 sl4 sl5 sl6 sl7 sl8 sl9 sl10 sl11 sl12 sl13 sl14 sl15 sl16 sl17 sl18 sl19 sl20 sl21 sl22 : Array (Option Value)} {oc0 kV0 dc0 pm0 cd0 ct0 oc1 kV1 dc1 pm1 cd1 ct1 oc2 kV2 dc2 pm2 cd2 ct2 oc3 kV3 dc3 pm3 cd3 ct3 oc4 kV4 dc4 pm4 cd4 ct4 oc5 kV5 dc5 pm5 cd5 ct5 oc6 kV6 dc6 pm6 cd6 ct6 oc7 kV7 dc7 pm7 cd7 ct7 oc8 kV8 dc8 pm8 cd8 ct8 oc9 kV9 dc9 pm9 cd9 ct9 oc10 kV10 dc10 pm10 cd10 ct10 oc11 kV11 dc11 pm11 cd11 ct11 oc12 kV12 dc12 pm12 cd12 ct12 oc13 kV13 dc13 pm13 cd13 ct13 oc14 kV14 dc14 pm14 cd14 ct14 oc15 kV15 dc15 pm15 cd15 ct15 oc16 kV16 dc16 pm16 cd16 ct16 oc17 kV17 dc17 pm17 cd17 ct17 oc18 kV18 dc18 pm18 cd18 ct18 oc19 kV19 dc19 pm19 cd19 ct19 oc20 kV20 dc20 pm20 cd20 ct20 oc21 kV21 dc21 pm21 cd21 ct21 oc22 kV22 dc22 pm22 cd22 ct22 : Value} {kt0 : Tok} {kt1 : Tok} {kt2 : Tok} {kt3 : Tok} 
    (a0 : PySem.W.nsIn K mainGlobals "is_whole" = some (some (.ref f0))) (l0 : K.lookup f0 = some ⟨oc0, od0, .func (PySem.W.fnOf "is_whole" "is_whole" (defArgs s0) (defBody s0) (defScope s0) .none kV0 dc0 pm0 an0 cd0 ct0), sl0⟩) (c0 : PySem.W.codeIn K cd0 "is_whole" = true) (k0 : PySem.W.keepIn K (.ref f0) = true)
    (a1 : PySem.W.nsIn K mainGlobals "is_from" = some (some (.ref f1))) (l1 : K.lookup f1 = some ⟨oc1, od1, .func (PySem.W.fnOf "is_from" "is_from" (defArgs s1) (defBody s1) (defScope s1) .none kV1 dc1 pm1 an1 cd1 ct1), sl1⟩) (c1 : PySem.W.codeIn K cd1 "is_from" = true) (k1 : PySem.W.keepIn K (.ref f1) = true)
    (a2 : PySem.W.nsIn K mainGlobals "is_row" = some (some (.ref f2))) (l2 : K.lookup f2 = some ⟨oc2, od2, .func (PySem.W.fnOf "is_row" "is_row" (defArgs s2) (defBody s2) (defScope s2) .none kV2 dc2 pm2 an2 cd2 ct2), sl2⟩) (c2 : PySem.W.codeIn K cd2 "is_row" = true) (k2 : PySem.W.keepIn K (.ref f2) = true)
    (a3 : PySem.W.nsIn K mainGlobals "is_form" = some (some (.ref f3))) (l3 : K.lookup f3 = some ⟨oc3, od3, .func (PySem.W.fnOf "is_form" "is_form" (defArgs s3) (defBody s3) (defScope s3) .none kV3 dc3 pm3 an3 cd3 ct3), sl3⟩) (c3 : PySem.W.codeIn K cd3 "is_form" = true) (k3 : PySem.W.keepIn K (.ref f3) = true)
    (a4 : PySem.W.nsIn K mainGlobals "_law_hand" = some (some (.ref f4))) (l4 : K.lookup f4 = some ⟨oc4, od4, .func (PySem.W.fnOf "_law_hand" "_law_hand" (defArgs s4) (defBody s4) (defScope s4) .none kV4 dc4 pm4 an4 cd4 ct4), sl4⟩) (c4 : PySem.W.codeIn K cd4 "_law_hand" = true) (k4 : PySem.W.keepIn K (.ref f4) = true)
    (a5 : PySem.W.nsIn K mainGlobals "_law_take" = some (some (.ref f5))) (l5 : K.lookup f5 = some ⟨oc5, od5, .func (PySem.W.fnOf "_law_take" "_law_take" (defArgs s5) (defBody s5) (defScope s5) .none kV5 dc5 pm5 an5 cd5 ct5), sl5⟩) (c5 : PySem.W.codeIn K cd5 "_law_take" = true) (k5 : PySem.W.keepIn K (.ref f5) = true)
    (a6 : PySem.W.nsIn K mainGlobals "_law_pick" = some (some (.ref f6))) (l6 : K.lookup f6 = some ⟨oc6, od6, .func (PySem.W.fnOf "_law_pick" "_law_pick" (defArgs s6) (defBody s6) (defScope s6) .none kV6 dc6 pm6 an6 cd6 ct6), sl6⟩) (c6 : PySem.W.codeIn K cd6 "_law_pick" = true) (k6 : PySem.W.keepIn K (.ref f6) = true)
    (a7 : PySem.W.nsIn K mainGlobals "_law_number" = some (some (.ref f7))) (l7 : K.lookup f7 = some ⟨oc7, od7, .func (PySem.W.fnOf "_law_number" "_law_number" (defArgs s7) (defBody s7) (defScope s7) .none kV7 dc7 pm7 an7 cd7 ct7), sl7⟩) (c7 : PySem.W.codeIn K cd7 "_law_number" = true) (k7 : PySem.W.keepIn K (.ref f7) = true)
    (a8 : PySem.W.nsIn K mainGlobals "_law_form" = some (some (.ref f8))) (l8 : K.lookup f8 = some ⟨oc8, od8, .func (PySem.W.fnOf "_law_form" "_law_form" (defArgs s8) (defBody s8) (defScope s8) .none kV8 dc8 pm8 an8 cd8 ct8), sl8⟩) (c8 : PySem.W.codeIn K cd8 "_law_form" = true) (k8 : PySem.W.keepIn K (.ref f8) = true)
    (a9 : PySem.W.nsIn K mainGlobals "_law_spoilt" = some (some (.ref f9))) (l9 : K.lookup f9 = some ⟨oc9, od9, .func (PySem.W.fnOf "_law_spoilt" "_law_spoilt" (defArgs s9) (defBody s9) (defScope s9) .none kV9 dc9 pm9 an9 cd9 ct9), sl9⟩) (c9 : PySem.W.codeIn K cd9 "_law_spoilt" = true) (k9 : PySem.W.keepIn K (.ref f9) = true)
    (a10 : PySem.W.nsIn K mainGlobals "_law_odd" = some (some (.ref f10))) (l10 : K.lookup f10 = some ⟨oc10, od10, .func (PySem.W.fnOf "_law_odd" "_law_odd" (defArgs s10) (defBody s10) (defScope s10) .none kV10 dc10 pm10 an10 cd10 ct10), sl10⟩) (c10 : PySem.W.codeIn K cd10 "_law_odd" = true) (k10 : PySem.W.keepIn K (.ref f10) = true)
    (a11 : PySem.W.nsIn K mainGlobals "_law_bent" = some (some (.ref f11))) (l11 : K.lookup f11 = some ⟨oc11, od11, .func (PySem.W.fnOf "_law_bent" "_law_bent" (defArgs s11) (defBody s11) (defScope s11) .none kV11 dc11 pm11 an11 cd11 ct11), sl11⟩) (c11 : PySem.W.codeIn K cd11 "_law_bent" = true) (k11 : PySem.W.keepIn K (.ref f11) = true)
    (a12 : PySem.W.nsIn K mainGlobals "_law_bent" = some (some (.ref f12))) (l12 : K.lookup f12 = some ⟨oc12, od12, .func (PySem.W.fnOf "_law_bent" "_law_bent" (defArgs s12) (defBody s12) (defScope s12) .none kV12 dc12 pm12 an12 cd12 ct12), sl12⟩) (c12 : PySem.W.codeIn K cd12 "_law_bent" = true) (k12 : PySem.W.keepIn K (.ref f12) = true)
    (a13 : PySem.W.nsIn K mainGlobals "_law_bent" = some (some (.ref f13))) (l13 : K.lookup f13 = some ⟨oc13, od13, .func (PySem.W.fnOf "_law_bent" "_law_bent" (defArgs s13) (defBody s13) (defScope s13) .none kV13 dc13 pm13 an13 cd13 ct13), sl13⟩) (c13 : PySem.W.codeIn K cd13 "_law_bent" = true) (k13 : PySem.W.keepIn K (.ref f13) = true)
    (a14 : PySem.W.nsIn K mainGlobals "_law_bent" = some (some (.ref f14))) (l14 : K.lookup f14 = some ⟨oc14, od14, .func (PySem.W.fnOf "_law_bent" "_law_bent" (defArgs s14) (defBody s14) (defScope s14) .none kV14 dc14 pm14 an14 cd14 ct14), sl14⟩) (c14 : PySem.W.codeIn K cd14 "_law_bent" = true) (k14 : PySem.W.keepIn K (.ref f14) = true)
    (a15 : PySem.W.nsIn K mainGlobals "_law_bent" = some (some (.ref f15))) (l15 : K.lookup f15 = some ⟨oc15, od15, .func (PySem.W.fnOf "_law_bent" "_law_bent" (defArgs s15) (defBody s15) (defScope s15) .none kV15 dc15 pm15 an15 cd15 ct15), sl15⟩) (c15 : PySem.W.codeIn K cd15 "_law_bent" = true) (k15 : PySem.W.keepIn K (.ref f15) = true)
    (a16 : PySem.W.nsIn K mainGlobals "_law_bent" = some (some (.ref f16))) (l16 : K.lookup f16 = some ⟨oc16, od16, .func (PySem.W.fnOf "_law_bent" "_law_bent" (defArgs s16) (defBody s16) (defScope s16) .none kV16 dc16 pm16 an16 cd16 ct16), sl16⟩) (c16 : PySem.W.codeIn K cd16 "_law_bent" = true) (k16 : PySem.W.keepIn K (.ref f16) = true)
    (a17 : PySem.W.nsIn K mainGlobals "_law_bent" = some (some (.ref f17))) (l17 : K.lookup f17 = some ⟨oc17, od17, .func (PySem.W.fnOf "_law_bent" "_law_bent" (defArgs s17) (defBody s17) (defScope s17) .none kV17 dc17 pm17 an17 cd17 ct17), sl17⟩) (c17 : PySem.W.codeIn K cd17 "_law_bent" = true) (k17 : PySem.W.keepIn K (.ref f17) = true)
    (a18 : PySem.W.nsIn K mainGlobals "_law_whole" = some (some (.ref f18))) (l18 : K.lookup f18 = some ⟨oc18, od18, .func (PySem.W.fnOf "_law_whole" "_law_whole" (defArgs s18) (defBody s18) (defScope s18) .none kV18 dc18 pm18 an18 cd18 ct18), sl18⟩) (c18 : PySem.W.codeIn K cd18 "_law_whole" = true) (k18 : PySem.W.keepIn K (.ref f18) = true)
    (a19 : PySem.W.nsIn K mainGlobals "_law_row" = some (some (.ref f19))) (l19 : K.lookup f19 = some ⟨oc19, od19, .func (PySem.W.fnOf "_law_row" "_law_row" (defArgs s19) (defBody s19) (defScope s19) .none kV19 dc19 pm19 an19 cd19 ct19), sl19⟩) (c19 : PySem.W.codeIn K cd19 "_law_row" = true) (k19 : PySem.W.keepIn K (.ref f19) = true)
    (a20 : PySem.W.nsIn K mainGlobals "_law_is_form" = some (some (.ref f20))) (l20 : K.lookup f20 = some ⟨oc20, od20, .func (PySem.W.fnOf "_law_is_form" "_law_is_form" (defArgs s20) (defBody s20) (defScope s20) .none kV20 dc20 pm20 an20 cd20 ct20), sl20⟩) (c20 : PySem.W.codeIn K cd20 "_law_is_form" = true) (k20 : PySem.W.keepIn K (.ref f20) = true)
    (a21 : PySem.W.nsIn K mainGlobals "_law_told" = some (some (.ref f21))) (l21 : K.lookup f21 = some ⟨oc21, od21, .func (PySem.W.fnOf "_law_told" "_law_told" (defArgs s21) (defBody s21) (defScope s21) .none kV21 dc21 pm21 an21 cd21 ct21), sl21⟩) (c21 : PySem.W.codeIn K cd21 "_law_told" = true) (k21 : PySem.W.keepIn K (.ref f21) = true)
    (a22 : PySem.W.nsIn K mainGlobals "law" = some (some (.ref f22))) (l22 : K.lookup f22 = some ⟨oc22, od22, .func (PySem.W.fnOf "law" "law" (defArgs s22) (defBody s22) (defScope s22) .none kV22 dc22 pm22 an22 cd22 ct22), sl22⟩) (c22 : PySem.W.codeIn K cd22 "law" = true) (k22 : PySem.W.keepIn K (.ref f22) = true)
    (z0 : PySem.W.nsIn K mainGlobals "len" = some none)
    (z1 : PySem.W.nsIn K mainGlobals "abs" = some none)
    (z2 : PySem.W.nsIn K mainGlobals "int" = some none)
    (z3 : PySem.W.nsIn K mainGlobals "str" = some none)
    (z4 : PySem.W.nsIn K mainGlobals "repr" = some none)
    (z5 : PySem.W.nsIn K mainGlobals "sum" = some none)
    (z6 : PySem.W.nsIn K mainGlobals "min" = some none)
    (z7 : PySem.W.nsIn K mainGlobals "max" = some none)
    (z8 : PySem.W.nsIn K mainGlobals "sorted" = some none)
    (z9 : PySem.W.nsIn K mainGlobals "list" = some none)
    (z10 : PySem.W.nsIn K mainGlobals "tuple" = some none)
    (z11 : PySem.W.nsIn K mainGlobals "dict" = some none)
    (z12 : PySem.W.nsIn K mainGlobals "all" = some none)
    (z13 : PySem.W.nsIn K mainGlobals "any" = some none)
    (z14 : PySem.W.nsIn K mainGlobals "bool" = some none)
    (z15 : PySem.W.nsIn K mainGlobals "range" = some none)
    (z16 : PySem.W.nsIn K mainGlobals "enumerate" = some none)
    (z17 : PySem.W.nsIn K mainGlobals "zip" = some none)
    (z18 : PySem.W.nsIn K mainGlobals "isinstance" = some none)
    (z19 : PySem.W.nsIn K mainGlobals "set" = some none)
    (ka0 : PySem.W.nsIn K mainGlobals "MOST_BENCHES" = some (some (.int 6 kt0)))
    (ka1 : PySem.W.nsIn K mainGlobals "MOST_SEATS" = some (some (.int 30 kt1)))
    (ka2 : PySem.W.nsIn K mainGlobals "MOST_ROUNDS" = some (some (.int 12 kt2)))
    (ka3 : PySem.W.nsIn K mainGlobals "MOST_WORTHS" = some (some (.int 6 kt3))) :
    ∃ fd : FuncData, (∀ (s : Shared) (v : Value), BindsTo s fd ⟨[v], []⟩ [("_law_script", v)]) ∧ ∀ base : Heap, K.In base → base.Ns mainGlobals mg → FnE l.prog w K mg base 25 fa fd ["_law_script"] (runF g22 d_law) := by
  have e := hfa.symm.trans (PySem.W.mg_of X G a22)
  cases e
  refine ⟨PySem.W.fnOf "law" "law" (defArgs s22) (defBody s22) (defScope s22) .none kV22 dc22 pm22 an22 cd22 ct22, fun s v => .of_eq rfl, fun base _ _ => ?_⟩
  have M0 : MG l.prog w K mg base 2 g0 tb0 := ⟨fun x hx => ?_, ⟨fun _ _ _ h => (nomatch h), fun _ _ h => (nomatch h), fun _ h => (nomatch h)⟩, ?_, fun x n hn => by cases hn⟩
  have F0 := fn_D (f := f0) (by decide) l0 c0 sc0 (d := d_is_whole) rfl rfl M0 ck0
  have M1 : MG l.prog w K mg base 3 g1 tb1 := M0.add (PySem.W.mg_of X G a0) k0 F0 (Binds.all fun us hl => match us, hl with | [_], _ => rfl) (by decide +kernel)
  have F1 := fn_D (f := f1) (by decide) l1 c1 sc1 (d := d_is_from) rfl rfl M1 ck1
  have M2 : MG l.prog w K mg base 4 g2 tb2 := M1.add (PySem.W.mg_of X G a1) k1 F1 (Binds.all fun us hl => match us, hl with | [_, _], _ => rfl) (by decide +kernel)
  have F2 := fn_D (f := f2) (by decide) l2 c2 sc2 (d := d_is_row) rfl rfl M2 ck2
  have M3 : MG l.prog w K mg base 5 g3 tb3 := M2.add (PySem.W.mg_of X G a2) k2 F2 (Binds.all fun us hl => match us, hl with | [_, _], _ => rfl) (by decide +kernel)
  have F3 := fn_D (f := f3) (by decide) l3 c3 sc3 (d := d_is_form) rfl rfl M3 ck3
  have M4 : MG l.prog w K mg base 6 g4 tb4 := M3.add (PySem.W.mg_of X G a3) k3 F3 (Binds.all fun us hl => match us, hl with | [_], _ => rfl) (by decide +kernel)
  have F4 := fn_D (f := f4) (by decide) l4 c4 sc4 (d := d__law_hand) rfl rfl M4 ck4
  have M5 : MG l.prog w K mg base 7 g5 tb5 := M4.add (PySem.W.mg_of X G a4) k4 F4 (Binds.all fun us hl => match us, hl with | [_, _], _ => rfl) (by decide +kernel)
  have F5 := fn_D (f := f5) (by decide) l5 c5 sc5 (d := d__law_take) rfl rfl M5 ck5
  have M6 : MG l.prog w K mg base 8 g6 tb6 := M5.add (PySem.W.mg_of X G a5) k5 F5 (Binds.all fun us hl => match us, hl with | [_, _], _ => rfl) (by decide +kernel)
  have F6 := fn_D (f := f6) (by decide) l6 c6 sc6 (d := d__law_pick) rfl rfl M6 ck6
  have M7 : MG l.prog w K mg base 9 g7 tb7 := M6.add (PySem.W.mg_of X G a6) k6 F6 (Binds.all fun us hl => match us, hl with | [_, _], _ => rfl) (by decide +kernel)
  have F7 := fn_D (f := f7) (by decide) l7 c7 sc7 (d := d__law_number) rfl rfl M7 ck7
  have M8 : MG l.prog w K mg base 10 g8 tb8 := M7.add (PySem.W.mg_of X G a7) k7 F7 (Binds.all fun us hl => match us, hl with | [_, _], _ => rfl) (by decide +kernel)
  have F8 := fn_D (f := f8) (by decide) l8 c8 sc8 (d := d__law_form) rfl rfl M8 ck8
  have M9 : MG l.prog w K mg base 11 g9 tb9 := M8.add (PySem.W.mg_of X G a8) k8 F8 (Binds.all fun us hl => match us, hl with | [_], _ => rfl) (by decide +kernel)
  have F9 := fn_D (f := f9) (by decide) l9 c9 sc9 (d := d__law_spoilt) rfl rfl M9 ck9
  have M10 : MG l.prog w K mg base 12 g10 tb10 := M9.add (PySem.W.mg_of X G a9) k9 F9 (Binds.all fun us hl => match us, hl with | [_, _], _ => rfl) (by decide +kernel)
  have F10 := fn_D (f := f10) (by decide) l10 c10 sc10 (d := d__law_odd) rfl rfl M10 ck10
  have M11 : MG l.prog w K mg base 13 g11 tb11 := M10.add (PySem.W.mg_of X G a10) k10 F10 (Binds.all fun us hl => match us, hl with | [_, _], _ => rfl) (by decide +kernel)
  have F11 := fn_errD (P := l.prog) (w := w) (mg := mg) (base := base) (k := 13) (g := g11) (f := f11) (np := 2) (ns := 3) l11 sc11
  have M12 : MG l.prog w K mg base 14 g12 tb12 := M11.add (PySem.W.mg_of X G a11) k11 F11 (Binds.all fun us hl => match us, hl with | [_, _], _ => rfl) (by decide +kernel)
  have F12 := fn_D (f := f12) (by decide) l12 c12 sc12 (d := d__law_bent_1) rfl rfl M12 ck12
  have M13 : MG l.prog w K mg base 15 g13 tb13 := M12.add (PySem.W.mg_of X G a12) k12 F12 (Binds.all fun us hl => match us, hl with | [_, _], _ => rfl) (by decide +kernel)
  have F13 := fn_D (f := f13) (by decide) l13 c13 sc13 (d := d__law_bent_2) rfl rfl M13 ck13
  have M14 : MG l.prog w K mg base 16 g14 tb14 := M13.add (PySem.W.mg_of X G a13) k13 F13 (Binds.all fun us hl => match us, hl with | [_, _], _ => rfl) (by decide +kernel)
  have F14 := fn_D (f := f14) (by decide) l14 c14 sc14 (d := d__law_bent_3) rfl rfl M14 ck14
  have M15 : MG l.prog w K mg base 17 g15 tb15 := M14.add (PySem.W.mg_of X G a14) k14 F14 (Binds.all fun us hl => match us, hl with | [_, _], _ => rfl) (by decide +kernel)
  have F15 := fn_D (f := f15) (by decide) l15 c15 sc15 (d := d__law_bent_4) rfl rfl M15 ck15
  have M16 : MG l.prog w K mg base 18 g16 tb16 := M15.add (PySem.W.mg_of X G a15) k15 F15 (Binds.all fun us hl => match us, hl with | [_, _], _ => rfl) (by decide +kernel)
  have F16 := fn_D (f := f16) (by decide) l16 c16 sc16 (d := d__law_bent_5) rfl rfl M16 ck16
  have M17 : MG l.prog w K mg base 19 g17 tb17 := M16.add (PySem.W.mg_of X G a16) k16 F16 (Binds.all fun us hl => match us, hl with | [_, _], _ => rfl) (by decide +kernel)
  have F17 := fn_D (f := f17) (by decide) l17 c17 sc17 (d := d__law_bent_6) rfl rfl M17 ck17
  have M18 : MG l.prog w K mg base 20 g18 tb18 := M17.add (PySem.W.mg_of X G a17) k17 F17 (Binds.all fun us hl => match us, hl with | [_, _], _ => rfl) (by decide +kernel)
  have F18 := fn_D (f := f18) (by decide) l18 c18 sc18 (d := d__law_whole) rfl rfl M18 ck18
  have M19 : MG l.prog w K mg base 21 g19 tb19 := M18.add (PySem.W.mg_of X G a18) k18 F18 (Binds.all fun us hl => match us, hl with | [_, _], _ => rfl) (by decide +kernel)
  have F19 := fn_D (f := f19) (by decide) l19 c19 sc19 (d := d__law_row) rfl rfl M19 ck19
  have M20 : MG l.prog w K mg base 22 g20 tb20 := M19.add (PySem.W.mg_of X G a19) k19 F19 (Binds.all fun us hl => match us, hl with | [_], _ => rfl) (by decide +kernel)
  have F20 := fn_D (f := f20) (by decide) l20 c20 sc20 (d := d__law_is_form) rfl rfl M20 ck20
  have M21 : MG l.prog w K mg base 23 g21 tb21 := M20.add (PySem.W.mg_of X G a20) k20 F20 (Binds.all fun us hl => match us, hl with | [_], _ => rfl) (by decide +kernel)
  have F21 := fn_D (f := f21) (by decide) l21 c21 sc21 (d := d__law_told) rfl rfl M21 ck21
  have M22 : MG l.prog w K mg base 24 g22 tb22 := M21.add (PySem.W.mg_of X G a21) k21 F21 (Binds.all fun us hl => match us, hl with | [_], _ => rfl) (by decide +kernel)
  have F22 := fn_D (f := fa) (by decide) l22 c22 sc22 (d := d_law) rfl rfl M22 ck22
  · exact F22
  · simp only [bNames, List.mem_cons, List.not_mem_nil, or_false] at hx
    rcases hx with rfl | rfl | rfl | rfl | rfl | rfl | rfl | rfl | rfl | rfl | rfl | rfl | rfl | rfl | rfl | rfl | rfl | rfl | rfl | rfl
    · exact PySem.W.mg_none_of X G z0
    · exact PySem.W.mg_none_of X G z1
    · exact PySem.W.mg_none_of X G z2
    · exact PySem.W.mg_none_of X G z3
    · exact PySem.W.mg_none_of X G z4
    · exact PySem.W.mg_none_of X G z5
    · exact PySem.W.mg_none_of X G z6
    · exact PySem.W.mg_none_of X G z7
    · exact PySem.W.mg_none_of X G z8
    · exact PySem.W.mg_none_of X G z9
    · exact PySem.W.mg_none_of X G z10
    · exact PySem.W.mg_none_of X G z11
    · exact PySem.W.mg_none_of X G z12
    · exact PySem.W.mg_none_of X G z13
    · exact PySem.W.mg_none_of X G z14
    · exact PySem.W.mg_none_of X G z15
    · exact PySem.W.mg_none_of X G z16
    · exact PySem.W.mg_none_of X G z17
    · exact PySem.W.mg_none_of X G z18
    · exact PySem.W.mg_none_of X G z19
  · intro x d hd
    simp only [g0] at hd
    split at hd
    · rename_i e; cases hd; subst e; exact ⟨.int 6, _, PySem.W.mg_of X G ka0, ⟨_, rfl⟩, fun as H => .int _⟩
    split at hd
    · rename_i e; cases hd; subst e; exact ⟨.int 30, _, PySem.W.mg_of X G ka1, ⟨_, rfl⟩, fun as H => .int _⟩
    split at hd
    · rename_i e; cases hd; subst e; exact ⟨.int 12, _, PySem.W.mg_of X G ka2, ⟨_, rfl⟩, fun as H => .int _⟩
    split at hd
    · rename_i e; cases hd; subst e; exact ⟨.int 6, _, PySem.W.mg_of X G ka3, ⟨_, rfl⟩, fun as H => .int _⟩
    · cases hd
end K02
open PySem PySem.W PyProof.Rows
set_option maxRecDepth 100000 in
set_option maxHeartbeats 0 in
theorem PySem.Challenge.cw_ranksredrawn_k02_forms_holds : PySem.Challenge.rw_ranksredrawn_k02_forms.Holds := by
  w_on; o_law; k_head; (case hw => w_witness2)
  k_fill
  refine DV.walk_D (l := PySem.Challenge.rw_ranksredrawn_k02_forms) (n := 63) (k := 25) (x := "_law_script") (R := DV.runF K02.g22 K02.d_law) rfl (by decide) rfl ⟨rfl, by decide, by decide⟩ (fun w h Y => PySem.W.kIn_of Y) ?F K02.plain
  case F =>
    intro w mg fa h KX G hmg
    refine' K02.all_mk KX G hmg ?a0 ?l0 ?c0 ?k0 ?a1 ?l1 ?c1 ?k1 ?a2 ?l2 ?c2 ?k2 ?a3 ?l3 ?c3 ?k3 ?a4 ?l4 ?c4 ?k4 ?a5 ?l5 ?c5 ?k5 ?a6 ?l6 ?c6 ?k6 ?a7 ?l7 ?c7 ?k7 ?a8 ?l8 ?c8 ?k8 ?a9 ?l9 ?c9 ?k9 ?a10 ?l10 ?c10 ?k10 ?a11 ?l11 ?c11 ?k11 ?a12 ?l12 ?c12 ?k12 ?a13 ?l13 ?c13 ?k13 ?a14 ?l14 ?c14 ?k14 ?a15 ?l15 ?c15 ?k15 ?a16 ?l16 ?c16 ?k16 ?a17 ?l17 ?c17 ?k17 ?a18 ?l18 ?c18 ?k18 ?a19 ?l19 ?c19 ?k19 ?a20 ?l20 ?c20 ?k20 ?a21 ?l21 ?c21 ?k21 ?a22 ?l22 ?c22 ?k22 ?z0 ?z1 ?z2 ?z3 ?z4 ?z5 ?z6 ?z7 ?z8 ?z9 ?z10 ?z11 ?z12 ?z13 ?z14 ?z15 ?z16 ?z17 ?z18 ?z19 ?ka0 ?ka1 ?ka2 ?ka3
    (case a0 => k_is); (case l0 => k_is); (case c0 => k_is); (case k0 => k_is); (case a1 => k_is); (case l1 => k_is); (case c1 => k_is); (case k1 => k_is)
    (case a2 => k_is); (case l2 => k_is); (case c2 => k_is); (case k2 => k_is); (case a3 => k_is); (case l3 => k_is); (case c3 => k_is); (case k3 => k_is)
    (case a4 => k_is); (case l4 => k_is); (case c4 => k_is); (case k4 => k_is); (case a5 => k_is); (case l5 => k_is); (case c5 => k_is); (case k5 => k_is)
    (case a6 => k_is); (case l6 => k_is); (case c6 => k_is); (case k6 => k_is); (case a7 => k_is); (case l7 => k_is); (case c7 => k_is); (case k7 => k_is)
    (case a8 => k_is); (case l8 => k_is); (case c8 => k_is); (case k8 => k_is); (case a9 => k_is); (case l9 => k_is); (case c9 => k_is); (case k9 => k_is)
    (case a10 => k_is); (case l10 => k_is); (case c10 => k_is); (case k10 => k_is); (case a11 => k_is); (case l11 => k_is); (case c11 => k_is); (case k11 => k_is)
    (case a12 => k_is); (case l12 => k_is); (case c12 => k_is); (case k12 => k_is); (case a13 => k_is); (case l13 => k_is); (case c13 => k_is); (case k13 => k_is)
    (case a14 => k_is); (case l14 => k_is); (case c14 => k_is); (case k14 => k_is); (case a15 => k_is); (case l15 => k_is); (case c15 => k_is); (case k15 => k_is)
    (case a16 => k_is); (case l16 => k_is); (case c16 => k_is); (case k16 => k_is); (case a17 => k_is); (case l17 => k_is); (case c17 => k_is); (case k17 => k_is)
    (case a18 => k_is); (case l18 => k_is); (case c18 => k_is); (case k18 => k_is); (case a19 => k_is); (case l19 => k_is); (case c19 => k_is); (case k19 => k_is)
    (case a20 => k_is); (case l20 => k_is); (case c20 => k_is); (case k20 => k_is); (case a21 => k_is); (case l21 => k_is); (case c21 => k_is); (case k21 => k_is)
    (case a22 => k_is); (case l22 => k_is); (case c22 => k_is); (case k22 => k_is); (case z0 => k_is); (case z1 => k_is); (case z2 => k_is); (case z3 => k_is)
    (case z4 => k_is); (case z5 => k_is); (case z6 => k_is); (case z7 => k_is); (case z8 => k_is); (case z9 => k_is); (case z10 => k_is); (case z11 => k_is)
    (case z12 => k_is); (case z13 => k_is); (case z14 => k_is); (case z15 => k_is); (case z16 => k_is); (case z17 => k_is); (case z18 => k_is); (case z19 => k_is)
    (case ka0 => k_is); (case ka1 => k_is); (case ka2 => k_is); (case ka3 => k_is)

end
